import PyProof.Rows.All
import PySem.Challenge.RW_whichpaces_k10_ratios_reckoned
import Wide.All
import OpenK.AllK
import Wide.FinOn
import PyProof.EqAt
import PyProof.EqKinds
import PyProof.TupleCall
import HandS.ForMost
import HandS.Exc
import HandS.TryOnly
import HandS.ExcOwn
import HandS.WordsExc
import HandS.Style
import HandS.TupAny
import HandS.Zip
import HandS.Rev
import HandS.Defaults
import HandS.Wide
import HandS.WideBits
import HandS.Gcd
import HandS.IsInst
import HandS.RaiseMore
import HandS.TupLe
import HandS.TryMany
import HandS.ExcField
import KE.KExcIs
import PyProof.ReprLen
/-! ## DLa.lean -/
set_option Elab.async false
set_option linter.all false
set_option maxRecDepth 100000
set_option maxHeartbeats 4000000
namespace DL
open PySem L2

/-- plain data -/
abbrev D := PyData
/-- what a slot holds: nothing known, the frame's one further value, frozen data, an own list, the caller's list (lent, may be changed) -/
inductive B where
  | un
  | ob
  | im (d : D)
  | mu (l : List D)
  | io (l : List D)
/-- an operand: a value, or the object that stands in a slot -/
inductive W where
  | v (b : B)
  | s (i : Nat)
abbrev Gm := List B
abbrev Exn := Str × List (Str × D)
inductive Res (α : Type) where
  | ok (a : α) (g : Gm)
  | ex (e : Exn) (g : Gm)
  | no
def Res.bind {α β : Type} (r : Res α) (k : α → Gm → Res β) : Res β := match r with
  | .ok a g => k a g
  | .ex e g => .ex e g
  | .no => .no
/-- a statement's end -/
inductive SR where
  | nx (g : Gm)
  | rt (b : B) (g : Gm)
  | bk (g : Gm)
  | ct (g : Gm)
  | ex (e : Exn) (g : Gm)
  | no
/-- a def's end -/
inductive FR where
  | ok (b : B) (o : Option (List D))
  | ex (e : Exn) (o : Option (List D))
  | no

/-! ### data in a heap -/
section
variable {K : PySem.W.Frag} {H H' Hf Hf' : Hp}
mutual
theorem dp_mono (e : Same H H') : ∀ (d : D) (v : V), Dp K H v d → Dp K H' v d
  | .none, _, h => by cases h; exact .non
  | .bool b, _, h => by cases h; exact .bl b
  | .int i, _, h => by cases h; exact .int i
  | .str x, _, h => by cases h; exact .str x
  | .list ds, _, h => by
    cases h with
    | lst hs ha => exact .lst (e.seq hs) (dpa_mono e ds _ ha)
  | .tuple ds, _, h => by
    cases h with
    | tup hs ha => exact .tup (by
        rcases hs with (h | ⟨o, h⟩) | h
        · exact .inl (.inl (e _ _ h))
        · exact .inl (.inr ⟨o, e _ _ h⟩)
        · exact .inr h) (dpa_mono e ds _ ha)
  | .dict _, _, h => by cases h
theorem dpa_mono (e : Same H H') : ∀ (ds : List D) (vs : List V), DpAll K H vs ds → DpAll K H' vs ds
  | [], _, h => by cases h; exact .nil
  | d :: ds, _, h => by
    cases h with
    | cons h1 h2 => exact .cons (dp_mono e d _ h1) (dpa_mono e ds _ h2)
end
theorem dpa_len : ∀ {ds : List D} {vs : List V}, DpAll K H vs ds → vs.length = ds.length
  | [], _, h => by cases h; rfl
  | d :: ds, _, h => by
    cases h with
    | cons h1 h2 => simp [dpa_len h2]
theorem dpa_get : ∀ {ds : List D} {vs : List V} {i : Nat} {d : D}, DpAll K H vs ds → ds[i]? = some d → ∃ v, vs[i]? = some v ∧ Dp K H v d
  | [], _, i, d, h, e => by simp at e
  | x :: ds, _, 0, d, h, e => by
    cases h with
    | cons h1 h2 => simp at e; subst e; exact ⟨_, rfl, h1⟩
  | x :: ds, _, i + 1, d, h, e => by
    cases h with
    | cons h1 h2 =>
      obtain ⟨v, h3, h4⟩ := dpa_get (i := i) h2 (by simpa using e)
      exact ⟨v, by simpa using h3, h4⟩
theorem dpa_get' : ∀ {ds : List D} {vs : List V} {i : Nat} {v : V}, DpAll K H vs ds → vs[i]? = some v → ∃ d, ds[i]? = some d ∧ Dp K H v d
  | [], _, i, v, h, e => by cases h; simp at e
  | x :: ds, _, 0, v, h, e => by
    cases h with
    | cons h1 h2 => simp at e; subst e; exact ⟨_, rfl, h1⟩
  | x :: ds, _, i + 1, v, h, e => by
    cases h with
    | cons h1 h2 =>
      obtain ⟨d, h3, h4⟩ := dpa_get' (i := i) h2 (by simpa using e)
      exact ⟨d, by simpa using h3, h4⟩
theorem dpa_append : ∀ {ds es : List D} {vs ws : List V}, DpAll K H vs ds → DpAll K H ws es → DpAll K H (vs ++ ws) (ds ++ es)
  | [], _, _, _, h, k => by cases h; exact k
  | d :: ds, _, _, _, h, k => by
    cases h with
    | cons h1 h2 => exact .cons h1 (dpa_append h2 k)
theorem dpa_take : ∀ (n : Nat) {ds : List D} {vs : List V}, DpAll K H vs ds → DpAll K H (vs.take n) (ds.take n)
  | 0, _, _, _ => by simp; exact .nil
  | n + 1, [], _, h => by cases h; simp; exact .nil
  | n + 1, d :: ds, _, h => by
    cases h with
    | cons h1 h2 => exact .cons h1 (dpa_take n h2)
theorem dpa_drop : ∀ (n : Nat) {ds : List D} {vs : List V}, DpAll K H vs ds → DpAll K H (vs.drop n) (ds.drop n)
  | 0, _, _, h => h
  | n + 1, [], _, h => by cases h; simp; exact .nil
  | n + 1, d :: ds, _, h => by
    cases h with
    | cons h1 h2 => exact dpa_drop n h2
theorem dpa_set : ∀ {ds : List D} {vs : List V} (i : Nat) {d : D} {v : V}, DpAll K H vs ds → Dp K H v d → DpAll K H (vs.set i v) (ds.set i d)
  | [], _, i, _, _, h, _ => by cases h; simp; exact .nil
  | x :: ds, _, 0, _, _, h, k => by
    cases h with
    | cons h1 h2 => exact .cons k h2
  | x :: ds, _, i + 1, _, _, h, k => by
    cases h with
    | cons h1 h2 => exact .cons h1 (dpa_set i h2 k)
theorem dpa_rev {ds : List D} {vs : List V} (h : DpAll K H vs ds) : DpAll K H vs.reverse ds.reverse := by
  induction ds generalizing vs with
  | nil => cases h; exact .nil
  | cons d ds ih =>
    cases h with
    | cons h1 h2 =>
      rw [List.reverse_cons, List.reverse_cons]
      exact dpa_append (ih h2) (.cons h1 .nil)
theorem dpa_ints : ∀ {vs : List V} {ns : List Int}, DpAll K H vs (ns.map PyData.int) → vs = ns.map V.int
  | _, [], h => by cases h; rfl
  | _, n :: ns, h => by
    cases h with
    | cons h1 h2 => cases h1; rw [dpa_ints h2]; rfl
theorem dpa_of_ints : ∀ (ns : List Int), DpAll K H (ns.map V.int) (ns.map PyData.int)
  | [] => .nil
  | n :: ns => .cons (.int n) (dpa_of_ints ns)
end

/-! ### the roots -/
structure Zs where
  He : Hp
  Hf : Hp
  io : Option Addr
  ob : V
def RB (K : PySem.W.Frag) (Z : Zs) (H Hf : Hp) (v : Option V) : B → Prop
  | .un => True
  | .ob => v = some Z.ob
  | .im d => ∃ x, v = some x ∧ Dp K Hf x d
  | .mu l => ∃ a xs, v = some (.ref a) ∧ Z.He a = none ∧ Hf a = none ∧ H a = some (.lst xs) ∧ DpAll K Hf xs l
  | .io l => ∃ a xs, v = some (.ref a) ∧ Z.io = some a ∧ Hf a = none ∧ H a = some (.lst xs) ∧ DpAll K Hf xs l
abbrev Rt := Option V × B
def ow (a : Addr) : Rt → Nat
  | (some (.ref b), .mu _) => if b = a then 1 else 0
  | (some (.ref b), .io _) => if b = a then 1 else 0
  | _ => 0
def cnt (a : Addr) : List Rt → Nat
  | [] => 0
  | p :: r => ow a p + cnt a r
theorem cnt_append (a : Addr) : ∀ r s : List Rt, cnt a (r ++ s) = cnt a r + cnt a s
  | [], s => by simp [cnt]
  | p :: r, s => by
    show ow a p + cnt a (r ++ s) = ow a p + cnt a r + cnt a s
    rw [cnt_append a r s]; omega
theorem cnt_mem {a : Addr} : ∀ {r : List Rt} {p : Rt}, p ∈ r → ow a p ≤ cnt a r
  | q :: r, p, h => by
    rcases List.mem_cons.mp h with rfl | h
    · exact Nat.le_add_right _ _
    · exact Nat.le_trans (cnt_mem h) (Nat.le_add_left _ _)
theorem cnt_set {a : Addr} : ∀ {r : List Rt} {i : Nat} {p q : Rt}, r[i]? = some p → cnt a (r.set i q) + ow a p = cnt a r + ow a q
  | [], i, p, q, h => by simp at h
  | x :: r, 0, p, q, h => by
    simp at h; subst h
    show ow a q + cnt a r + ow a x = ow a x + cnt a r + ow a q
    omega
  | x :: r, i + 1, p, q, h => by
    have := cnt_set (a := a) (r := r) (i := i) (p := p) (q := q) (by simpa using h)
    show ow a x + cnt a (r.set i q) + ow a p = ow a x + cnt a r + ow a q
    omega
theorem zip_set {α β : Type} : ∀ (l : List α) (m : List β) (i : Nat) (x : α) (y : β), (l.set i x).zip (m.set i y) = (l.zip m).set i (x, y)
  | [], _, _, _, _ => by simp
  | _ :: _, [], _, _, _ => by simp
  | a :: l, b :: m, 0, x, y => rfl
  | a :: l, b :: m, i + 1, x, y => by
    show (a, b) :: (l.set i x).zip (m.set i y) = (a, b) :: (l.zip m).set i (x, y)
    rw [zip_set l m i x y]
theorem zip_set_r {α β : Type} : ∀ (l : List α) (m : List β) (i : Nat) (x : α) (y : β), l[i]? = some x → l.zip (m.set i y) = (l.zip m).set i (x, y)
  | [], _, _, _, _, h => by simp at h
  | a :: l, [], i, _, _, _ => by simp
  | a :: l, b :: m, 0, x, y, h => by simp at h; subst h; rfl
  | a :: l, b :: m, i + 1, x, y, h => by
    show (a, b) :: l.zip (m.set i y) = (a, b) :: (l.zip m).set i (x, y)
    rw [zip_set_r l m i x y (by simpa using h)]
theorem zip_get {α β : Type} : ∀ {l : List α} {m : List β} {i : Nat} {x : α} {y : β}, l[i]? = some x → m[i]? = some y → (l.zip m)[i]? = some (x, y)
  | [], _, _, _, _, h, _ => by simp at h
  | a :: l, [], i, _, _, _, h => by simp at h
  | a :: l, b :: m, 0, x, y, h, k => by simp at h k; subst h; subst k; rfl
  | a :: l, b :: m, i + 1, x, y, h, k => by
    have := zip_get (l := l) (m := m) (i := i) (x := x) (y := y) (by simpa using h) (by simpa using k)
    simpa using this
def root : V × W → Rt
  | (x, .v b) => (some x, b)
  | (x, .s _) => (some x, .un)
def rts (σ : L2.St) (g : Gm) (ps : List (V × W)) : List Rt := σ.zip g ++ ps.map root

/-- the state: slots σ hold g, operands that wait are ps; H the heap, Hf its frozen part -/
structure Stx (K : PySem.W.Frag) (Z : Zs) (g : Gm) (σ : L2.St) (ps : List (V × W)) (H Hf : Hp) : Prop where
  len : σ.length = g.length
  frz : Same Hf H
  out : ∀ b o, Z.He b = some o → Z.io ≠ some b → H b = some o
  old : Same Z.Hf Hf
  new : ∀ b o, Hf b = some o → Z.Hf b = some o ∨ Z.He b = none
  iol : ∀ a, Z.io = some a → ∃ o, H a = some o
  rel : ∀ p ∈ rts σ g ps, RB K Z H Hf p.1 p.2
  nod : ∀ a, cnt a (rts σ g ps) ≤ 1
  als : ∀ x i, (x, W.s i) ∈ ps → σ[i]? = some (some x)

section
variable {K : PySem.W.Frag} {Z : Zs} {g g' : Gm} {σ σ' : L2.St} {ps qs : List (V × W)} {H H' Hf Hf' : Hp}
theorem Stx.he (S : Stx K Z g σ ps H Hf) {p : Addr} (h : H p = none) : Z.He p = none := by
  cases e : Z.He p with
  | none => rfl
  | some o =>
    by_cases hi : Z.io = some p
    · obtain ⟨u, hu⟩ := S.iol p hi
      rw [h] at hu; cases hu
    · rw [S.out p o e hi] at h; cases h
theorem Stx.hf (S : Stx K Z g σ ps H Hf) {p : Addr} (h : H p = none) : Hf p = none := by
  cases e : Hf p with
  | none => rfl
  | some o => rw [S.frz p o e] at h; cases h
/-- an owned root's object -/
theorem ow_of {a : Addr} {p : Rt} (h : 0 < ow a p) : ∃ l, p = (some (.ref a), .mu l) ∨ p = (some (.ref a), .io l) := by
  obtain ⟨v, b⟩ := p
  cases b with
  | un => cases v with
    | none => simp [ow] at h
    | some v => cases v <;> simp [ow] at h
  | ob => cases v with
    | none => simp [ow] at h
    | some v => cases v <;> simp [ow] at h
  | im d => cases v with
    | none => simp [ow] at h
    | some v => cases v <;> simp [ow] at h
  | mu l => cases v with
    | none => simp [ow] at h
    | some v =>
      cases v with
      | ref b =>
        simp only [ow] at h
        split at h
        · rename_i e; subst e; exact ⟨l, .inl rfl⟩
        · omega
      | _ => simp [ow] at h
  | io l => cases v with
    | none => simp [ow] at h
    | some v =>
      cases v with
      | ref b =>
        simp only [ow] at h
        split at h
        · rename_i e; subst e; exact ⟨l, .inr rfl⟩
        · omega
      | _ => simp [ow] at h
theorem rb_ow {a : Addr} {p : Rt} (r : RB K Z H Hf p.1 p.2) (h : 0 < ow a p) : Hf a = none ∧ ∃ xs, H a = some (.lst xs) := by
  obtain ⟨l, e | e⟩ := ow_of h
  · subst e
    obtain ⟨a', xs, e1, _, e3, e4, _⟩ := r
    cases e1
    exact ⟨e3, xs, e4⟩
  · subst e
    obtain ⟨a', xs, e1, _, e3, e4, _⟩ := r
    cases e1
    exact ⟨e3, xs, e4⟩
theorem cnt_pos {a : Addr} : ∀ {r : List Rt}, 0 < cnt a r → ∃ p ∈ r, 0 < ow a p
  | [], h => by simp [cnt] at h
  | q :: r, h => by
    by_cases e : 0 < ow a q
    · exact ⟨q, List.mem_cons_self, e⟩
    · have h' : 0 < ow a q + cnt a r := h
      obtain ⟨p, hp, k⟩ := cnt_pos (a := a) (r := r) (by omega)
      exact ⟨p, List.mem_cons_of_mem _ hp, k⟩
theorem cnt_none (r : List Rt) {p : Addr} (rel : ∀ q ∈ r, RB K Z H Hf q.1 q.2) (h : H p = none) : cnt p r = 0 := by
  cases e : cnt p r with
  | zero => rfl
  | succ n =>
    obtain ⟨q, hq, k⟩ := cnt_pos (a := p) (r := r) (by omega)
    obtain ⟨_, xs, hx⟩ := rb_ow (rel q hq) k
    rw [h] at hx; cases hx
theorem Stx.cnt0 (S : Stx K Z g σ ps H Hf) {p : Addr} (h : H p = none) : cnt p (rts σ g ps) = 0 := cnt_none _ S.rel h
/-- a root is as good behind a step: frozen things stay, its own object is as it was -/
theorem rb_step {v : Option V} {b : B} (r : RB K Z H Hf v b) (hf : Same Hf Hf') (ho : ∀ a, 0 < ow a (v, b) → H' a = H a ∧ Hf' a = none) : RB K Z H' Hf' v b := by
  cases b with
  | un => trivial
  | ob => exact r
  | im d => obtain ⟨x, e, h⟩ := r; exact ⟨x, e, dp_mono hf d x h⟩
  | mu l =>
    obtain ⟨a, xs, e, h1, h2, h3, h4⟩ := r
    subst e
    obtain ⟨k1, k2⟩ := ho a (by simp [ow])
    exact ⟨a, xs, rfl, h1, k2, k1.trans h3, dpa_mono hf l xs h4⟩
  | io l =>
    obtain ⟨a, xs, e, h1, h2, h3, h4⟩ := r
    subst e
    obtain ⟨k1, k2⟩ := ho a (by simp [ow])
    exact ⟨a, xs, rfl, h1, k2, k1.trans h3, dpa_mono hf l xs h4⟩
/-- the heap grows -/
theorem Stx.step (S : Stx K Z g σ ps H Hf) (hh : Same H H') (hf : Same Hf Hf') (fh : Same Hf' H') (nw : ∀ b o, Hf' b = some o → Hf b = some o ∨ H b = none) : Stx K Z g σ ps H' Hf' where
  len := S.len
  frz := fh
  out := fun b o e hi => hh b o (S.out b o e hi)
  old := S.old.trans hf
  new := fun b o e => by
    rcases nw b o e with k | k
    · exact S.new b o k
    · exact .inr (S.he k)
  iol := fun a e => by
    obtain ⟨o, h⟩ := S.iol a e
    exact ⟨o, hh a o h⟩
  rel := fun p hp => rb_step (S.rel p hp) hf fun a ha => by
    obtain ⟨h1, xs, h2⟩ := rb_ow (S.rel p hp) ha
    refine ⟨(hh a _ h2).trans h2.symm, ?_⟩
    cases e : Hf' a with
    | none => rfl
    | some o =>
      rcases nw a o e with k | k
      · rw [h1] at k; cases k
      · rw [h2] at k; cases k
  nod := S.nod
  als := S.als
theorem rts_app (σ : L2.St) (g : Gm) (ps qs : List (V × W)) : rts σ g (ps ++ qs) = rts σ g ps ++ qs.map root := by
  unfold rts
  rw [List.map_append, List.append_assoc]
/-- operands are left -/
theorem Stx.drop (S : Stx K Z g σ (ps ++ qs) H Hf) : Stx K Z g σ ps H Hf where
  len := S.len
  frz := S.frz
  out := S.out
  old := S.old
  new := S.new
  iol := S.iol
  rel := fun p hp => S.rel p (by rw [rts_app]; exact List.mem_append_left _ hp)
  nod := fun a => by
    have := S.nod a
    rw [rts_app, cnt_append] at this
    omega
  als := fun x i h => S.als x i (List.mem_append_left _ h)
/-- a new operand -/
theorem Stx.push (S : Stx K Z g σ ps H Hf) {x : V} {b : B} (r : RB K Z H Hf (some x) b) (hc : ∀ a, cnt a (rts σ g ps) + ow a (some x, b) ≤ 1) : Stx K Z g σ (ps ++ [(x, .v b)]) H Hf where
  len := S.len
  frz := S.frz
  out := S.out
  old := S.old
  new := S.new
  iol := S.iol
  rel := fun p hp => by
    rw [rts_app] at hp
    rcases List.mem_append.mp hp with h | h
    · exact S.rel p h
    · simp [root] at h
      subst h
      exact r
  nod := fun a => by
    rw [rts_app, cnt_append]
    show _ + (ow a (root (x, .v b)) + 0) ≤ 1
    have := hc a
    show _ + (ow a (some x, b) + 0) ≤ 1
    omega
  als := fun y i h => by
    rcases List.mem_append.mp h with h | h
    · exact S.als y i h
    · simp at h
theorem ow_im {a : Addr} {v : Option V} {d : D} : ow a (v, .im d) = 0 := by
  cases v with
  | none => rfl
  | some v => cases v <;> rfl
theorem ow_ob {a : Addr} {v : Option V} : ow a (v, .ob) = 0 := by
  cases v with
  | none => rfl
  | some v => cases v <;> rfl
theorem ow_un {a : Addr} {v : Option V} : ow a (v, .un) = 0 := by
  cases v with
  | none => rfl
  | some v => cases v <;> rfl
theorem Stx.pushIm (S : Stx K Z g σ ps H Hf) {x : V} {d : D} (h : Dp K Hf x d) : Stx K Z g σ (ps ++ [(x, .v (.im d))]) H Hf :=
  S.push ⟨x, rfl, h⟩ fun a => by rw [ow_im]; exact S.nod a
theorem Stx.pushS (S : Stx K Z g σ ps H Hf) {x : V} {i : Nat} (h : σ[i]? = some (some x)) : Stx K Z g σ (ps ++ [(x, .s i)]) H Hf where
  len := S.len
  frz := S.frz
  out := S.out
  old := S.old
  new := S.new
  iol := S.iol
  rel := fun p hp => by
    rw [rts_app] at hp
    rcases List.mem_append.mp hp with h | h
    · exact S.rel p h
    · simp [root] at h
      subst h
      trivial
  nod := fun a => by
    rw [rts_app, cnt_append]
    show _ + (ow a (some x, .un) + 0) ≤ 1
    rw [ow_un]
    exact S.nod a
  als := fun y j k => by
    rcases List.mem_append.mp k with k | k
    · exact S.als y j k
    · simp at k
      obtain ⟨rfl, rfl⟩ := k
      exact h
/-- what a step makes: a value, frozen or a new own list -/
structure Grow (K : PySem.W.Frag) (H Hf H' Hf' : Hp) (x : V) (b : B) : Prop where
  hh : Same H H'
  hf : Same Hf Hf'
  fh : Same Hf' H'
  nw : ∀ b o, Hf' b = some o → Hf b = some o ∨ H b = none
  is : match b with
    | .im d => Dp K Hf' x d
    | .mu l => ∃ p xs, x = .ref p ∧ H p = none ∧ Hf' p = none ∧ H' p = some (.lst xs) ∧ DpAll K Hf' xs l
    | _ => False
theorem Stx.grow (S : Stx K Z g σ ps H Hf) {x : V} {b : B} (G : Grow K H Hf H' Hf' x b) : Stx K Z g σ (ps ++ [(x, .v b)]) H' Hf' := by
  have S' := S.step G.hh G.hf G.fh G.nw
  have h := G.is
  cases b with
  | un => exact h.elim
  | ob => exact h.elim
  | io l => exact h.elim
  | im d => exact S'.pushIm h
  | mu l =>
    obtain ⟨p, xs, rfl, h1, h2, h3, h4⟩ := h
    refine S'.push ⟨p, xs, rfl, S.he h1, h2, h3, h4⟩ fun a => ?_
    by_cases e : p = a
    · subst e
      rw [S.cnt0 h1]
      simp [ow]
    · have : ow a (some (V.ref p), B.mu l) = 0 := by simp [ow, e]
      rw [this]
      exact S.nod a
/-- nothing new -/
theorem Grow.same (f : Same Hf H) {x : V} {d : D} (h : Dp K Hf x d) : Grow K H Hf H Hf x (.im d) := ⟨Same.refl _, Same.refl _, f, fun _ _ e => .inl e, h⟩
theorem same_new {p : Addr} {o : HO} (h : H p = none) : Same H (upd H p o) := fun b u e => by
  rw [upd_ne (ne_of_none e h)]
  exact e
theorem same_upd2 {p : Addr} {o : HO} (f : Same Hf H) (h : H p = none) : Same (upd Hf p o) (upd H p o) := fun b u e => by
  by_cases hb : b = p
  · subst hb
    rw [upd_same] at e ⊢
    exact e
  · rw [upd_ne hb] at e ⊢
    exact f b u e
theorem hf_none (f : Same Hf H) {p : Addr} (h : H p = none) : Hf p = none := f.free h
/-- a new frozen object -/
theorem Grow.obj (f : Same Hf H) {p : Addr} {o : HO} (hp : H p = none) {x : V} {d : D} (h : Dp K (upd Hf p o) x d) : Grow K H Hf (upd H p o) (upd Hf p o) x (.im d) :=
  ⟨same_new hp, same_new (hf_none f hp), same_upd2 f hp, fun b u e => by
    by_cases hb : b = p
    · subst hb; exact .inr hp
    · rw [upd_ne hb] at e; exact .inl e, h⟩
theorem Grow.tup (f : Same Hf H) {p : Addr} {xs : List V} {l : List D} (hp : H p = none) (h : DpAll K Hf xs l) : Grow K H Hf (upd H p (.tup xs)) (upd Hf p (.tup xs)) (.ref p) (.im (.tuple l)) :=
  Grow.obj f hp (.tup (.inl (.inl upd_same)) (dpa_mono (same_new (hf_none f hp)) l xs h))
/-- a new own list -/
theorem Grow.lst (f : Same Hf H) {p : Addr} {xs : List V} {l : List D} (hp : H p = none) (h : DpAll K Hf xs l) : Grow K H Hf (upd H p (.lst xs)) Hf (.ref p) (.mu l) :=
  ⟨same_new hp, Same.refl _, fun b u e => same_new hp b u (f b u e), fun _ _ e => .inl e, p, xs, rfl, hp, hf_none f hp, upd_same, h⟩
end
end DL
/-! ## DLb.lean -/
set_option Elab.async false
set_option linter.all false
set_option maxRecDepth 100000
set_option maxHeartbeats 4000000
namespace DL
open PySem L2

/-! ### reading operands -/
def rd (g : Gm) : W → Option D
  | .v (.im d) => some d
  | .v (.mu l) => some (.list l)
  | .v _ => none
  | .s i => match g[i]? with
    | some (.im d) => some d
    | some (.mu l) => some (.list l)
    | some (.io l) => some (.list l)
    | _ => none
/-- x may be read as d: frozen, or a list of the frame's own -/
def Rdb (K : PySem.W.Frag) (H Hf : Hp) (x : V) (d : D) : Prop :=
  Dp K Hf x d ∨ ∃ a xs l, x = .ref a ∧ d = .list l ∧ H a = some (.lst xs) ∧ DpAll K Hf xs l
section
variable {K : PySem.W.Frag} {Z : Zs} {g g' : Gm} {σ σ' : L2.St} {ps qs : List (V × W)} {H H' Hf Hf' : Hp} {x : V} {d : D} {l : List D} {i : Nat}
theorem rb_rd {b : B} (r : RB K Z H Hf (some x) b) (h : rd [] (.v b) = some d) : Rdb K H Hf x d := by
  cases b with
  | un => simp [rd] at h
  | ob => simp [rd] at h
  | im e =>
    simp [rd] at h
    subst h
    obtain ⟨y, e1, e2⟩ := r
    cases e1
    exact .inl e2
  | mu l =>
    simp [rd] at h
    subst h
    obtain ⟨a, xs, e1, _, _, e3, e4⟩ := r
    cases e1
    exact .inr ⟨a, xs, l, rfl, rfl, e3, e4⟩
  | io l => simp [rd] at h
theorem Stx.root_mem (S : Stx K Z g σ ps H Hf) {w : W} (h : (x, w) ∈ ps) : root (x, w) ∈ rts σ g ps :=
  List.mem_append_right _ (List.mem_map.mpr ⟨_, h, rfl⟩)
theorem Stx.slot (S : Stx K Z g σ ps H Hf) {i : Nat} {b : B} {v : Option V} (h1 : σ[i]? = some v) (h2 : g[i]? = some b) : (v, b) ∈ rts σ g ps :=
  List.mem_append_left _ (List.mem_of_getElem? (zip_get h1 h2))
theorem Stx.rd (S : Stx K Z g σ ps H Hf) {w : W} (hm : (x, w) ∈ ps) (h : rd g w = some d) : Rdb K H Hf x d := by
  cases w with
  | v b => exact rb_rd (S.rel _ (S.root_mem hm)) (by cases b <;> exact h)
  | s i =>
    have hs := S.als x i hm
    simp only [DL.rd] at h
    cases e : g[i]? with
    | none => rw [e] at h; simp at h
    | some b =>
      rw [e] at h
      have r := S.rel _ (S.slot hs e)
      cases b with
      | un => simp at h
      | ob => simp at h
      | im d' =>
        simp at h; subst h
        obtain ⟨y, e1, e2⟩ := r
        cases e1
        exact .inl e2
      | mu l =>
        simp at h; subst h
        obtain ⟨a, xs, e1, _, _, e3, e4⟩ := r
        cases e1
        exact .inr ⟨a, xs, l, rfl, rfl, e3, e4⟩
      | io l =>
        simp at h; subst h
        obtain ⟨a, xs, e1, _, _, e3, e4⟩ := r
        cases e1
        exact .inr ⟨a, xs, l, rfl, rfl, e3, e4⟩

/-! ### freezing, storing -/
theorem sl_get {g : Gm} {σ : L2.St} (hl : σ.length = g.length) {i : Nat} {b : B} (h : g[i]? = some b) : ∃ v, σ[i]? = some v := by
  have : i < g.length := (List.getElem?_eq_some_iff.mp h).1
  exact ⟨_, List.getElem?_eq_getElem (by omega)⟩
theorem rts_setb (σ : L2.St) (g : Gm) (ps : List (V × W)) {i : Nat} {v : Option V} (b : B) (h : σ[i]? = some v) (hl : σ.length = g.length) : rts σ (g.set i b) ps = (rts σ g ps).set i (v, b) := by
  unfold rts
  rw [zip_set_r σ g i v b h, List.set_append_left]
  rw [List.length_zip]
  have : i < σ.length := (List.getElem?_eq_some_iff.mp h).1
  omega
theorem rts_get (ps : List (V × W)) {i : Nat} {v : Option V} {b : B} (h1 : σ[i]? = some v) (h2 : g[i]? = some b) : (rts σ g ps)[i]? = some (v, b) := by
  unfold rts
  have := zip_get h1 h2
  rw [List.getElem?_append_left (List.getElem?_eq_some_iff.mp this).1]
  exact this
theorem mem_set_or {α : Type} : ∀ {l : List α} {i : Nat} {x y : α}, y ∈ l.set i x → y = x ∨ ∃ j, j ≠ i ∧ l[j]? = some y
  | [], i, x, y, h => by simp at h
  | a :: l, 0, x, y, h => by
    rcases List.mem_cons.mp h with h | h
    · exact .inl h
    · obtain ⟨j, hj⟩ := List.mem_iff_getElem?.mp h
      exact .inr ⟨j + 1, by omega, by simpa using hj⟩
  | a :: l, i + 1, x, y, h => by
    rcases List.mem_cons.mp h with h | h
    · exact .inr ⟨0, by omega, by simp [h]⟩
    · rcases mem_set_or h with k | ⟨j, h1, h2⟩
      · exact .inl k
      · exact .inr ⟨j + 1, by omega, by simpa using h2⟩
/-- the slot i's binding becomes b (the value stays): what the heap may do then -/
theorem Stx.rebind (S : Stx K Z g σ ps H Hf) {i : Nat} {v : Option V} {b0 b : B} (h1 : σ[i]? = some v) (h2 : g[i]? = some b0)
    (hw : ∀ a, ow a (v, b) ≤ ow a (v, b0)) (r : RB K Z H' Hf' v b)
    (hh : ∀ c o, ow c (v, b0) = 0 → H c = some o → H' c = some o) (hf : Same Hf Hf') (fh : Same Hf' H')
    (nw : ∀ c o, Hf' c = some o → Hf c = some o ∨ Z.He c = none)
    (hn : ∀ c, ow c (v, b0) = 0 → Hf c = none → (∃ o, H c = some o) → Hf' c = none)
    (ho : ∀ c o, Z.He c = some o → Z.io ≠ some c → ow c (v, b0) = 0)
    (hi : ∀ c, Z.io = some c → ∃ o, H' c = some o) : Stx K Z (g.set i b) σ ps H' Hf' where
  len := by rw [List.length_set]; exact S.len
  frz := fh
  out := fun c o e k => hh c o (ho c o e k) (S.out c o e k)
  old := S.old.trans hf
  new := fun c o e => by
    rcases nw c o e with k | k
    · exact S.new c o k
    · exact .inr k
  iol := hi
  rel := fun p hp => by
    rw [rts_setb σ g ps b h1 S.len] at hp
    rcases mem_set_or hp with rfl | ⟨j, hj, hp⟩
    · exact r
    · have hm : p ∈ rts σ g ps := List.mem_of_getElem? hp
      refine rb_step (S.rel p hm) hf fun a ha => ?_
      have h0 : ow a (v, b0) = 0 := by
        have ha' : 0 < ow a p := ha
        have e1 : ((rts σ g ps).set i (v, .un))[j]? = some p := by rw [List.getElem?_set_ne (Ne.symm hj)]; exact hp
        have e2 := cnt_mem (a := a) (List.mem_of_getElem? e1)
        have e3 := cnt_set (a := a) (q := (v, B.un)) (rts_get ps h1 h2)
        rw [ow_un] at e3
        have := S.nod a
        omega
      obtain ⟨k1, xs, k2⟩ := rb_ow (S.rel p hm) ha
      exact ⟨(hh a _ h0 k2).trans k2.symm, hn a h0 k1 ⟨_, k2⟩⟩
  nod := fun a => by
    rw [rts_setb σ g ps b h1 S.len]
    have c1 := cnt_set (a := a) (q := (v, b)) (rts_get ps h1 h2)
    have := S.nod a
    have := hw a
    omega
  als := S.als
theorem ow_ref_mu (a c : Addr) (l : List D) : ow c (some (.ref a), .mu l) = if a = c then 1 else 0 := rfl
theorem ow_ref_io (a c : Addr) (l : List D) : ow c (some (.ref a), .io l) = if a = c then 1 else 0 := rfl
theorem ow_ne {a c : Addr} {l : List D} (h : ow c (some (.ref a), .mu l) = 0) : c ≠ a := by
  rintro rfl; simp [ow] at h
theorem ow_ne_io {a c : Addr} {l : List D} (h : ow c (some (.ref a), .io l) = 0) : c ≠ a := by
  rintro rfl; simp [ow] at h
theorem ow_of_ne {a c : Addr} {l : List D} (h : c ≠ a) : ow c (some (.ref a), .mu l) = 0 := by simp [ow, Ne.symm h]
/-- an own list in a slot is frozen -/
theorem Stx.freeze (S : Stx K Z g σ ps H Hf) {i : Nat} {l : List D} (h : g[i]? = some (.mu l)) : ∃ Hf', Same Hf Hf' ∧ Stx K Z (g.set i (.im (.list l))) σ ps H Hf' := by
  obtain ⟨v, hv⟩ := sl_get S.len h
  obtain ⟨a, xs, e1, e2, e3, e4, e5⟩ := S.rel _ (S.slot hv h)
  dsimp only at e1
  subst e1
  have hs : Same Hf (upd Hf a (.lst xs)) := same_new e3
  refine ⟨upd Hf a (.lst xs), hs, S.rebind hv h (fun a => by rw [ow_im]; exact Nat.zero_le _) ⟨_, rfl, .lst (.inl (.inl upd_same)) (dpa_mono hs l xs e5)⟩ (fun c o _ e => e) hs (fun b u e => ?_) (fun c o e => ?_) (fun c k1 k2 _ => ?_) (fun c o k _ => ?_) S.iol⟩
  · by_cases hb : b = a
    · subst hb; rw [upd_same] at e; rw [e4]; exact e
    · rw [upd_ne hb] at e; exact S.frz b u e
  · by_cases hb : c = a
    · subst hb; exact .inr e2
    · rw [upd_ne hb] at e; exact .inl e
  · rw [upd_ne (ow_ne k1)]; exact k2
  · refine ow_of_ne ?_
    rintro rfl
    rw [e2] at k; cases k
/-- an own list in a slot is changed -/
theorem Stx.write (S : Stx K Z g σ ps H Hf) {i : Nat} {l l' : List D} {a : Addr} {xs' : List V} (h : g[i]? = some (.mu l)) (hv : σ[i]? = some (some (.ref a))) (h' : DpAll K Hf xs' l') : Stx K Z (g.set i (.mu l')) σ ps (upd H a (.lst xs')) Hf := by
  obtain ⟨a', xs, e1, e2, e3, e4, e5⟩ := S.rel _ (S.slot hv h)
  cases e1
  refine S.rebind hv h (fun c => Nat.le_refl _) ⟨a, xs', rfl, e2, e3, upd_same, h'⟩ (fun c o k e => ?_) (Same.refl _) (fun b u e => ?_) (fun c o e => .inl e) (fun c _ k2 _ => k2) (fun c o k _ => ?_) (fun c e => ?_)
  · rw [upd_ne (ow_ne k)]; exact e
  · rw [upd_ne (ne_of_none e e3)]; exact S.frz b u e
  · refine ow_of_ne ?_
    rintro rfl
    rw [e2] at k; cases k
  · by_cases hb : c = a
    · subst hb; exact ⟨_, upd_same⟩
    · rw [upd_ne hb]; exact S.iol c e
theorem Stx.writeIo (S : Stx K Z g σ ps H Hf) {i : Nat} {l l' : List D} {a : Addr} {xs' : List V} (h : g[i]? = some (.io l)) (hv : σ[i]? = some (some (.ref a))) (h' : DpAll K Hf xs' l') : Stx K Z (g.set i (.io l')) σ ps (upd H a (.lst xs')) Hf := by
  obtain ⟨a', xs, e1, e2, e3, e4, e5⟩ := S.rel _ (S.slot hv h)
  cases e1
  refine S.rebind hv h (fun c => Nat.le_refl _) ⟨a, xs', rfl, e2, e3, upd_same, h'⟩ (fun c o k e => ?_) (Same.refl _) (fun b u e => ?_) (fun c o e => .inl e) (fun c _ k2 _ => k2) (fun c o k k2 => ?_) (fun c e => ?_)
  · rw [upd_ne (ow_ne_io k)]; exact e
  · rw [upd_ne (ne_of_none e e3)]; exact S.frz b u e
  · show (if a = c then 1 else 0) = 0
    rw [if_neg]
    rintro rfl
    exact k2 e2
  · by_cases hb : c = a
    · subst hb; exact ⟨_, upd_same⟩
    · rw [upd_ne hb]; exact S.iol c e
/-- the last operand goes into the slot i (not the caller's list) -/
def noIo : Option B → Bool
  | some (.io _) => false
  | none => false
  | _ => true
theorem Stx.store {b : B} (S : Stx K Z g σ (ps ++ [(x, .v b)]) H Hf) {i : Nat} (hi : noIo g[i]? = true) (na : ∀ y j, (y, W.s j) ∉ ps) : Stx K Z (g.set i b) (σ.set i (some x)) ps H Hf := by
  obtain ⟨b0, h2⟩ : ∃ b0, g[i]? = some b0 := by
    cases e : g[i]? with
    | none => rw [e] at hi; cases hi
    | some b0 => exact ⟨b0, rfl⟩
  obtain ⟨v, h1⟩ := sl_get S.len h2
  have er : rts (σ.set i (some x)) (g.set i b) ps = (rts σ g ps).set i (some x, b) := by
    unfold rts
    rw [zip_set, List.set_append_left]
    rw [List.length_zip]
    have : i < σ.length := (List.getElem?_eq_some_iff.mp h1).1
    have : i < g.length := (List.getElem?_eq_some_iff.mp h2).1
    omega
  refine ⟨by rw [List.length_set, List.length_set]; exact S.len, S.frz, S.out, S.old, S.new, S.iol, fun p hp => ?_, fun a => ?_, fun y j hm => ?_⟩
  · rw [er] at hp
    rcases mem_set_or hp with rfl | ⟨j, hj, hp⟩
    · exact S.rel (root (x, .v b)) (by rw [rts_app]; exact List.mem_append_right _ (by simp))
    · exact S.rel p (by rw [rts_app]; exact List.mem_append_left _ (List.mem_of_getElem? hp))
  · rw [er]
    have c1 := cnt_set (a := a) (q := (some x, b)) (rts_get ps h1 h2)
    have c2 := S.nod a
    rw [rts_app, cnt_append] at c2
    have c3 : cnt a ([(x, W.v b)].map root) = ow a (some x, b) := Nat.add_zero _
    omega
  · exact (na y j hm).elim
/-- a slot is forgotten -/
theorem Stx.forget (S : Stx K Z g σ ps H Hf) {i : Nat} (hi : noIo g[i]? = true) : Stx K Z (g.set i .un) σ ps H Hf := by
  obtain ⟨b0, h2⟩ : ∃ b0, g[i]? = some b0 := by
    cases e : g[i]? with
    | none => rw [e] at hi; cases hi
    | some b0 => exact ⟨b0, rfl⟩
  obtain ⟨v, h1⟩ := sl_get S.len h2
  refine ⟨by rw [List.length_set]; exact S.len, S.frz, S.out, S.old, S.new, S.iol, fun p hp => ?_, fun a => ?_, S.als⟩
  · rw [rts_setb σ g ps .un h1 S.len] at hp
    rcases mem_set_or hp with rfl | ⟨j, hj, hp⟩
    · trivial
    · exact S.rel p (List.mem_of_getElem? hp)
  · rw [rts_setb σ g ps .un h1 S.len]
    have c1 := cnt_set (a := a) (q := (v, B.un)) (rts_get ps h1 h2)
    rw [ow_un] at c1
    have := S.nod a
    omega
/-- the list in a slot moves out of it, onto the operands -/
theorem Stx.moveOut (S : Stx K Z g σ (ps ++ [(x, .s i)]) H Hf) {l : List D} (h : g[i]? = some (.mu l)) : Stx K Z (g.set i .un) σ (ps ++ [(x, .v (.mu l))]) H Hf := by
  have hs := S.als x i (List.mem_append_right _ (by simp))
  have r := S.rel _ (S.slot hs h)
  have S1 := S.drop
  have S2 := S1.forget (i := i) (by rw [h]; rfl)
  refine S2.push r fun a => ?_
  rw [rts_setb σ g ps .un hs S1.len]
  have c1 := cnt_set (a := a) (q := (some x, B.un)) (rts_get ps hs h)
  rw [ow_un] at c1
  have := S1.nod a
  omega
/-- the last operand, a new list, is frozen -/
theorem Stx.freezeLast (S : Stx K Z g σ (ps ++ [(x, .v (.mu l))]) H Hf) : ∃ Hf', Same Hf Hf' ∧ Stx K Z g σ (ps ++ [(x, .v (.im (.list l)))]) H Hf' := by
  have S1 := S.drop
  obtain ⟨a, xs, e1, e2, e3, e4, e5⟩ := S.rel (root (x, .v (.mu l))) (S.root_mem (List.mem_append_right _ (by simp)))
  cases e1
  have hs : Same Hf (upd Hf a (.lst xs)) := same_new e3
  have c0 : cnt a (rts σ g ps) = 0 := by
    have := S.nod a
    rw [rts_app, cnt_append] at this
    have e : cnt a ([(V.ref a, W.v (.mu l))].map root) = 1 := by simp [cnt, root, ow]
    omega
  refine ⟨upd Hf a (.lst xs), hs, ?_⟩
  have S2 : Stx K Z g σ ps H (upd Hf a (.lst xs)) := by
    refine ⟨S1.len, fun b u e => ?_, S1.out, S1.old.trans hs, fun c o e => ?_, S1.iol, fun p hp => ?_, S1.nod, S1.als⟩
    · by_cases hb : b = a
      · subst hb; rw [upd_same] at e; rw [e4]; exact e
      · rw [upd_ne hb] at e; exact S.frz b u e
    · by_cases hb : c = a
      · subst hb; exact .inr e2
      · rw [upd_ne hb] at e; exact S1.new c o e
    · refine rb_step (S1.rel p hp) hs fun c hc => ⟨rfl, ?_⟩
      obtain ⟨k1, _⟩ := rb_ow (S1.rel p hp) hc
      rw [upd_ne]
      · exact k1
      · intro e
        have hc' : 0 < ow c p := hc
        rw [e] at hc'
        have := cnt_mem (a := a) hp
        omega
  exact S2.pushIm (.lst (.inl (.inl upd_same)) (dpa_mono hs l xs e5))
end
end DL
/-! ## DLc.lean -/
set_option Elab.async false
set_option linter.all false
set_option maxRecDepth 100000
set_option maxHeartbeats 4000000
namespace DL
open PySem L2

theorem PE.imp {X : Cx} {e : Expr} {t t' : TE} (h : PE X e t) (i : ∀ σ H Q, t' σ H Q → t σ H Q) : PE X e t' := ⟨fun pins s σ H Q I k => h.run pins s σ H Q I (i σ H Q k)⟩
theorem PT.imp {X : Cx} {e : Expr} {t t' : TT} (h : PT X e t) (i : ∀ σ H Q, t' σ H Q → t σ H Q) : PT X e t' := ⟨fun pins s σ H Q I k => h.run pins s σ H Q I (i σ H Q k)⟩
theorem PW.imp {X : Cx} {e : Expr} {t t' : TT} (h : PW X e t) (i : ∀ σ H Q, t' σ H Q → t σ H Q) : PW X e t' := ⟨fun wh pins s σ H Q I k => h.run wh pins s σ H Q I (i σ H Q k)⟩
theorem PA.imp {X : Cx} {e : List Expr} {t t' : TA} (h : PA X e t) (i : ∀ σ H Q, t' σ H Q → t σ H Q) : PA X e t' := ⟨fun p pins s σ H Q I k => h.run p pins s σ H Q I (i σ H Q k)⟩
theorem PS.imp {X : Cx} {e : Stmt} {t t' : TS} (h : PS X e t) (i : ∀ D σ H, t' D σ H → t D σ H) : PS X e t' := ⟨fun pins s σ H D I k => h.run pins s σ H D I (i D σ H k)⟩
theorem PSs.imp {X : Cx} {e : List Stmt} {t t' : TS} (h : PSs X e t) (i : ∀ D σ H, t' D σ H → t D σ H) : PSs X e t' := ⟨fun pins s σ H D I k => h.run pins s σ H D I (i D σ H k)⟩

/-! ### ends -/
def FsRep (K : PySem.W.Frag) (Hf : Hp) : List (Str × V) → List (Str × D) → Prop := Paired fun p q => p.1 = q.1 ∧ Dp K Hf p.2 q.2
/-- the exception of the class cls, its own dict at d -/
def IsEx (K : PySem.W.Frag) (mg : Str → Option Value) (Hf : Hp) (cls : Value) (d : Option Addr) (e : Exn) : Prop :=
  ∃ C, mg e.1 = some (.ref C) ∧ cls = .ref C ∧ (e.2 = [] ∧ d = none ∨ ∃ dd fs, d = some dd ∧ Hf dd = some (.xd fs) ∧ FsRep K Hf fs e.2)
def XEnd (X : Cx) (Wx : WX) (Z : Zs) (σ : L2.St) (e : Exn) (g : Gm) : Prop := ∀ cls d H' Hf', Stx X.K Z g σ [] H' Hf' → IsEx X.K X.mg Hf' cls d e → Wx cls d σ H'
def GEnd {α : Type} (X : Cx) (Wx : WX) (Z : Zs) (σ : L2.St) (post : α → Gm → Prop) : Res α → Prop
  | .ok a g => post a g
  | .ex e g => XEnd X Wx Z σ e g
  | .no => False
def RP (X : Cx) (Z : Zs) (σ : L2.St) (ps : List (V × W)) (Hf : Hp) (Q : VK) : W → Gm → Prop := fun w g' => ∀ x H' Hf', Same Hf Hf' → Stx X.K Z g' σ (ps ++ [(x, w)]) H' Hf' → Q x H'
def TPo (X : Cx) (Z : Zs) (σ : L2.St) (ps : List (V × W)) (Hf : Hp) (Q : Bool → Hp → Prop) : Bool → Gm → Prop := fun b g' => ∀ H' Hf', Same Hf Hf' → Stx X.K Z g' σ ps H' Hf' → Q b H'
def AP' (X : Cx) (Z : Zs) (σ : L2.St) (ps : List (V × W)) (Hf : Hp) (Q : List V → Hp → Prop) : List W → Gm → Prop := fun ws g' => ∀ xs H' Hf', Same Hf Hf' → xs.length = ws.length → Stx X.K Z g' σ (ps ++ xs.zip ws) H' Hf' → Q xs H'
def SEnd (X : Cx) (Wx : WX) (Z : Zs) (Hf : Hp) (D : Ends) : SR → Prop
  | .nx g => ∀ σ H' Hf', Same Hf Hf' → Stx X.K Z g σ [] H' Hf' → D.nx σ H'
  | .rt b g => ∀ x σ H' Hf', Same Hf Hf' → Stx X.K Z g σ [(x, .v b)] H' Hf' → D.rt x H'
  | .bk g => ∀ σ H' Hf', Same Hf Hf' → Stx X.K Z g σ [] H' Hf' → D.bk σ H'
  | .ct g => ∀ σ H' Hf', Same Hf Hf' → Stx X.K Z g σ [] H' Hf' → D.ct σ H'
  | .ex e g => ∀ σ, XEnd X Wx Z σ e g
  | .no => False

structure DE (X : Cx) (Wx : WX) (e : Expr) (t : Gm → Res W) : Prop where
  pe : PE X e (fun σ H Q => ∃ Z g ps Hf, Stx X.K Z g σ ps H Hf ∧ GEnd X Wx Z σ (RP X Z σ ps Hf Q) (t g))
structure DT (X : Cx) (Wx : WX) (e : Expr) (t : Gm → Res Bool) : Prop where
  pt : PT X e (fun σ H Q => ∃ Z g ps Hf, Stx X.K Z g σ ps H Hf ∧ GEnd X Wx Z σ (TPo X Z σ ps Hf Q) (t g))
structure DW (X : Cx) (Wx : WX) (e : Expr) (t : Gm → Res Bool) : Prop where
  pw : PW X e (fun σ H Q => ∃ Z g ps Hf, Stx X.K Z g σ ps H Hf ∧ GEnd X Wx Z σ (TPo X Z σ ps Hf Q) (t g))
structure DA (X : Cx) (Wx : WX) (e : List Expr) (t : Gm → Res (List W)) : Prop where
  pa : PA X e (fun σ H Q => ∃ Z g ps Hf, Stx X.K Z g σ ps H Hf ∧ GEnd X Wx Z σ (AP' X Z σ ps Hf Q) (t g))
structure DS (X : Cx) (Wx : WX) (e : Stmt) (t : Gm → SR) : Prop where
  ps : PS X e (fun D σ H => ∃ Z g Hf, Stx X.K Z g σ [] H Hf ∧ SEnd X Wx Z Hf D (t g))
structure DSs (X : Cx) (Wx : WX) (e : List Stmt) (t : Gm → SR) : Prop where
  ps : PSs X e (fun D σ H => ∃ Z g Hf, Stx X.K Z g σ [] H Hf ∧ SEnd X Wx Z Hf D (t g))

section
variable {X : Cx} {Wx : WX} {Z : Zs} {σ : L2.St} {ps : List (V × W)} {H H' Hf Hf' : Hp} {α β : Type} {g : Gm}
theorem GEnd.bind {p : β → Gm → Prop} {r : Res α} {k : α → Gm → Res β} (h : GEnd X Wx Z σ p (r.bind k)) : GEnd X Wx Z σ (fun a g => GEnd X Wx Z σ p (k a g)) r := by
  cases r with
  | ok a g => exact h
  | ex e g => exact h
  | no => exact h
theorem GEnd.mono {p q : α → Gm → Prop} {r : Res α} (h : GEnd X Wx Z σ p r) (i : ∀ a g, p a g → q a g) : GEnd X Wx Z σ q r := by
  cases r with
  | ok a g => exact i a g h
  | ex e g => exact h
  | no => exact h
theorem RP.mono {Q : VK} {w : W} {g : Gm} (h : RP X Z σ ps Hf Q w g) (e : Same Hf Hf') : RP X Z σ ps Hf' Q w g := fun x H' Hf2 k S => h x H' Hf2 (e.trans k) S
theorem TPo.mono {Q : Bool → Hp → Prop} {b : Bool} {g : Gm} (h : TPo X Z σ ps Hf Q b g) (e : Same Hf Hf') : TPo X Z σ ps Hf' Q b g := fun H' Hf2 k S => h H' Hf2 (e.trans k) S
theorem AP'.mono {Q : List V → Hp → Prop} {w : List W} {g : Gm} (h : AP' X Z σ ps Hf Q w g) (e : Same Hf Hf') : AP' X Z σ ps Hf' Q w g := fun x H' Hf2 k l S => h x H' Hf2 (e.trans k) l S
theorem SEnd.mono {D : Ends} {r : SR} (h : SEnd X Wx Z Hf D r) (e : Same Hf Hf') : SEnd X Wx Z Hf' D r := by
  cases r with
  | nx g => exact fun σ H' Hf2 k S => h σ H' Hf2 (e.trans k) S
  | rt b g => exact fun x σ H' Hf2 k S => h x σ H' Hf2 (e.trans k) S
  | bk g => exact fun σ H' Hf2 k S => h σ H' Hf2 (e.trans k) S
  | ct g => exact fun σ H' Hf2 k S => h σ H' Hf2 (e.trans k) S
  | ex e g => exact h
  | no => exact h
def Res.bindS {α : Type} (r : Res α) (k : α → Gm → SR) : SR := match r with
  | .ok a g => k a g
  | .ex e g => .ex e g
  | .no => .no
theorem SEnd.bindS {D : Ends} {r : Res α} {k : α → Gm → SR} (h : SEnd X Wx Z Hf D (r.bindS k)) : GEnd X Wx Z σ (fun a g => SEnd X Wx Z Hf D (k a g)) r := by
  cases r with
  | ok a g => exact h
  | ex e g => exact h σ
  | no => exact h
/-- what to give for an operand -/
theorem giveE {e : Expr} {ta : Gm → Res W} (he : DE X Wx e ta) {Q : VK} (S : Stx X.K Z g σ ps H Hf) {p : W → Gm → Prop} (h : GEnd X Wx Z σ p (ta g))
    (k : ∀ w g' x H' Hf', p w g' → Same Hf Hf' → Stx X.K Z g' σ (ps ++ [(x, w)]) H' Hf' → Q x H') : ∃ Z g ps Hf, Stx X.K Z g σ ps H Hf ∧ GEnd X Wx Z σ (RP X Z σ ps Hf Q) (ta g) :=
  ⟨Z, g, ps, Hf, S, h.mono fun w g' q x H' Hf' s S' => k w g' x H' Hf' q s S'⟩
theorem giveT {e : Expr} {ta : Gm → Res Bool} (he : DT X Wx e ta) {Q : Bool → Hp → Prop} (S : Stx X.K Z g σ ps H Hf) {p : Bool → Gm → Prop} (h : GEnd X Wx Z σ p (ta g))
    (k : ∀ b g' H' Hf', p b g' → Same Hf Hf' → Stx X.K Z g' σ ps H' Hf' → Q b H') : ∃ Z g ps Hf, Stx X.K Z g σ ps H Hf ∧ GEnd X Wx Z σ (TPo X Z σ ps Hf Q) (ta g) :=
  ⟨Z, g, ps, Hf, S, h.mono fun b g' q H' Hf' s S' => k b g' H' Hf' q s S'⟩
theorem giveA {e : List Expr} {ta : Gm → Res (List W)} (he : DA X Wx e ta) {Q : List V → Hp → Prop} (S : Stx X.K Z g σ ps H Hf) {p : List W → Gm → Prop} (h : GEnd X Wx Z σ p (ta g))
    (k : ∀ ws g' xs H' Hf', p ws g' → Same Hf Hf' → xs.length = ws.length → Stx X.K Z g' σ (ps ++ xs.zip ws) H' Hf' → Q xs H') : ∃ Z g ps Hf, Stx X.K Z g σ ps H Hf ∧ GEnd X Wx Z σ (AP' X Z σ ps Hf Q) (ta g) :=
  ⟨Z, g, ps, Hf, S, h.mono fun w g' q x H' Hf' s l S' => k w g' x H' Hf' q s l S'⟩

/-! ### names, constants -/
def eV (i : Nat) (g : Gm) : Res W := match g[i]? with
  | some .ob => .ok (.s i) g
  | some (.im _) => .ok (.s i) g
  | some (.mu _) => .ok (.s i) g
  | some (.io _) => .ok (.s i) g
  | _ => .no
def eC (d : D) (g : Gm) : Res W := .ok (.v (.im d)) g
theorem de_var (i : Nat) {e : Expr} (h : PE X e (tVar i)) : DE X Wx e (eV i) := ⟨PE.imp h fun σ H Q ⟨Z, g, ps, Hf, S, q⟩ => by
  unfold eV at q
  cases e : g[i]? with
  | none => rw [e] at q; exact q.elim
  | some b =>
    obtain ⟨v, hv⟩ := sl_get S.len e
    have r := S.rel _ (S.slot hv e)
    have fin : ∀ x, v = some x → RP X Z σ ps Hf Q (.s i) g → ∃ v, σ[i]? = some (some v) ∧ Q v H := fun x hx k => by
      subst hx
      exact ⟨x, hv, k x H Hf (Same.refl _) (S.pushS hv)⟩
    rw [e] at q
    cases b with
    | un => exact q.elim
    | ob => exact fin _ r q
    | im d => obtain ⟨x, e1, _⟩ := r; exact fin x e1 q
    | mu l => obtain ⟨a, xs, e1, _⟩ := r; exact fin _ e1 q
    | io l => obtain ⟨a, xs, e1, _⟩ := r; exact fin _ e1 q⟩
theorem de_v (i : Nat) {x : Str} {pos : Pos} (hN : X.N[i]? = some x := by rfl) (hv : Vis X.env.scope x := by first | exact Or.inl rfl | exact Or.inr (Or.inl rfl) | exact Or.inr (Or.inr rfl)) (hd : (x == ("__debug__" : Str)) = false := by decide)
    (hcd : (x == ("__classdict__" : Str)) = false := by decide) : DE X Wx (.Name x pos) (eV i) := de_var i (pe_var hN hv hd hcd)
theorem de_tc {e : Expr} {v : V} {d : D} (h : PE X e (tC v)) (hd : ∀ H, Dp X.K H v d) : DE X Wx e (eC d) := ⟨PE.imp h fun σ H Q ⟨Z, g, ps, Hf, S, q⟩ => q v H Hf (Same.refl _) (S.pushIm (hd Hf))⟩
theorem de_int {i : Int} {j pos} : DE X Wx (.Constant (.int i) j pos) (eC (.int i)) := de_tc pe_int fun _ => .int i
theorem de_bl {b : Bool} {j pos} : DE X Wx (.Constant (.bool b) j pos) (eC (.bool b)) := de_tc pe_bl fun _ => .bl b
theorem de_non {j pos} : DE X Wx (.Constant .none j pos) (eC .none) := de_tc pe_non fun _ => .non
theorem de_str {x : Str} {j pos} : DE X Wx (.Constant (.str x) j pos) (eC (.str x)) := de_tc pe_str fun _ => .str x
theorem de_g {x : Str} {v : V} {d : D} {pos : Pos} (hg : Gl X x) (hm : ∃ u, X.mg x = some u ∧ RelV v u) (hd : ∀ H, Dp X.K H v d) (hdb : (x == ("__debug__" : Str)) = false := by decide) : DE X Wx (.Name x pos) (eC d) := by
  obtain ⟨u, h1, h2⟩ := hm
  exact de_tc (pe_glob hg h1 h2 hdb) hd

/-! ### operators on data -/
def put (g : Gm) : Option B → Res W
  | some b => .ok (.v b) g
  | none => .no
/-- two operands, read when both are there -/
def eOp2 (f : D → D → Option B) (ta tb : Gm → Res W) (g : Gm) : Res W := (ta g).bind fun v g1 => (tb g1).bind fun w g2 => put g2 ((rd g2 v).bind fun d => (rd g2 w).bind fun e => f d e)
def eOp1 (f : D → Option B) (ta : Gm → Res W) (g : Gm) : Res W := (ta g).bind fun v g1 => put g1 ((rd g1 v).bind f)
def rdAll (g : Gm) : List W → Option (List D)
  | [] => some []
  | w :: ws => (rd g w).bind fun d => (rdAll g ws).bind fun ds => some (d :: ds)
def eOpN (f : List D → Option B) (ta : Gm → Res (List W)) (g : Gm) : Res W := (ta g).bind fun ws g1 => put g1 ((rdAll g1 ws).bind f)
def Op2 (K : PySem.W.Frag) (r : R2) (f : D → D → Option B) : Prop := ∀ (H Hf : Hp) (x y : V) (d e : D) (b : B) (Q : VK), Same Hf H → Rdb K H Hf x d → Rdb K H Hf y e → f d e = some b →
  (∀ z H' Hf', Grow K H Hf H' Hf' z b → Q z H') → r x y H Q
def Op1 (K : PySem.W.Frag) (r : V → Hp → VK → Prop) (f : D → Option B) : Prop := ∀ (H Hf : Hp) (x : V) (d : D) (b : B) (Q : VK), Same Hf H → Rdb K H Hf x d → f d = some b →
  (∀ z H' Hf', Grow K H Hf H' Hf' z b → Q z H') → r x H Q
inductive RdA (K : PySem.W.Frag) (H Hf : Hp) : List V → List D → Prop
  | nil : RdA K H Hf [] []
  | cons {x : V} {xs : List V} {d : D} {ds : List D} : Rdb K H Hf x d → RdA K H Hf xs ds → RdA K H Hf (x :: xs) (d :: ds)
def OpN (K : PySem.W.Frag) (r : List V → Hp → VK → Prop) (f : List D → Option B) : Prop := ∀ (H Hf : Hp) (xs : List V) (ds : List D) (b : B) (Q : VK), Same Hf H → RdA K H Hf xs ds → f ds = some b →
  (∀ z H' Hf', Grow K H Hf H' Hf' z b → Q z H') → r xs H Q

theorem put_end {o : Option B} {Q : VK} (h : GEnd X Wx Z σ (RP X Z σ ps Hf Q) (put g o)) : ∃ b, o = some b ∧ RP X Z σ ps Hf Q (.v b) g := by
  cases o with
  | none => exact h.elim
  | some b => exact ⟨b, rfl, h⟩
theorem mem_last {x : V} {w : W} : (x, w) ∈ ps ++ [(x, w)] := List.mem_append_right _ (by simp)
theorem rdAll_ok {K : PySem.W.Frag} : ∀ {ws : List W} {xs : List V} {ds : List D} {qs : List (V × W)}, Stx K Z g σ qs H Hf → xs.length = ws.length → (∀ p ∈ xs.zip ws, p ∈ qs) → rdAll g ws = some ds → RdA K H Hf xs ds
  | [], [], ds, qs, S, _, _, h => by simp [rdAll] at h; subst h; exact .nil
  | [], _ :: _, ds, qs, S, l, _, h => by simp at l
  | _ :: _, [], ds, qs, S, l, _, h => by simp at l
  | w :: ws, x :: xs, ds, qs, S, l, m, h => by
    simp only [rdAll] at h
    cases e : DL.rd g w with
    | none => rw [e] at h; simp at h
    | some d =>
      rw [e] at h
      cases e2 : rdAll g ws with
      | none => rw [e2] at h; simp at h
      | some es =>
        rw [e2] at h
        simp at h
        subst h
        exact .cons (S.rd (m _ (by simp)) e) (rdAll_ok S (by simpa using l) (fun p hp => m p (by simp only [List.zip_cons_cons]; exact List.mem_cons_of_mem _ hp)) e2)
/-- the core of a two-place operation -/
theorem op2_core {a b e : Expr} {ta tb : Gm → Res W} {r : R2} {f : D → D → Option B} (ha : DE X Wx a ta) (hb : DE X Wx b tb) (hf : Op2 X.K r f)
    (h : ∀ {TA TB : TE}, PE X a TA → PE X b TB → PE X e (tOp r TA TB)) : DE X Wx e (eOp2 f ta tb) := ⟨PE.imp (h ha.pe hb.pe) fun σ H Q ⟨Z, g, ps, Hf, S, q⟩ => by
  refine giveE ha S q.bind fun w1 g1 x H1 Hf1 q1 s1 S1 => ?_
  refine giveE hb S1 q1.bind fun w2 g2 y H2 Hf2 q2 s2 S2 => ?_
  obtain ⟨c, e1, q3⟩ := put_end q2
  cases e2 : rd g2 w1 with
  | none => rw [e2] at e1; simp at e1
  | some d =>
    cases e3 : rd g2 w2 with
    | none => rw [e2, e3] at e1; simp at e1
    | some d' =>
      rw [e2, e3] at e1
      have m1 : (x, w1) ∈ (ps ++ [(x, w1)]) ++ [(y, w2)] := List.mem_append_left _ mem_last
      refine hf H2 Hf2 x y d d' c Q S2.frz (S2.rd m1 e2) (S2.rd mem_last e3) e1 fun z H3 Hf3 G => ?_
      rw [List.append_assoc] at S2
      exact q3 z H3 Hf3 ((s1.trans s2).trans G.hf) (S2.drop.grow G)⟩
theorem de_bin {a b : Expr} {ta tb : Gm → Res W} {op : Operator} {pos : Pos} {r : R2} {f : D → D → Option B} (ho : OpR X (binaryOp op) r) (hf : Op2 X.K r f) (ha : DE X Wx a ta) (hb : DE X Wx b tb) : DE X Wx (.BinOp a op b pos) (eOp2 f ta tb) :=
  op2_core ha hb hf fun h1 h2 => pe_op ho h1 h2
theorem de_cmp {a b : Expr} {ta tb : Gm → Res W} {op : CmpOp} {pos : Pos} {r : R2} {f : D → D → Option B} (ho : OpR X (compareOp op) r) (hf : Op2 X.K r f) (ha : DE X Wx a ta) (hb : DE X Wx b tb) (hm : behindInMarks op b = false) : DE X Wx (.Compare a [op] [b] pos) (eOp2 f ta tb) :=
  op2_core ha hb hf fun h1 h2 => pe_cmpR ho h1 h2 hm
theorem de_ix {a b : Expr} {ta tb : Gm → Res W} {pos : Pos} {r : R2} {f : D → D → Option B} (ho : IxR X r) (hf : Op2 X.K r f) (ha : DE X Wx a ta) (hb : DE X Wx b tb) (hs : PlainIx b := by exact fun _ _ => rfl) : DE X Wx (.Subscript a b pos) (eOp2 f ta tb) :=
  op2_core ha hb hf fun h1 h2 => pe_ix ho h1 h2 hs
theorem de_un {a : Expr} {ta : Gm → Res W} {op : UnaryOp} {pos : Pos} {r : V → Hp → VK → Prop} {f : D → Option B} (ho : UnR X (unaryOp op) r) (hf : Op1 X.K r f) (ha : DE X Wx a ta) : DE X Wx (.UnaryOp op a pos) (eOp1 f ta) := ⟨PE.imp (pe_un ho ha.pe) fun σ H Q ⟨Z, g, ps, Hf, S, q⟩ => by
  refine giveE ha S q.bind fun w1 g1 x H1 Hf1 q1 s1 S1 => ?_
  obtain ⟨c, e1, q3⟩ := put_end q1
  cases e2 : rd g1 w1 with
  | none => rw [e2] at e1; simp at e1
  | some d =>
    rw [e2] at e1
    refine hf H1 Hf1 x d c Q S1.frz (S1.rd mem_last e2) e1 fun z H3 Hf3 G => ?_
    exact q3 z H3 Hf3 (s1.trans G.hf) (S1.drop.grow G)⟩

/-! ### argument lists -/
def aNil (g : Gm) : Res (List W) := .ok [] g
def aCons (ta : Gm → Res W) (tb : Gm → Res (List W)) (g : Gm) : Res (List W) := (ta g).bind fun w g1 => (tb g1).bind fun ws g2 => .ok (w :: ws) g2
theorem da_nil : DA X Wx [] aNil := ⟨PA.imp pa_nil fun σ H Q ⟨Z, g, ps, Hf, S, q⟩ => by
  have q' : AP' X Z σ ps Hf Q [] g := q
  exact q' [] H Hf (Same.refl _) rfl (by simpa using S)⟩
theorem da_cons {e : Expr} {es : List Expr} {ta : Gm → Res W} {tb : Gm → Res (List W)} (ha : DE X Wx e ta) (hb : DA X Wx es tb) (hs : starEach (e :: es) X.env = (false, eval e X.env) :: starEach es X.env := by rfl) : DA X Wx (e :: es) (aCons ta tb) := ⟨PA.imp (pa_cons ha.pe hb.pa hs) fun σ H Q ⟨Z, g, ps, Hf, S, q⟩ => by
  refine giveE ha S q.bind fun w1 g1 x H1 Hf1 q1 s1 S1 => ?_
  refine giveA hb S1 q1.bind fun ws g2 xs H2 Hf2 q2 s2 l S2 => ?_
  have q' : AP' X Z σ ps Hf Q (w1 :: ws) g2 := q2
  refine q' (x :: xs) H2 Hf2 (s1.trans s2) (by simp [l]) ?_
  rw [List.append_assoc] at S2
  exact S2⟩
theorem de_cb {x : Str} {id : String} {p pos : Pos} {e : Expr} {es : List Expr} {ta : Gm → Res (List W)} {r : List V → Hp → VK → Prop} {f : List D → Option B} (hc : CallR X (.builtin id) r) (hf : OpN X.K r f) (hg : Gl X x) (hm : X.mg x = none) (hv : bootBuiltins x = some (.builtin id)) (ha : DA X Wx (e :: es) ta) (hn : x ≠ "__name__" := by decide) (hdb : (x == ("__debug__" : Str)) = false := by decide)
    (he : starEach (e :: es) X.env = (false, eval e X.env) :: starEach es X.env := by rfl) (hpl : (backTo pos (starEach es X.env)).any (·.1) = false := by rfl) : DE X Wx (.Call (.Name x p) (e :: es) [] pos) (eOpN f ta) := ⟨PE.imp (pe_callB hc hg hm hv ha.pa hn hdb he hpl) fun σ H Q ⟨Z, g, ps, Hf, S, q⟩ => by
  refine giveA ha S q.bind fun ws g1 xs H1 Hf1 q1 s1 l S1 => ?_
  obtain ⟨c, e1, q3⟩ := put_end q1
  cases e2 : rdAll g1 ws with
  | none => rw [e2] at e1; simp at e1
  | some ds =>
    rw [e2] at e1
    refine hf H1 Hf1 xs ds c Q S1.frz (rdAll_ok S1 l (fun p hp => List.mem_append_right _ hp) e2) e1 fun z H3 Hf3 G => ?_
    exact q3 z H3 Hf3 (s1.trans G.hf) (S1.drop.grow G)⟩
theorem de_cty {x : Str} {T : String} {p pos : Pos} {e : Expr} {es : List Expr} {ta : Gm → Res (List W)} {r : List V → Hp → VK → Prop} {f : List D → Option B} (hc : CallR X (.type T) r) (hf : OpN X.K r f) (hg : Gl X x) (hm : X.mg x = none) (hv : bootBuiltins x = some (.type T)) (ha : DA X Wx (e :: es) ta) (hn : x ≠ "__name__" := by decide) (hdb : (x == ("__debug__" : Str)) = false := by decide)
    (he : starEach (e :: es) X.env = (false, eval e X.env) :: starEach es X.env := by rfl) (hpl : (backTo pos (starEach es X.env)).any (·.1) = false := by rfl) : DE X Wx (.Call (.Name x p) (e :: es) [] pos) (eOpN f ta) := ⟨PE.imp (pe_callTy hc hg hm hv ha.pa hn hdb he hpl) fun σ H Q ⟨Z, g, ps, Hf, S, q⟩ => by
  refine giveA ha S q.bind fun ws g1 xs H1 Hf1 q1 s1 l S1 => ?_
  obtain ⟨c, e1, q3⟩ := put_end q1
  cases e2 : rdAll g1 ws with
  | none => rw [e2] at e1; simp at e1
  | some ds =>
    rw [e2] at e1
    refine hf H1 Hf1 xs ds c Q S1.frz (rdAll_ok S1 l (fun p hp => List.mem_append_right _ hp) e2) e1 fun z H3 Hf3 G => ?_
    exact q3 z H3 Hf3 (s1.trans G.hf) (S1.drop.grow G)⟩
end
end DL
/-! ## DLd.lean -/
set_option Elab.async false
set_option linter.all false
set_option maxRecDepth 100000
set_option maxHeartbeats 4000000
namespace DL
open PySem L2

/-! ### operands become values -/
def esc (g : Gm) : W → Option (D × Gm)
  | .v (.im d) => some (d, g)
  | .v (.mu l) => some (.list l, g)
  | .v _ => none
  | .s i => match g[i]? with
    | some (.im d) => some (d, g)
    | some (.mu l) => some (.list l, g.set i (.im (.list l)))
    | _ => none
def settle (g : Gm) : List W → Option (List B × Gm)
  | [] => some ([], g)
  | .v b :: ws => (settle g ws).map fun r => (b :: r.1, r.2)
  | .s i :: ws => match g[i]? with
    | some (.im d) => (settle g ws).map fun r => (.im d :: r.1, r.2)
    | some (.mu l) => (settle (g.set i (.im (.list l))) ws).map fun r => (.im (.list l) :: r.1, r.2)
    | _ => none
section
variable {X : Cx} {Wx : WX} {K : PySem.W.Frag} {Z : Zs} {g g' : Gm} {σ σ' : L2.St} {ps ps' qs : List (V × W)} {H H' Hf Hf' : Hp} {x : V} {d : D} {l : List D} {i : Nat} {α β : Type}
theorem Stx.reps (S : Stx K Z g σ ps H Hf) (h : ∀ p ∈ ps'.map root, RB K Z H Hf p.1 p.2) (hc : ∀ a, cnt a (ps'.map root) ≤ cnt a (ps.map root)) (ha : ∀ x i, (x, W.s i) ∈ ps' → σ[i]? = some (some x)) : Stx K Z g σ ps' H Hf where
  len := S.len
  frz := S.frz
  out := S.out
  old := S.old
  new := S.new
  iol := S.iol
  rel := fun p hp => by
    rcases List.mem_append.mp hp with k | k
    · exact S.rel p (List.mem_append_left _ k)
    · exact h p k
  nod := fun a => by
    have k := S.nod a
    unfold rts at k ⊢
    rw [cnt_append] at k ⊢
    have := hc a
    omega
  als := ha
theorem Stx.esc {w : W} (S : Stx K Z g σ (ps ++ [(x, w)]) H Hf) (h : esc g w = some (d, g')) : ∃ Hf', Same Hf Hf' ∧ Dp K Hf' x d ∧ Stx K Z g' σ (ps ++ [(x, .v (.im d))]) H Hf' := by
  cases w with
  | v b =>
    cases b with
    | un => simp [DL.esc] at h
    | ob => simp [DL.esc] at h
    | io l => simp [DL.esc] at h
    | im e =>
      simp [DL.esc] at h
      obtain ⟨rfl, rfl⟩ := h
      obtain ⟨y, e1, e2⟩ := S.rel _ (S.root_mem mem_last)
      cases e1
      exact ⟨Hf, Same.refl _, e2, S⟩
    | mu l =>
      simp [DL.esc] at h
      obtain ⟨rfl, rfl⟩ := h
      obtain ⟨Hf', s, S'⟩ := S.freezeLast
      obtain ⟨y, e1, e2⟩ := S'.rel _ (S'.root_mem mem_last)
      cases e1
      exact ⟨Hf', s, e2, S'⟩
  | s i =>
    have hs := S.als x i mem_last
    simp only [DL.esc] at h
    cases e : g[i]? with
    | none => rw [e] at h; simp at h
    | some b =>
      rw [e] at h
      cases b with
      | un => simp at h
      | ob => simp at h
      | io l => simp at h
      | im e' =>
        simp at h
        obtain ⟨rfl, rfl⟩ := h
        obtain ⟨y, e1, e2⟩ := S.rel _ (S.slot hs e)
        cases e1
        exact ⟨Hf, Same.refl _, e2, S.drop.pushIm e2⟩
      | mu l =>
        simp at h
        obtain ⟨rfl, rfl⟩ := h
        obtain ⟨Hf', s, S'⟩ := S.freeze e
        have hl : i < g.length := (List.getElem?_eq_some_iff.mp e).1
        have e' : (g.set i (.im (.list l)))[i]? = some (.im (.list l)) := by rw [List.getElem?_set_self hl]
        obtain ⟨y, e1, e2⟩ := S'.rel _ (S'.slot hs e')
        cases e1
        exact ⟨Hf', s, e2, S'.drop.pushIm e2⟩
theorem cnt_map_app (a : Addr) (ps qs : List (V × W)) : cnt a ((ps ++ qs).map root) = cnt a (ps.map root) + cnt a (qs.map root) := by rw [List.map_append, cnt_append]
theorem Stx.settle : ∀ {ws : List W} {xs : List V} {g g' : Gm} {bs : List B} {ps qs : List (V × W)} {Hf : Hp}, (∀ y j, (y, W.s j) ∉ ps) → xs.length = ws.length → Stx K Z g σ (ps ++ xs.zip ws) H Hf → settle g ws = some (bs, g') →
    ∃ Hf', Same Hf Hf' ∧ bs.length = ws.length ∧ Stx K Z g' σ (ps ++ xs.zip (bs.map W.v)) H Hf'
  | [], xs, g, g', bs, ps, qs, Hf, na, hl, S, h => by
    simp [DL.settle] at h
    obtain ⟨rfl, rfl⟩ := h
    exact ⟨Hf, Same.refl _, rfl, by simpa using S⟩
  | w :: ws, [], g, g', bs, ps, qs, Hf, na, hl, S, h => by simp at hl
  | .v b :: ws, x :: xs, g, g', bs, ps, qs, Hf, na, hl, S, h => by
    simp only [DL.settle] at h
    cases e : DL.settle g ws with
    | none => rw [e] at h; simp at h
    | some r =>
      obtain ⟨cs, g2⟩ := r
      rw [e] at h
      simp at h
      obtain ⟨rfl, rfl⟩ := h
      have S1 : Stx K Z g σ ((ps ++ [(x, W.v b)]) ++ xs.zip ws) H Hf := by rw [List.append_assoc]; exact S
      obtain ⟨Hf', s, l2, S2⟩ := Stx.settle (qs := qs) (fun y j m => by
        rcases List.mem_append.mp m with m | m
        · exact na y j m
        · simp at m) (by simpa using hl) S1 e
      refine ⟨Hf', s, by simp [l2], ?_⟩
      rw [List.append_assoc] at S2
      exact S2
  | .s i :: ws, x :: xs, g, g', bs, ps, qs, Hf, na, hl, S, h => by
    have hs := S.als x i (List.mem_append_right _ (by simp))
    simp only [DL.settle] at h
    have rep : ∀ {g Hf d}, Stx K Z g σ (ps ++ (x :: xs).zip (W.s i :: ws)) H Hf → Dp K Hf x d → Stx K Z g σ ((ps ++ [(x, W.v (.im d))]) ++ xs.zip ws) H Hf := fun {g Hf d} S hd => by
      refine S.reps (fun p hp => ?_) (fun a => ?_) (fun y j m => ?_)
      · rw [List.map_append, List.map_append] at hp
        rcases List.mem_append.mp hp with hp | hp
        · rcases List.mem_append.mp hp with hp | hp
          · exact S.rel p (List.mem_append_right _ (by rw [List.map_append]; exact List.mem_append_left _ hp))
          · simp [root] at hp
            subst hp
            exact ⟨x, rfl, hd⟩
        · exact S.rel p (List.mem_append_right _ (by rw [List.map_append]; exact List.mem_append_right _ (List.mem_cons_of_mem _ hp)))
      · rw [cnt_map_app, cnt_map_app, cnt_map_app]
        have e1 : cnt a ([(x, W.v (.im d))].map root) = 0 := by
          show ow a (some x, B.im d) + 0 = 0
          rw [ow_im]
        have e2 : cnt a (((x :: xs).zip (W.s i :: ws)).map root) = ow a (some x, B.un) + cnt a ((xs.zip ws).map root) := rfl
        omega
      · rcases List.mem_append.mp m with m | m
        · rcases List.mem_append.mp m with m | m
          · exact (na y j m).elim
          · simp at m
        · exact S.als y j (List.mem_append_right _ (List.mem_cons_of_mem _ m))
    have go : ∀ {g Hf d r}, Stx K Z g σ (ps ++ (x :: xs).zip (W.s i :: ws)) H Hf → Dp K Hf x d → DL.settle g ws = some r → ∃ Hf', Same Hf Hf' ∧ r.1.length = ws.length ∧ Stx K Z r.2 σ (ps ++ (x :: xs).zip ((B.im d :: r.1).map W.v)) H Hf' := fun {g Hf d r} S hd e => by
      obtain ⟨cs, g2⟩ := r
      obtain ⟨Hf', s, l2, S2⟩ := Stx.settle (qs := qs) (fun y j m => by
        rcases List.mem_append.mp m with m | m
        · exact na y j m
        · simp at m) (by simpa using hl) (rep S hd) e
      refine ⟨Hf', s, l2, ?_⟩
      rw [List.append_assoc] at S2
      exact S2
    cases e : g[i]? with
    | none => rw [e] at h; simp at h
    | some b =>
      rw [e] at h
      cases b with
      | un => simp at h
      | ob => simp at h
      | io l => simp at h
      | im d =>
        obtain ⟨y, e1, e2⟩ := S.rel _ (S.slot hs e)
        cases e1
        simp only [Option.map_eq_some_iff] at h
        obtain ⟨r, h1, h2⟩ := h
        cases h2
        obtain ⟨Hf', s, l2, S2⟩ := go S e2 h1
        exact ⟨Hf', s, by simp [l2], S2⟩
      | mu l =>
        obtain ⟨Hf1, s1, S1⟩ := S.freeze e
        have hli : i < g.length := (List.getElem?_eq_some_iff.mp e).1
        have e' : (g.set i (.im (.list l)))[i]? = some (.im (.list l)) := by rw [List.getElem?_set_self hli]
        obtain ⟨y, e1, e2⟩ := S1.rel _ (S1.slot hs e')
        cases e1
        simp only [Option.map_eq_some_iff] at h
        obtain ⟨r, h1, h2⟩ := h
        cases h2
        obtain ⟨Hf', s, l2, S2⟩ := go S1 e2 h1
        exact ⟨Hf', s1.trans s, by simp [l2], S2⟩
def setAll (g : Gm) : List Nat → List B → Gm
  | i :: is, b :: bs => (setAll g is bs).set i b
  | _, _ => g
def setAllσ (σ : L2.St) : List Nat → List V → L2.St
  | i :: is, x :: xs => (setAllσ σ is xs).set i (some x)
  | _, _ => σ
def noIoAll (g : Gm) (is : List Nat) : Bool := is.all fun i => noIo g[i]?
theorem noIo_set {g : Gm} {i j : Nat} {b : B} (h : noIo g[i]? = true) (hb : noIo (some b) = true) : noIo (g.set j b)[i]? = true := by
  by_cases e : j = i
  · subst e
    cases q : g[j]? with
    | none => rw [q] at h; cases h
    | some c => rw [List.getElem?_set_self (List.getElem?_eq_some_iff.mp q).1]; exact hb
  · rw [List.getElem?_set_ne e]; exact h
def noIoB : List B → Bool := fun bs => bs.all fun b => noIo (some b)
theorem Stx.storeAll : ∀ {is : List Nat} {xs : List V} {bs : List B} {σ : L2.St} {ps : List (V × W)}, is.length = xs.length → xs.length = bs.length → (∀ y j, (y, W.s j) ∉ ps) → Stx K Z g σ (ps ++ xs.zip (bs.map W.v)) H Hf → noIoAll g is = true → noIoB bs = true →
    Stx K Z (setAll g is bs) (setAllσ σ is xs) ps H Hf := by
  intro is
  induction is with
  | nil =>
    intro xs bs σ ps h1 h2 na S hg hb
    cases xs with
    | nil => simpa [setAll, setAllσ] using S
    | cons x xs => simp at h1
  | cons i is ih =>
    intro xs bs σ ps h1 h2 na S hg hb
    cases xs with
    | nil => simp at h1
    | cons x xs =>
      cases bs with
      | nil => simp at h2
      | cons b bs =>
        have na' : ∀ y j, (y, W.s j) ∉ ps ++ [(x, W.v b)] := fun y j m => by
          rcases List.mem_append.mp m with m | m
          · exact na y j m
          · simp at m
        simp only [noIoAll, List.all_cons, Bool.and_eq_true] at hg
        simp only [noIoB, List.all_cons, Bool.and_eq_true] at hb
        have S1 : Stx K Z g σ ((ps ++ [(x, W.v b)]) ++ xs.zip (bs.map W.v)) H Hf := by rw [List.append_assoc]; exact S
        have S2 := ih (by simpa using h1) (by simpa using h2) na' S1 hg.2 hb.2
        refine S2.store ?_ na
        have : ∀ (is : List Nat) (bs : List B), noIoB bs = true → noIo (setAll g is bs)[i]? = true := by
          intro is
          induction is with
          | nil => intro bs _; exact hg.1
          | cons j is ih2 =>
            intro bs hb
            cases bs with
            | nil => exact hg.1
            | cons c bs =>
              simp only [noIoB, List.all_cons, Bool.and_eq_true] at hb
              exact noIo_set (ih2 bs hb.2) hb.1
        exact this is bs hb.2

/-! ### displays -/
def aConsE (ta : Gm → Res W) (tb : Gm → Res (List D)) (g : Gm) : Res (List D) := (ta g).bind fun w g1 => match esc g1 w with
  | some (d, g2) => (tb g2).bind fun ds g3 => .ok (d :: ds) g3
  | none => .no
def aNilE (g : Gm) : Res (List D) := .ok [] g
def AE (X : Cx) (Z : Zs) (σ : L2.St) (ps : List (V × W)) (Hf : Hp) (Q : List V → Hp → Prop) : List D → Gm → Prop := fun ds g' => ∀ xs H' Hf', Same Hf Hf' → DpAll X.K Hf' xs ds → Stx X.K Z g' σ ps H' Hf' → Q xs H'
structure DAe (X : Cx) (Wx : WX) (e : List Expr) (t : Gm → Res (List D)) : Prop where
  pa : PA X e (fun σ H Q => ∃ Z g ps Hf, Stx X.K Z g σ ps H Hf ∧ GEnd X Wx Z σ (AE X Z σ ps Hf Q) (t g))
theorem giveAe {e : List Expr} {ta : Gm → Res (List D)} (he : DAe X Wx e ta) {Q : List V → Hp → Prop} (S : Stx X.K Z g σ ps H Hf) {p : List D → Gm → Prop} (h : GEnd X Wx Z σ p (ta g))
    (k : ∀ ds g' xs H' Hf', p ds g' → Same Hf Hf' → DpAll X.K Hf' xs ds → Stx X.K Z g' σ ps H' Hf' → Q xs H') : ∃ Z g ps Hf, Stx X.K Z g σ ps H Hf ∧ GEnd X Wx Z σ (AE X Z σ ps Hf Q) (ta g) :=
  ⟨Z, g, ps, Hf, S, h.mono fun w g' q x H' Hf' s l S' => k w g' x H' Hf' q s l S'⟩
theorem dae_nil : DAe X Wx [] aNilE := ⟨PA.imp pa_nil fun σ H Q ⟨Z, g, ps, Hf, S, q⟩ => by
  have q' : AE X Z σ ps Hf Q [] g := q
  exact q' [] H Hf (Same.refl _) .nil S⟩
theorem dae_cons {e : Expr} {es : List Expr} {ta : Gm → Res W} {tb : Gm → Res (List D)} (ha : DE X Wx e ta) (hb : DAe X Wx es tb) (hs : starEach (e :: es) X.env = (false, eval e X.env) :: starEach es X.env := by rfl) : DAe X Wx (e :: es) (aConsE ta tb) := ⟨PA.imp (pa_cons ha.pe hb.pa hs) fun σ H Q ⟨Z, g, ps, Hf, S, q⟩ => by
  refine giveE ha S q.bind fun w1 g1 x H1 Hf1 q1 s1 S1 => ?_
  cases e1 : esc g1 w1 with
  | none => rw [e1] at q1; exact q1.elim
  | some r =>
    obtain ⟨d, g2⟩ := r
    rw [e1] at q1
    obtain ⟨Hf2, s2, hd, S2⟩ := S1.esc e1
    have q1' : GEnd X Wx Z σ (AE X Z σ ps Hf Q) ((tb g2).bind fun ds g3 => .ok (d :: ds) g3) := q1
    refine giveAe hb S2.drop q1'.bind fun ds g3 xs H3 Hf3 q3 s3 l S3 => ?_
    have q3' : AE X Z σ ps Hf Q (d :: ds) g3 := q3
    exact q3' (x :: xs) H3 Hf3 ((s1.trans s2).trans s3) (.cons (dp_mono s3 d x hd) l) S3⟩
def small (n : Nat) : Bool := decide (n ≤ 100000)
theorem small_le {n : Nat} (h : small n = true) : n ≤ sizeLine := Nat.le_trans (of_decide_eq_true h) (by decide)
theorem small_lt {n : Nat} (h : small n = true) : n < sizeLine := Nat.lt_of_le_of_lt (of_decide_eq_true h) (by decide)
def eTup (ta : Gm → Res (List D)) (g : Gm) : Res W := (ta g).bind fun ds g1 => if small ds.length = true then .ok (.v (.im (.tuple ds))) g1 else .no
def eLst (ta : Gm → Res (List D)) (g : Gm) : Res W := (ta g).bind fun ds g1 => if small ds.length = true then .ok (.v (.mu ds)) g1 else .no
theorem de_tup {es : List Expr} {x1} {pos : Pos} {ta : Gm → Res (List D)} (ha : DAe X Wx es ta) : DE X Wx (.Tuple es x1 pos) (eTup ta) := ⟨PE.imp (pe_tup ha.pa) fun σ H Q ⟨Z, g, ps, Hf, S, q⟩ => by
  refine giveAe ha S q.bind fun ds g1 xs H1 Hf1 q1 s1 l S1 => ?_
  by_cases c : small ds.length = true
  · rw [if_pos c] at q1
    refine ⟨by rw [dpa_len l]; exact small_le c, fun p hp => ?_⟩
    have G := Grow.tup S1.frz hp l
    exact q1 (.ref p) _ _ (s1.trans G.hf) (S1.grow G)
  · rw [if_neg c] at q1; exact q1.elim⟩
theorem de_lst {es : List Expr} {pos : Pos} {ta : Gm → Res (List D)} (ha : DAe X Wx es ta) : DE X Wx (.List es pos) (eLst ta) := ⟨PE.imp (pe_lst ha.pa) fun σ H Q ⟨Z, g, ps, Hf, S, q⟩ => by
  refine giveAe ha S q.bind fun ds g1 xs H1 Hf1 q1 s1 l S1 => ?_
  by_cases c : small ds.length = true
  · rw [if_pos c] at q1
    refine ⟨by rw [dpa_len l]; exact small_le c, fun p hp => ?_⟩
    have G := Grow.lst S1.frz hp l
    exact q1 (.ref p) _ _ (s1.trans G.hf) (S1.grow G)
  · rw [if_neg c] at q1; exact q1.elim⟩

/-! ### tests -/
def tOf (ta : Gm → Res W) (g : Gm) : Res Bool := (ta g).bind fun w g1 => match rd g1 w with
  | some (.bool b) => .ok b g1
  | _ => .no
theorem rdb_bool {K : PySem.W.Frag} {b : Bool} (h : Rdb K H Hf x (.bool b)) : x = .bl b := by
  rcases h with h | ⟨_, _, _, _, e, _⟩
  · cases h; rfl
  · cases e
theorem dt_gen {e : Expr} {ta : Gm → Res W} (he : DE X Wx e ta) (h : ∀ {TA : TE}, PE X e TA → PT X e (tB TA)) : DT X Wx e (tOf ta) := ⟨PT.imp (h he.pe) fun σ H Q ⟨Z, g, ps, Hf, S, q⟩ => by
  refine giveE he S q.bind fun w g1 x H1 Hf1 q1 s1 S1 => ?_
  cases e1 : rd g1 w with
  | none => rw [e1] at q1; exact q1.elim
  | some d =>
    rw [e1] at q1
    have r := S1.rd mem_last e1
    cases d with
    | bool b => exact ⟨b, rdb_bool r, q1 H1 Hf1 s1 S1.drop⟩
    | _ => exact q1.elim⟩
theorem dt_val {e : Expr} {ta : Gm → Res W} (he : DE X Wx e ta) (hw : ∀ whole, isTrue e X.env whole = (do let v ← whole; standAt e.pos; holding [v] (truthy v)) := by intro _; rfl) : DT X Wx e (tOf ta) := dt_gen he fun h => pt_val h hw
theorem dt_cmp {a b : Expr} {ta tb : Gm → Res W} {op : CmpOp} {pos : Pos} {r : R2} {f : D → D → Option B} (ho : OpR X (compareOp op) r) (hf : Op2 X.K r f) (ha : DE X Wx a ta) (hb : DE X Wx b tb) (hm : behindInMarks op b = false) : DT X Wx (.Compare a [op] [b] pos) (tOf (eOp2 f ta tb)) := ⟨PT.imp (pt_cmpR ho ha.pe hb.pe hm) fun σ H Q ⟨Z, g, ps, Hf, S, q⟩ => by
  refine giveE ha S q.bind.bind fun w1 g1 x H1 Hf1 q1 s1 S1 => ?_
  refine giveE hb S1 q1.bind fun w2 g2 y H2 Hf2 q2 s2 S2 => ?_
  have q2' := q2
  cases e2 : rd g2 w1 with
  | none => rw [e2] at q2'; exact q2'.elim
  | some d =>
    cases e3 : rd g2 w2 with
    | none => rw [e2, e3] at q2'; exact q2'.elim
    | some d' =>
      rw [e2, e3] at q2'
      have m1 : (x, w1) ∈ (ps ++ [(x, w1)]) ++ [(y, w2)] := List.mem_append_left _ mem_last
      cases e4 : f d d' with
      | none => simp only [Option.bind_some, e4] at q2'; exact q2'.elim
      | some c =>
        simp only [Option.bind_some, e4] at q2'
        refine hf H2 Hf2 x y d d' c _ S2.frz (S2.rd m1 e2) (S2.rd mem_last e3) e4 fun z H3 Hf3 G => ?_
        have q3 : GEnd X Wx Z σ (TPo X Z σ ps Hf Q) (match rd g2 (.v c) with | some (.bool b) => .ok b g2 | _ => .no) := q2'
        rw [List.append_assoc] at S2
        have S3 := S2.drop.grow G
        cases e5 : rd g2 (.v c) with
        | none => rw [e5] at q3; exact q3.elim
        | some d2 =>
          rw [e5] at q3
          have r := S3.rd mem_last e5
          cases d2 with
          | bool b => exact ⟨b, rdb_bool r, q3 H3 Hf3 ((s1.trans s2).trans G.hf) S3.drop⟩
          | _ => exact q3.elim⟩
def tNo (t : Gm → Res Bool) (g : Gm) : Res Bool := (t g).bind fun b g1 => .ok (!b) g1
theorem dt_not {a : Expr} {t : Gm → Res Bool} {pos : Pos} (ha : DT X Wx a t) : DT X Wx (.UnaryOp .Not a pos) (tNo t) := ⟨PT.imp (pt_not ha.pt) fun σ H Q ⟨Z, g, ps, Hf, S, q⟩ => by
  refine giveT ha S q.bind fun b g1 H1 Hf1 q1 s1 S1 => ?_
  exact q1 H1 Hf1 s1 S1⟩
def tAn (t u : Gm → Res Bool) (g : Gm) : Res Bool := (t g).bind fun b g1 => if b = true then u g1 else .ok false g1
def tOr' (t u : Gm → Res Bool) (g : Gm) : Res Bool := (t g).bind fun b g1 => if b = true then .ok true g1 else u g1
theorem dw_one {op} {a : Expr} {t : Gm → Res Bool} {pos : Pos} (ha : DT X Wx a t) (h : ∀ {T : TT}, PT X a T → PW X (.BoolOp op [a] pos) T) : DW X Wx (.BoolOp op [a] pos) t := ⟨h ha.pt⟩
theorem dw_and1 {a : Expr} {t : Gm → Res Bool} {pos : Pos} (ha : DT X Wx a t) : DW X Wx (.BoolOp .And [a] pos) t := ⟨pw_and1 ha.pt⟩
theorem dw_or1 {a : Expr} {t : Gm → Res Bool} {pos : Pos} (ha : DT X Wx a t) : DW X Wx (.BoolOp .Or [a] pos) t := ⟨pw_or1 ha.pt⟩
theorem dw_and {a b : Expr} {rest : List Expr} {t u : Gm → Res Bool} {pos : Pos} (ha : DT X Wx a t) (hb : DW X Wx (.BoolOp .And (b :: rest) pos) u) : DW X Wx (.BoolOp .And (a :: b :: rest) pos) (tAn t u) := ⟨PW.imp (pw_and ha.pt hb.pw) fun σ H Q ⟨Z, g, ps, Hf, S, q⟩ => by
  refine giveT ha S q.bind fun c g1 H1 Hf1 q1 s1 S1 => ?_
  cases c with
  | true =>
    rw [if_pos rfl] at q1 ⊢
    exact ⟨Z, g1, ps, Hf1, S1, q1.mono fun b g q => q.mono s1⟩
  | false =>
    rw [if_neg Bool.false_ne_true] at q1 ⊢
    exact q1 H1 Hf1 s1 S1⟩
theorem dw_or {a b : Expr} {rest : List Expr} {t u : Gm → Res Bool} {pos : Pos} (ha : DT X Wx a t) (hb : DW X Wx (.BoolOp .Or (b :: rest) pos) u) : DW X Wx (.BoolOp .Or (a :: b :: rest) pos) (tOr' t u) := ⟨PW.imp (pw_or ha.pt hb.pw) fun σ H Q ⟨Z, g, ps, Hf, S, q⟩ => by
  refine giveT ha S q.bind fun c g1 H1 Hf1 q1 s1 S1 => ?_
  cases c with
  | false =>
    rw [if_neg Bool.false_ne_true] at q1 ⊢
    exact ⟨Z, g1, ps, Hf1, S1, q1.mono fun b g q => q.mono s1⟩
  | true =>
    rw [if_pos rfl] at q1 ⊢
    exact q1 H1 Hf1 s1 S1⟩
theorem dt_w {e : Expr} {t : Gm → Res Bool} (h : DW X Wx e t) : DT X Wx e t := ⟨h.pw.pt⟩

/-! ### and, or, not, if-else as values -/
def eOfT (t : Gm → Res Bool) (g : Gm) : Res W := (t g).bind fun b g1 => .ok (.v (.im (.bool b))) g1
def bE (ta : Gm → Res W) (k : Bool → Gm → Res W) (g : Gm) : Res W := (ta g).bind fun w g1 => match rd g1 w with
  | some (.bool b) => k b g1
  | _ => .no
def eAnd (ta tb : Gm → Res W) : Gm → Res W := bE ta fun b g => if b = true then tb g else .ok (.v (.im (.bool false))) g
def eOr (ta tb : Gm → Res W) : Gm → Res W := bE ta fun b g => if b = true then .ok (.v (.im (.bool true))) g else tb g
def eNot (ta : Gm → Res W) : Gm → Res W := bE ta fun b g => .ok (.v (.im (.bool !b))) g
theorem giveB {e : Expr} {ta : Gm → Res W} {k : Bool → Gm → Res W} (he : DE X Wx e ta) {Q Q' : VK} (S : Stx X.K Z g σ ps H Hf) (h : GEnd X Wx Z σ (RP X Z σ ps Hf Q) (bE ta k g))
    (hk : ∀ b g' H' Hf', GEnd X Wx Z σ (RP X Z σ ps Hf Q) (k b g') → Same Hf Hf' → Stx X.K Z g' σ ps H' Hf' → Q' (.bl b) H') : ∃ Z g ps Hf, Stx X.K Z g σ ps H Hf ∧ GEnd X Wx Z σ (RP X Z σ ps Hf Q') (ta g) := by
  refine giveE he S h.bind fun w g1 x H1 Hf1 q1 s1 S1 => ?_
  cases e1 : rd g1 w with
  | none => rw [e1] at q1; exact q1.elim
  | some d =>
    rw [e1] at q1
    have r := S1.rd mem_last e1
    cases d with
    | bool b => rw [rdb_bool r]; exact hk b g1 H1 Hf1 q1 s1 S1.drop
    | _ => exact q1.elim
theorem de_and1 {op} {a : Expr} {ta : Gm → Res W} {pos : Pos} (ha : DE X Wx a ta) : DE X Wx (.BoolOp op [a] pos) ta := ⟨pe_one ha.pe⟩
theorem de_and {a b : Expr} {rest : List Expr} {ta tb : Gm → Res W} {pos : Pos} (ha : DE X Wx a ta) (hb : DE X Wx (.BoolOp .And (b :: rest) pos) tb) : DE X Wx (.BoolOp .And (a :: b :: rest) pos) (eAnd ta tb) := ⟨PE.imp (pe_and ha.pe hb.pe) fun σ H Q ⟨Z, g, ps, Hf, S, q⟩ => by
  refine giveB ha S q fun b g1 H1 Hf1 q1 s1 S1 => ⟨b, rfl, ?_⟩
  cases b with
  | true =>
    rw [if_pos rfl] at q1 ⊢
    exact ⟨Z, g1, ps, Hf1, S1, q1.mono fun b g q => q.mono s1⟩
  | false =>
    rw [if_neg Bool.false_ne_true] at q1 ⊢
    exact q1 (.bl false) H1 Hf1 s1 (S1.pushIm (.bl false))⟩
theorem de_or {a b : Expr} {rest : List Expr} {ta tb : Gm → Res W} {pos : Pos} (ha : DE X Wx a ta) (hb : DE X Wx (.BoolOp .Or (b :: rest) pos) tb) : DE X Wx (.BoolOp .Or (a :: b :: rest) pos) (eOr ta tb) := ⟨PE.imp (pe_or ha.pe hb.pe) fun σ H Q ⟨Z, g, ps, Hf, S, q⟩ => by
  refine giveB ha S q fun b g1 H1 Hf1 q1 s1 S1 => ⟨b, rfl, ?_⟩
  cases b with
  | false =>
    rw [if_neg Bool.false_ne_true] at q1 ⊢
    exact ⟨Z, g1, ps, Hf1, S1, q1.mono fun b g q => q.mono s1⟩
  | true =>
    rw [if_pos rfl] at q1 ⊢
    exact q1 (.bl true) H1 Hf1 s1 (S1.pushIm (.bl true))⟩
theorem de_not {a : Expr} {ta : Gm → Res W} {pos : Pos} (ha : DE X Wx a ta) : DE X Wx (.UnaryOp .Not a pos) (eNot ta) := ⟨PE.imp (pe_not ha.pe) fun σ H Q ⟨Z, g, ps, Hf, S, q⟩ => by
  refine giveB ha S q fun b g1 H1 Hf1 q1 s1 S1 => ⟨b, rfl, ?_⟩
  exact q1 (.bl !b) H1 Hf1 s1 (S1.pushIm (.bl !b))⟩
def eIf (t : Gm → Res Bool) (ta tb : Gm → Res W) (g : Gm) : Res W := (t g).bind fun b g1 => if b = true then ta g1 else tb g1
theorem de_if {c a b : Expr} {t : Gm → Res Bool} {ta tb : Gm → Res W} {pos : Pos} (hc : DT X Wx c t) (ha : DE X Wx a ta) (hb : DE X Wx b tb) : DE X Wx (.IfExp c a b pos) (eIf t ta tb) := ⟨PE.imp (pe_ifExp hc.pt ha.pe hb.pe) fun σ H Q ⟨Z, g, ps, Hf, S, q⟩ => by
  refine giveT hc S q.bind fun c g1 H1 Hf1 q1 s1 S1 => ?_
  cases c with
  | true =>
    rw [if_pos rfl] at q1 ⊢
    exact ⟨Z, g1, ps, Hf1, S1, q1.mono fun b g q => q.mono s1⟩
  | false =>
    rw [if_neg Bool.false_ne_true] at q1 ⊢
    exact ⟨Z, g1, ps, Hf1, S1, q1.mono fun b g q => q.mono s1⟩⟩

/-! ### statements -/
def sNext (g : Gm) : SR := .nx g
def SR.then (r : SR) (u : Gm → SR) : SR := match r with
  | .nx g => u g
  | r => r
def sSeq (t u : Gm → SR) (g : Gm) : SR := (t g).then u
theorem dss_nil : DSs X Wx [] sNext := ⟨PSs.imp pss_nil fun D σ H ⟨Z, g, Hf, S, q⟩ => q σ H Hf (Same.refl _) S⟩
theorem SEnd.then {D : Ends} {r : SR} {u : Gm → SR} (h : SEnd X Wx Z Hf D (r.then u)) : SEnd X Wx Z Hf { D with nx := fun σ H => ∃ Z g Hf, Stx X.K Z g σ [] H Hf ∧ SEnd X Wx Z Hf D (u g) } r := by
  cases r with
  | nx g => exact fun σ H' Hf' s S => ⟨Z, g, Hf', S, SEnd.mono (r := u g) h s⟩
  | rt b g => exact h
  | bk g => exact h
  | ct g => exact h
  | ex e g => exact h
  | no => exact h
theorem dss_cons {st : Stmt} {rest : List Stmt} {t u : Gm → SR} (h1 : DS X Wx st t) (h2 : DSs X Wx rest u) : DSs X Wx (st :: rest) (sSeq t u) := ⟨PSs.imp (pss_cons h1.ps h2.ps) fun D σ H ⟨Z, g, Hf, S, q⟩ => ⟨Z, g, Hf, S, q.then⟩⟩
theorem dss_one {st : Stmt} {t : Gm → SR} (h1 : DS X Wx st t) : DSs X Wx [st] t := ⟨PSs.imp (pss_one h1.ps) fun D σ H h => h⟩
def sPass (g : Gm) : SR := .nx g
theorem ds_pass {pos : Pos} : DS X Wx (.Pass pos) sPass := ⟨PS.imp ps_pass fun D σ H ⟨Z, g, Hf, S, q⟩ => q σ H Hf (Same.refl _) S⟩
def sBreak (g : Gm) : SR := .bk g
def sCont (g : Gm) : SR := .ct g
theorem ds_break {pos : Pos} : DS X Wx (.Break pos) sBreak := ⟨PS.imp ps_break fun D σ H ⟨Z, g, Hf, S, q⟩ => q σ H Hf (Same.refl _) S⟩
theorem ds_cont {pos : Pos} : DS X Wx (.Continue pos) sCont := ⟨PS.imp ps_continue fun D σ H ⟨Z, g, Hf, S, q⟩ => q σ H Hf (Same.refl _) S⟩
/-- what is never reached -/
def sNo (g : Gm) : SR := .no
theorem ds_no {st : Stmt} : DS X Wx st sNo := ⟨PS.imp ps_never fun D σ H ⟨Z, g, Hf, S, q⟩ => q⟩
theorem giveES {e : Expr} {ta : Gm → Res W} {k : W → Gm → SR} {D : Ends} (he : DE X Wx e ta) {Q : VK} (S : Stx X.K Z g σ [] H Hf) (h : SEnd X Wx Z Hf D ((ta g).bindS k))
    (hk : ∀ w g' x H' Hf', SEnd X Wx Z Hf' D (k w g') → Stx X.K Z g' σ ([] ++ [(x, w)]) H' Hf' → Q x H') : ∃ Z g ps Hf, Stx X.K Z g σ ps H Hf ∧ GEnd X Wx Z σ (RP X Z σ ps Hf Q) (ta g) :=
  giveE he S h.bindS fun w g' x H' Hf' q s S' => hk w g' x H' Hf' (q.mono s) S'
def stor (i : Nat) (w : W) (g : Gm) : SR := match settle g [w] with
  | some ([b], g2) => if (noIo g2[i]? && noIo (some b)) = true then .nx (g2.set i b) else .no
  | _ => .no
def sSet (i : Nat) (ta : Gm → Res W) (g : Gm) : SR := (ta g).bindS (stor i)
theorem stor_end {D : Ends} {i : Nat} {w : W} {y : V} (S : Stx X.K Z g σ ([] ++ [(y, w)]) H Hf) (q : SEnd X Wx Z Hf D (stor i w g)) : D.nx (σ.set i (some y)) H := by
  unfold stor at q
  cases e : DL.settle g [w] with
  | none => rw [e] at q; exact q.elim
  | some r =>
    obtain ⟨bs, g2⟩ := r
    rw [e] at q
    obtain ⟨Hf', s, l2, S2⟩ := Stx.settle (xs := [y]) (qs := []) (fun _ _ m => by simp at m) rfl S e
    match bs, l2, S2, q with
    | [b], _, S2, q =>
      have q' : SEnd X Wx Z Hf D (if (noIo g2[i]? && noIo (some b)) = true then .nx (g2.set i b) else .no) := q
      by_cases c : (noIo g2[i]? && noIo (some b)) = true
      · rw [if_pos c] at q'
        simp only [Bool.and_eq_true] at c
        exact q' _ H Hf' s (Stx.store (ps := []) S2 c.1 (fun _ _ m => by simp at m))
      · rw [if_neg c] at q'; exact q'.elim
theorem ds_set {i : Nat} {x : Str} {e : Expr} {ta : Gm → Res W} {pos pos' : Pos} (hN : X.N.Nodup) (hi : X.N[i]? = some x) (hx : Loc X.env.scope x) (he : DE X Wx e ta) (hs : swapsWith e (some (.Name x pos')) pos.line X.env = pure false := by rfl) (hf : X.fn x = true ∨ X.env.scope.names.lookup x = some .local := by first | exact .inl rfl | exact .inr rfl | assumption) :
    DS X Wx (.Assign [.Name x pos'] e pos) (sSet i ta) := ⟨PS.imp (ps_set hN hi hx he.pe hs hf) fun D σ H ⟨Z, g, Hf, S, q⟩ => by
  refine giveES he S q fun w g1 y H1 Hf1 q1 S1 => ?_
  exact stor_end S1 q1⟩
def sRet (ta : Gm → Res W) (g : Gm) : SR := (ta g).bindS fun w g1 => match w with
  | .v b => .rt b g1
  | .s j => match g1[j]? with
    | some (.im d) => .rt (.im d) g1
    | some (.mu l) => .rt (.mu l) (g1.set j .un)
    | _ => .no
theorem ds_ret {e : Expr} {ta : Gm → Res W} {pos : Pos} (he : DE X Wx e ta) : DS X Wx (.Return (some e) pos) (sRet ta) := ⟨PS.imp (ps_ret he.pe) fun D σ H ⟨Z, g, Hf, S, q⟩ => by
  refine giveES he S q fun w g1 y H1 Hf1 q1 S1 => ?_
  cases w with
  | v b => exact q1 y σ H1 Hf1 (Same.refl _) S1
  | s j =>
    have hs := S1.als y j mem_last
    have q1' : SEnd X Wx Z Hf1 D (match g1[j]? with | some (.im d) => .rt (.im d) g1 | some (.mu l) => .rt (.mu l) (g1.set j .un) | _ => .no) := q1
    cases e : g1[j]? with
    | none => rw [e] at q1'; exact q1'.elim
    | some b =>
      rw [e] at q1'
      cases b with
      | un => exact q1'.elim
      | ob => exact q1'.elim
      | io l => exact q1'.elim
      | im d =>
        obtain ⟨z, e1, e2⟩ := S1.rel _ (S1.slot hs e)
        cases e1
        exact q1' y σ H1 Hf1 (Same.refl _) (S1.drop.pushIm e2)
      | mu l => exact q1' y σ H1 Hf1 (Same.refl _) (Stx.moveOut (ps := []) S1 e)⟩
def sRetN (g : Gm) : SR := .rt (.im .none) g
theorem ds_retN {pos : Pos} : DS X Wx (.Return none pos) sRetN := ⟨PS.imp ps_retN fun D σ H ⟨Z, g, Hf, S, q⟩ => q .non σ H Hf (Same.refl _) (Stx.pushIm (ps := []) S .non)⟩
def sExpr (ta : Gm → Res W) (g : Gm) : SR := (ta g).bindS fun _ g1 => .nx g1
theorem ds_expr {e : Expr} {ta : Gm → Res W} {pos : Pos} (he : DE X Wx e ta) (hs : swapsWith e none pos.line X.env = pure false := by rfl) : DS X Wx (.Expr e pos) (sExpr ta) := ⟨PS.imp (ps_expr he.pe hs) fun D σ H ⟨Z, g, Hf, S, q⟩ => by
  refine giveES he S q fun w g1 y H1 Hf1 q1 S1 => ?_
  exact q1 σ H1 Hf1 (Same.refl _) (Stx.drop (ps := []) S1)⟩
def sIf (c : Gm → Res Bool) (t u : Gm → SR) (g : Gm) : SR := (c g).bindS fun b g1 => if b = true then t g1 else u g1
theorem ds_if {c : Expr} {a b : List Stmt} {tc : Gm → Res Bool} {t u : Gm → SR} {pos : Pos} (hc : DT X Wx c tc) (ha : DSs X Wx a t) (hb : DSs X Wx b u) : DS X Wx (.If c a b pos) (sIf tc t u) := ⟨PS.imp (ps_if hc.pt ha.ps hb.ps) fun D σ H ⟨Z, g, Hf, S, q⟩ => by
  refine giveT hc S q.bindS fun b g1 H1 Hf1 q1 s1 S1 => ?_
  have q2 := q1.mono s1
  cases b with
  | true => rw [if_pos rfl] at q2 ⊢; exact ⟨Z, g1, Hf1, S1, q2⟩
  | false => rw [if_neg Bool.false_ne_true] at q2 ⊢; exact ⟨Z, g1, Hf1, S1, q2⟩⟩
def sWhile (c : Gm → Res Bool) (t : Gm → SR) : Nat → Gm → SR
  | 0, _ => .no
  | n + 1, g => (c g).bindS fun b g1 => if b = true then (match t g1 with
    | .nx g2 => sWhile c t n g2
    | .ct g2 => sWhile c t n g2
    | .bk g2 => .nx g2
    | r => r) else .nx g1
theorem ds_while {c : Expr} {body : List Stmt} {tc : Gm → Res Bool} {t : Gm → SR} {pos : Pos} {n : Nat} (hp : PassesOwn (model X.prog X.w) X.A X.env X.xe) (hc : DT X Wx c tc) (hb : DSs X Wx body t) : DS X Wx (.While c body [] pos) (sWhile tc t n) := ⟨PS.imp (ps_while hp hc.pt hb.ps) fun D σ H ⟨Z, g, Hf, S, q⟩ => by
  refine ⟨fun m σ H => ∃ g Hf, Stx X.K Z g σ [] H Hf ∧ SEnd X Wx Z Hf D (sWhile tc t m g), ⟨n, g, Hf, S, q⟩, fun m σ H ⟨g, Hf, S, q⟩ => ?_⟩
  cases m with
  | zero => exact q.elim
  | succ m =>
    refine giveT hc S (SEnd.bindS (σ := σ) q) fun b g1 H1 Hf1 q1 s1 S1 => ?_
    have q2 := q1.mono s1
    cases b with
    | false => rw [if_neg Bool.false_ne_true] at q2 ⊢; exact q2 σ H1 Hf1 (Same.refl _) S1
    | true =>
      rw [if_pos rfl] at q2 ⊢
      refine ⟨fun σ' H' => ∃ g' Hf', Stx X.K Z g' σ' [] H' Hf' ∧ SEnd X Wx Z Hf' D (sWhile tc t m g'), fun σ' H' h => ⟨m, Nat.lt_succ_self _, h⟩, Z, g1, Hf1, S1, ?_⟩
      cases e : t g1 with
      | nx g2 => rw [e] at q2; exact fun σ' H' Hf' s' S' => ⟨g2, Hf', S', SEnd.mono (r := sWhile tc t m g2) q2 s'⟩
      | ct g2 => rw [e] at q2; exact fun σ' H' Hf' s' S' => ⟨g2, Hf', S', SEnd.mono (r := sWhile tc t m g2) q2 s'⟩
      | bk g2 => rw [e] at q2; exact q2
      | rt b g2 => rw [e] at q2; exact q2
      | ex e2 g2 => rw [e] at q2; exact q2
      | no => rw [e] at q2; exact q2⟩
end
end DL
/-! ## DLe.lean -/
set_option Elab.async false
set_option linter.all false
set_option maxRecDepth 100000
set_option maxHeartbeats 4000000
namespace DL
open PySem L2

section
variable {X : Cx} {Wx : WX} {K : PySem.W.Frag} {Z : Zs} {g g' : Gm} {σ σ' : L2.St} {ps ps' qs : List (V × W)} {H H' Hf Hf' : Hp} {x : V} {d : D} {l : List D} {i : Nat} {α β : Type}

/-! ### a list in a slot is changed -/
def lstOf : Option B → Option (List D)
  | some (.mu l) => some l
  | some (.io l) => some l
  | _ => none
/-- the slot's list becomes l' -/
def put' (g : Gm) (i : Nat) (l' : List D) : Gm := match g[i]? with
  | some (.mu _) => g.set i (.mu l')
  | some (.io _) => g.set i (.io l')
  | _ => g
theorem Stx.lst (S : Stx K Z g σ ps H Hf) (h : lstOf g[i]? = some l) : ∃ a xs, σ[i]? = some (some (.ref a)) ∧ H a = some (.lst xs) ∧ DpAll K Hf xs l := by
  cases e : g[i]? with
  | none => rw [e] at h; simp [lstOf] at h
  | some b =>
    rw [e] at h
    obtain ⟨v, hv⟩ := sl_get S.len e
    have r := S.rel _ (S.slot hv e)
    cases b with
    | un => simp [lstOf] at h
    | ob => simp [lstOf] at h
    | im d => simp [lstOf] at h
    | mu l' =>
      simp [lstOf] at h; subst h
      obtain ⟨a, xs, e1, _, _, e4, e5⟩ := r
      dsimp only at e1; subst e1
      exact ⟨a, xs, hv, e4, e5⟩
    | io l' =>
      simp [lstOf] at h; subst h
      obtain ⟨a, xs, e1, _, _, e4, e5⟩ := r
      dsimp only at e1; subst e1
      exact ⟨a, xs, hv, e4, e5⟩
theorem Stx.put (S : Stx K Z g σ ps H Hf) {l' : List D} {a : Addr} {xs' : List V} (h : lstOf g[i]? = some l) (hv : σ[i]? = some (some (.ref a))) (h' : DpAll K Hf xs' l') : Stx K Z (put' g i l') σ ps (upd H a (.lst xs')) Hf := by
  cases e : g[i]? with
  | none => rw [e] at h; simp [lstOf] at h
  | some b =>
    rw [e] at h
    unfold put'
    rw [e]
    cases b with
    | un => simp [lstOf] at h
    | ob => simp [lstOf] at h
    | im d => simp [lstOf] at h
    | mu l' => exact S.write e hv h'
    | io l' => exact S.writeIo e hv h'
/-- xs.append(e), xs in the slot i -/
def eAppend (i : Nat) (ta : Gm → Res W) (g : Gm) : Res W := match lstOf g[i]? with
  | none => .no
  | some _ => (ta g).bind fun w g1 => match esc g1 w with
    | none => .no
    | some (d, g2) => match lstOf g2[i]? with
      | none => .no
      | some l => if small l.length = true then .ok (.v (.im .none)) (put' g2 i (l ++ [d])) else .no
theorem de_append {o e : Expr} {ta : Gm → Res W} {apos cpos : Pos} (hi : PE X o (tVar i)) (ha : DE X Wx e ta)
    (h : ∀ {TA : TE}, PE X e TA → PE X (.Call (.Attribute o "append" apos) [e] [] cpos) (tBM X.K "list" rAppend (tVar i) (tCons TA tNil))) : DE X Wx (.Call (.Attribute o "append" apos) [e] [] cpos) (eAppend i ta) := ⟨PE.imp (h ha.pe) fun σ H Q ⟨Z, g, ps, Hf, S, q⟩ => by
  unfold eAppend at q
  cases e0 : lstOf g[i]? with
  | none => rw [e0] at q; exact q.elim
  | some l0 =>
    rw [e0] at q
    obtain ⟨a, xs, hv, ha', _⟩ := S.lst e0
    refine ⟨_, hv, Or.inl ⟨rfl, xs, Or.inl (Or.inl ha')⟩, ?_⟩
    have q' : GEnd X Wx Z σ (RP X Z σ ps Hf Q) ((ta g).bind fun w g1 => match esc g1 w with
      | none => .no
      | some (d, g2) => match lstOf g2[i]? with
        | none => .no
        | some l => if small l.length = true then .ok (.v (.im .none)) (put' g2 i (l ++ [d])) else .no) := q
    refine giveE ha S q'.bind fun w g1 y H1 Hf1 q1 s1 S1 => ?_
    cases e1 : esc g1 w with
    | none => rw [e1] at q1; exact q1.elim
    | some r =>
      obtain ⟨d, g2⟩ := r
      rw [e1] at q1
      obtain ⟨Hf2, s2, hd, S2⟩ := S1.esc e1
      have q2 : GEnd X Wx Z σ (RP X Z σ ps Hf Q) (match lstOf g2[i]? with
        | none => .no
        | some l => if small l.length = true then .ok (.v (.im .none)) (put' g2 i (l ++ [d])) else .no) := q1
      cases e2 : lstOf g2[i]? with
      | none => rw [e2] at q2; exact q2.elim
      | some l =>
        rw [e2] at q2
        have q3 : GEnd X Wx Z σ (RP X Z σ ps Hf Q) (if small l.length = true then .ok (.v (.im .none)) (put' g2 i (l ++ [d])) else .no) := q2
        obtain ⟨a2, xs2, hv2, ha2, hl2⟩ := S2.lst e2
        have ea : a2 = a := by
          rw [hv] at hv2; cases hv2; rfl
        subst ea
        by_cases c : small l.length = true
        · rw [if_pos c] at q3
          refine ⟨a2, xs2, y, rfl, rfl, ha2, by rw [dpa_len hl2]; exact small_lt c, ?_⟩
          have S3 := S2.drop.put e2 hv (dpa_append hl2 (.cons hd .nil))
          exact q3 .non _ Hf2 (s1.trans s2) (S3.pushIm .non)
        · rw [if_neg c] at q3; exact q3.elim⟩
/-- xs.pop() -/
def ePop (i : Nat) (g : Gm) : Res W := match lstOf g[i]? with
  | none => .no
  | some l => match l[l.length - 1]? with
    | none => .no
    | some d => .ok (.v (.im d)) (put' g i l.dropLast)
theorem dpa_dropLast {K : PySem.W.Frag} {H : Hp} {vs : List V} {ds : List D} (h : DpAll K H vs ds) : DpAll K H vs.dropLast ds.dropLast := by
  rw [List.dropLast_eq_take, List.dropLast_eq_take, dpa_len h]
  exact dpa_take _ h
theorem de_pop {o : Expr} {apos cpos : Pos} (h : PE X (.Call (.Attribute o "pop" apos) [] [] cpos) (tBM0 X.K "list" rPop (tVar i))) : DE X Wx (.Call (.Attribute o "pop" apos) [] [] cpos) (ePop i) := ⟨PE.imp h fun σ H Q ⟨Z, g, ps, Hf, S, q⟩ => by
  unfold ePop at q
  cases e0 : lstOf g[i]? with
  | none => rw [e0] at q; exact q.elim
  | some l =>
    rw [e0] at q
    have q' : GEnd X Wx Z σ (RP X Z σ ps Hf Q) (match l[l.length - 1]? with
      | none => .no
      | some d => .ok (.v (.im d)) (put' g i l.dropLast)) := q
    obtain ⟨a, xs, hv, ha', hl⟩ := S.lst e0
    cases e1 : l[l.length - 1]? with
    | none => rw [e1] at q'; exact q'.elim
    | some d =>
      rw [e1] at q'
      obtain ⟨y, hy, hd⟩ := dpa_get hl e1
      refine ⟨_, hv, Or.inl ⟨rfl, xs, Or.inl (Or.inl ha')⟩, a, xs, y, rfl, rfl, ha', by rw [dpa_len hl]; exact hy, ?_⟩
      exact q' y _ Hf (Same.refl _) ((S.put e0 hv (dpa_dropLast hl)).pushIm hd)⟩

/-! ### targets: names -/
/-- a name, or a tuple of names (in tuples): every slot gets its data -/
inductive Tg where
  | nm (i : Nat)
  | tp (ts : List Tg)
mutual
def Tg.put : Tg → D → Gm → Option Gm
  | .nm i, d, g => if noIo g[i]? = true then some (g.set i (.im d)) else none
  | .tp ts, d, g => match d with
    | .tuple ds => if ds.length = ts.length then Tg.putAll ts ds g else none
    | _ => none
def Tg.putAll : List Tg → List D → Gm → Option Gm
  | [], _, g => some g
  | t :: ts, d :: ds, g => (Tg.put t d g).bind fun g1 => Tg.putAll ts ds g1
  | _ :: _, [], _ => none
end
mutual
def Tg.slots : Tg → List Nat
  | .nm i => [i]
  | .tp ts => Tg.slotsAll ts
def Tg.slotsAll : List Tg → List Nat
  | [] => []
  | t :: ts => Tg.slots t ++ Tg.slotsAll ts
end
def NoAl (ps : List (V × W)) : Prop := ∀ y j, (y, W.s j) ∉ ps
structure DG (X : Cx) (tg : Expr) (t : Tg) : Prop where
  pg : PG X tg (fun v σ H Q => ∃ Z g ps Hf d g', Stx X.K Z g σ ps H Hf ∧ NoAl ps ∧ Dp X.K Hf v d ∧ t.put d g = some g' ∧ ∀ σ', Stx X.K Z g' σ' ps H Hf → (∀ j, j ∉ t.slots → σ'[j]? = σ[j]?) → Q σ' H)
structure DGs (X : Cx) (tgs : List Expr) (ts : List Tg) : Prop where
  pg : PGs X tgs (fun vs σ H Q => ∃ Z g ps Hf ds g', Stx X.K Z g σ ps H Hf ∧ NoAl ps ∧ DpAll X.K Hf vs ds ∧ ds.length = ts.length ∧ Tg.putAll ts ds g = some g' ∧ ∀ σ', Stx X.K Z g' σ' ps H Hf → (∀ j, j ∉ Tg.slotsAll ts → σ'[j]? = σ[j]?) → Q σ' H)
theorem PG.imp {X : Cx} {e : Expr} {t t' : TG} (h : PG X e t) (i : ∀ v σ H Q, t' v σ H Q → t v σ H Q) : PG X e t' := ⟨fun pins s σ H v u Q I r k => h.run pins s σ H v u Q I r (i v σ H Q k)⟩
theorem PGs.imp {X : Cx} {e : List Expr} {t t' : TGs} (h : PGs X e t) (i : ∀ v σ H Q, t' v σ H Q → t v σ H Q) : PGs X e t' := ⟨fun pins s σ H v u Q I r k => h.run pins s σ H v u Q I r (i v σ H Q k)⟩
theorem dg_nm {i : Nat} {tg : Expr} (h : PG X tg (gName i)) : DG X tg (.nm i) := ⟨PG.imp h fun v σ H Q ⟨Z, g, ps, Hf, d, g', S, na, hd, hp, k⟩ => by
  simp only [Tg.put] at hp
  by_cases c : noIo g[i]? = true
  · rw [if_pos c] at hp
    cases hp
    refine k _ ((S.pushIm hd).store c na) fun j hj => ?_
    have : i ≠ j := fun e => hj (by simp [Tg.slots, e])
    rw [List.getElem?_set_ne this]
  · rw [if_neg c] at hp; cases hp⟩
theorem dgs_nil : DGs X [] [] := ⟨PGs.imp pgs_nil fun v σ H Q ⟨Z, g, ps, Hf, ds, g', S, na, hd, hl, hp, k⟩ => by
  cases ds with
  | nil =>
    cases hd
    simp [Tg.putAll] at hp
    subst hp
    exact ⟨rfl, k σ S fun j _ => rfl⟩
  | cons d ds => simp at hl⟩
theorem dgs_cons {e : Expr} {es : List Expr} {t : Tg} {ts : List Tg} (h1 : DG X e t) (h2 : DGs X es ts) (h : ∀ {T : TG} {U : TGs}, PG X e T → PGs X es U → PGs X (e :: es) (gCons T U)) : DGs X (e :: es) (t :: ts) := ⟨PGs.imp (h h1.pg h2.pg) fun v σ H Q ⟨Z, g, ps, Hf, ds, g', S, na, hd, hl, hp, k⟩ => by
  cases ds with
  | nil => simp at hl
  | cons d ds =>
    cases hd with
    | cons hd1 hd2 =>
      simp only [Tg.putAll, Option.bind_eq_some_iff] at hp
      obtain ⟨g1, hp1, hp2⟩ := hp
      refine ⟨_, _, rfl, Z, g, ps, Hf, d, g1, S, na, hd1, hp1, fun σ1 S1 e1 => ?_⟩
      refine ⟨Z, g1, ps, Hf, ds, g', S1, na, hd2, by simpa using hl, hp2, fun σ2 S2 e2 => k σ2 S2 fun j hj => ?_⟩
      simp only [Tg.slotsAll, List.mem_append, not_or] at hj
      rw [e2 j hj.2, e1 j hj.1]⟩
theorem dg_tup {es : List Expr} {k : Nat} {pos : Pos} {ts : List Tg} {n : Nat} (hc : X.calm = true) (h : DGs X es ts) (hn : ts.length = n)
    (ht : ∀ {U : TGs}, PGs X es U → PG X (.Tuple es k pos) (gTup X.K n U)) : DG X (.Tuple es k pos) (.tp ts) := ⟨PG.imp (ht h.pg) fun v σ H Q ⟨Z, g, ps, Hf, d, g', S, na, hd, hp, k⟩ => by
  cases d with
  | tuple ds =>
    simp only [Tg.put] at hp
    by_cases c : ds.length = ts.length
    · rw [if_pos c] at hp
      cases hd with
      | tup hs hl =>
        refine ⟨_, _, rfl, ?_, by rw [dpa_len hl, c, hn], Z, g, ps, Hf, ds, g', S, na, hl, c, hp, fun σ' S' e' => k σ' S' e'⟩
        rcases hs with (h | ⟨o, h⟩) | h
        · exact .inl (.inl (S.frz _ _ h))
        · exact .inl (.inr ⟨o, S.frz _ _ h⟩)
        · exact .inr h
    · rw [if_neg c] at hp; cases hp
  | _ => simp [Tg.put] at hp⟩
end
end DL
/-! ## DLf.lean -/
set_option Elab.async false
set_option linter.all false
set_option maxRecDepth 100000
set_option maxHeartbeats 4000000
namespace DL
open PySem L2

section
variable {X : Cx} {Wx : WX} {K : PySem.W.Frag} {Z : Zs} {g g' : Gm} {σ σ' : L2.St} {ps ps' qs : List (V × W)} {H H' Hf Hf' : Hp} {x : V} {d : D} {l : List D} {i : Nat} {α β : Type}

/-! ### what a for walks -/
/-- J yields ds, whatever frozen things stand more -/
structure ItD (K : PySem.W.Frag) (Hf : Hp) (J : It) (ds : List D) : Prop where
  go : ∀ i H2 Hf2, Same Hf Hf2 → Same Hf2 H2 → i < ds.length → J.go i H2
  stop : ∀ i H2 Hf2, Same Hf Hf2 → Same Hf2 H2 → ds.length ≤ i → J.stop i H2
  yld : ∀ i H2 Hf2 x H3 d, Same Hf Hf2 → Same Hf2 H2 → ds[i]? = some d → J.yld i H2 x H3 → ∃ Hf3, Grow K H2 Hf2 H3 Hf3 x (.im d)
theorem ItD.mono {J : It} {ds : List D} (h : ItD K Hf J ds) (e : Same Hf Hf') : ItD K Hf' J ds :=
  ⟨fun i H2 Hf2 a b c => h.go i H2 Hf2 (e.trans a) b c, fun i H2 Hf2 a b c => h.stop i H2 Hf2 (e.trans a) b c, fun i H2 Hf2 x H3 d a b c k => h.yld i H2 Hf2 x H3 d (e.trans a) b c k⟩
def IP (X : Cx) (Z : Zs) (σ : L2.St) (ps : List (V × W)) (Hf : Hp) (R : It → Hp → Prop) : List D → Gm → Prop := fun ds g' => ∀ J H' Hf', Same Hf Hf' → Stx X.K Z g' σ ps H' Hf' → ItD X.K Hf' J ds → R J H'
structure DI (X : Cx) (Wx : WX) (tg e : Expr) (t : Gm → Res (List D)) : Prop where
  pi : PI X tg e (fun σ H R => ∃ Z g ps Hf, Stx X.K Z g σ ps H Hf ∧ GEnd X Wx Z σ (IP X Z σ ps Hf R) (t g))
theorem PI.imp {X : Cx} {tg e : Expr} {t t' : TI} (h : PI X tg e t) (i : ∀ σ H R, t' σ H R → t σ H R) : PI X tg e t' := ⟨fun pins s σ H R I k => h.run pins s σ H R I (i σ H R k)⟩
theorem PI.or {X : Cx} {tg e : Expr} {t t' : TI} (h : PI X tg e t) (h' : PI X tg e t') : PI X tg e (fun σ H R => t σ H R ∨ t' σ H R) := ⟨fun pins s σ H R I k => k.elim (h.run pins s σ H R I) (h'.run pins s σ H R I)⟩
def itE (ta : Gm → Res W) (g : Gm) : Res (List D) := (ta g).bind fun w g1 => match esc g1 w with
  | some (.list ds, g2) => .ok ds g2
  | some (.tuple ds, g2) => .ok ds g2
  | _ => .no
theorem itd_list {a : Addr} {xs : List V} {ds : List D} (hs : SqL K Hf a xs) (hl : DpAll K Hf xs ds) : ItD K Hf (Itl K a) ds where
  go := fun i H2 Hf2 a1 a2 c => by
    have : i < xs.length := by rw [dpa_len hl]; exact c
    exact ⟨xs, xs[i], (a1.trans a2).seq hs, List.getElem?_eq_getElem this⟩
  stop := fun i H2 Hf2 a1 a2 c => ⟨xs, (a1.trans a2).seq hs, by rw [dpa_len hl]; exact c⟩
  yld := fun i H2 Hf2 x H3 d a1 a2 c k => by
    obtain ⟨rfl, k⟩ := k
    obtain ⟨y, hy, hd⟩ := dpa_get hl c
    have := k xs ((a1.trans a2).seq hs)
    rw [hy] at this
    cases this
    exact ⟨Hf2, Grow.same a2 (dp_mono a1 d _ hd)⟩
theorem same_t {H H' : Hp} {a : Addr} {xs : List V} (e : Same H H') (h : SqT K H a xs) : SqT K H' a xs := by
  rcases h with (h | ⟨o, h⟩) | h
  · exact .inl (.inl (e _ _ h))
  · exact .inl (.inr ⟨o, e _ _ h⟩)
  · exact .inr h
theorem itd_tup {a : Addr} {xs : List V} {ds : List D} (hs : SqT K Hf a xs) (hl : DpAll K Hf xs ds) : ItD K Hf (Itt K a) ds where
  go := fun i H2 Hf2 a1 a2 c => by
    have : i < xs.length := by rw [dpa_len hl]; exact c
    exact ⟨xs, xs[i], same_t (a1.trans a2) hs, List.getElem?_eq_getElem this⟩
  stop := fun i H2 Hf2 a1 a2 c => ⟨xs, same_t (a1.trans a2) hs, by rw [dpa_len hl]; exact c⟩
  yld := fun i H2 Hf2 x H3 d a1 a2 c k => by
    obtain ⟨rfl, k⟩ := k
    obtain ⟨y, hy, hd⟩ := dpa_get hl c
    have := k xs (same_t (a1.trans a2) hs)
    rw [hy] at this
    cases this
    exact ⟨Hf2, Grow.same a2 (dp_mono a1 d _ hd)⟩
/-- over a list or a tuple -/
theorem di_e {tg e : Expr} {ta : Gm → Res W} (he : DE X Wx e ta) : DI X Wx tg e (itE ta) := ⟨PI.imp (PI.or (pi_list he.pe) (pi_tup he.pe)) fun σ H R ⟨Z, g, ps, Hf, S, q⟩ => by
  unfold itE at q
  have q0 := q.bind
  cases er : ta g with
  | no => rw [er] at q0; exact q0.elim
  | ex e g => rw [er] at q0; exact .inl ⟨Z, _, ps, Hf, S, by rw [er]; exact q0⟩
  | ok w g1 =>
    rw [er] at q0
    have q1 : GEnd X Wx Z σ (IP X Z σ ps Hf R) (match esc g1 w with
      | some (.list ds, g2) => .ok ds g2
      | some (.tuple ds, g2) => .ok ds g2
      | _ => .no) := q0
    have known : GEnd X Wx Z σ (fun w' g' => w' = w ∧ g' = g1) (ta g) := by rw [er]; exact ⟨rfl, rfl⟩
    cases e1 : esc g1 w with
    | none => rw [e1] at q1; exact q1.elim
    | some r =>
      obtain ⟨d, g2⟩ := r
      rw [e1] at q1
      cases d with
      | list ds =>
        refine .inl (giveE he S known fun w' g1' x H1 Hf1 kn s1 S1 => ?_)
        obtain ⟨rfl, rfl⟩ := kn
        obtain ⟨Hf2, s2, hd, S2⟩ := S1.esc e1
        cases hd with
        | lst hs hl => exact ⟨_, rfl, ⟨_, S2.frz.seq hs⟩, q1 _ H1 Hf2 (s1.trans s2) S2.drop (itd_list hs hl)⟩
      | tuple ds =>
        refine .inr (giveE he S known fun w' g1' x H1 Hf1 kn s1 S1 => ?_)
        obtain ⟨rfl, rfl⟩ := kn
        obtain ⟨Hf2, s2, hd, S2⟩ := S1.esc e1
        cases hd with
        | tup hs hl => exact ⟨_, rfl, ⟨_, same_t S2.frz hs⟩, q1 _ H1 Hf2 (s1.trans s2) S2.drop (itd_tup hs hl)⟩
      | _ => exact q1.elim⟩
def rngD (a : Int) (n : Nat) : List D := (List.range n).map fun k => .int (a + ((k : Nat) : Int))
theorem rngD_len (a : Int) (n : Nat) : (rngD a n).length = n := by simp [rngD]
theorem rngD_get {a : Int} {n i : Nat} {d : D} (h : (rngD a n)[i]? = some d) : d = .int (a + (i : Nat)) := by
  unfold rngD at h
  rw [List.getElem?_map] at h
  cases e : (List.range n)[i]? with
  | none => rw [e] at h; simp at h
  | some k =>
    rw [e] at h
    simp at h
    have := List.getElem?_range (n := n) (i := i) (by
      have := (List.getElem?_eq_some_iff.mp e).1
      simpa using this)
    rw [this] at e
    cases e
    exact h.symm
theorem itd_rng {a : Int} {n : Nat} : ItD K Hf (Itr a n) (rngD a n) where
  go := fun i H2 Hf2 a1 a2 c => by rw [rngD_len] at c; exact c
  stop := fun i H2 Hf2 a1 a2 c => by rw [rngD_len] at c; exact c
  yld := fun i H2 Hf2 x H3 d a1 a2 c k => by
    obtain ⟨rfl, rfl⟩ := k
    rw [rngD_get c]
    exact ⟨Hf2, Grow.same a2 (.int _)⟩
def bd62 (j : Int) : Bool := decide (-(2 ^ 62) ≤ j) && decide (j < 2 ^ 62)
theorem bd62_of {j : Int} (h : bd62 j = true) : -(2 ^ 62) ≤ j ∧ j < 2 ^ 62 := by
  simp only [bd62, Bool.and_eq_true, decide_eq_true_eq] at h
  exact h
/-- range(..) of data -/
def rngOf : List D → Option (List D)
  | [.int j] => if bd62 j = true then some (rngD 0 j.toNat) else none
  | [.int i, .int j] => if (bd62 i && bd62 j) = true then some (rngD i (j - i).toNat) else none
  | _ => none
def itR (ta : Gm → Res (List D)) (g : Gm) : Res (List D) := (ta g).bind fun ds g1 => match rngOf ds with
  | some l => .ok l g1
  | none => .no
theorem di_range1 {tg a : Expr} {ta : Gm → Res (List D)} {p pos : Pos} (ha : DAe X Wx [a] ta) (h : ∀ {T : TA}, PA X [a] T → PI X tg (.Call (.Name "range" p) [a] [] pos) (iRng1 T)) (h1 : ∀ g ds g', ta g = .ok ds g' → ds.length = 1) : DI X Wx tg (.Call (.Name "range" p) [a] [] pos) (itR ta) := ⟨PI.imp (h ha.pa) fun σ H R ⟨Z, g, ps, Hf, S, q⟩ => by
  have kn : GEnd X Wx Z σ (fun ds g' => ds.length = 1 ∧ GEnd X Wx Z σ (IP X Z σ ps Hf R) (match rngOf ds with | some l => .ok l g' | none => .no)) (ta g) := by
    have q' := q.bind
    cases er : ta g with
    | ok ds g' => rw [er] at q'; exact ⟨h1 g ds g' er, q'⟩
    | ex e g' => rw [er] at q'; exact q'
    | no => rw [er] at q'; exact q'
  refine giveAe ha S kn fun ds g1 xs H1 Hf1 q1 s1 l S1 => ?_
  obtain ⟨hl, q1⟩ := q1
  match ds, hl, q1, l with
  | [.int j], _, q1, l =>
    cases l with
    | cons h1 h2 =>
      cases h1; cases h2
      simp only [rngOf] at q1
      by_cases c : bd62 j = true
      · rw [if_pos c] at q1
        exact ⟨j, rfl, (bd62_of c).1, (bd62_of c).2, q1 _ H1 Hf1 s1 S1 itd_rng⟩
      · rw [if_neg c] at q1; exact q1.elim
  | [.none], _, q1, _ => exact q1.elim
  | [.bool _], _, q1, _ => exact q1.elim
  | [.str _], _, q1, _ => exact q1.elim
  | [.list _], _, q1, _ => exact q1.elim
  | [.tuple _], _, q1, _ => exact q1.elim
  | [.dict _], _, q1, _ => exact q1.elim⟩
theorem di_range2 {tg a b : Expr} {ta : Gm → Res (List D)} {p pos : Pos} (ha : DAe X Wx [a, b] ta) (h : ∀ {T : TA}, PA X [a, b] T → PI X tg (.Call (.Name "range" p) [a, b] [] pos) (iRng2 T)) (h1 : ∀ g ds g', ta g = .ok ds g' → ds.length = 2) : DI X Wx tg (.Call (.Name "range" p) [a, b] [] pos) (itR ta) := ⟨PI.imp (h ha.pa) fun σ H R ⟨Z, g, ps, Hf, S, q⟩ => by
  have kn : GEnd X Wx Z σ (fun ds g' => ds.length = 2 ∧ GEnd X Wx Z σ (IP X Z σ ps Hf R) (match rngOf ds with | some l => .ok l g' | none => .no)) (ta g) := by
    have q' := q.bind
    cases er : ta g with
    | ok ds g' => rw [er] at q'; exact ⟨h1 g ds g' er, q'⟩
    | ex e g' => rw [er] at q'; exact q'
    | no => rw [er] at q'; exact q'
  refine giveAe ha S kn fun ds g1 xs H1 Hf1 q1 s1 l S1 => ?_
  obtain ⟨hl, q1⟩ := q1
  match ds, hl with
  | [d1, d2], _ =>
    have key : ∀ o, rngOf [d1, d2] = some o → ∃ i j, d1 = .int i ∧ d2 = .int j ∧ bd62 i = true ∧ bd62 j = true ∧ o = rngD i (j - i).toNat := fun o e => by
      cases d1 with
      | int i =>
        cases d2 with
        | int j =>
          simp only [rngOf] at e
          by_cases c : (bd62 i && bd62 j) = true
          · rw [if_pos c] at e
            cases e
            simp only [Bool.and_eq_true] at c
            exact ⟨i, j, rfl, rfl, c.1, c.2, rfl⟩
          · rw [if_neg c] at e; cases e
        | _ => simp [rngOf] at e
      | _ => simp [rngOf] at e
    cases e : rngOf [d1, d2] with
    | none => rw [e] at q1; exact q1.elim
    | some o =>
      rw [e] at q1
      obtain ⟨i, j, rfl, rfl, c1, c2, rfl⟩ := key o e
      cases l with
      | cons h1 h2 =>
        cases h2 with
        | cons h2 h3 =>
          cases h1; cases h2; cases h3
          exact ⟨i, j, rfl, ⟨(bd62_of c1).1, (bd62_of c1).2, (bd62_of c2).1, (bd62_of c2).2⟩, q1 _ H1 Hf1 s1 S1 itd_rng⟩⟩
theorem len1 {ta : Gm → Res W} : ∀ g ds g', aConsE ta aNilE g = .ok ds g' → ds.length = 1 := fun g ds g' e => by
  unfold aConsE at e
  cases e1 : ta g with
  | ok w g1 =>
    rw [e1] at e
    have e' : (match esc g1 w with | some (d, g2) => (aNilE g2).bind fun ds g3 => Res.ok (d :: ds) g3 | none => .no) = .ok ds g' := e
    cases e2 : esc g1 w with
    | none => rw [e2] at e'; cases e'
    | some r => obtain ⟨d, g2⟩ := r; rw [e2] at e'; cases e'; rfl
  | ex e2 g1 => rw [e1] at e; cases e
  | no => rw [e1] at e; cases e
theorem len2 {ta tb : Gm → Res W} : ∀ g ds g', aConsE ta (aConsE tb aNilE) g = .ok ds g' → ds.length = 2 := fun g ds g' e => by
  unfold aConsE at e
  cases e1 : ta g with
  | ok w g1 =>
    rw [e1] at e
    have e' : (match esc g1 w with | some (d, g2) => (aConsE tb aNilE g2).bind fun ds g3 => Res.ok (d :: ds) g3 | none => .no) = .ok ds g' := e
    cases e2 : esc g1 w with
    | none => rw [e2] at e'; cases e'
    | some r =>
      obtain ⟨d, g2⟩ := r
      rw [e2] at e'
      have e'' : ((aConsE tb aNilE g2).bind fun ds g3 => Res.ok (d :: ds) g3) = .ok ds g' := e'
      cases e3 : aConsE tb aNilE g2 with
      | ok ds2 g3 => rw [e3] at e''; cases e''; simp [len1 _ _ _ e3]
      | ex e4 g3 => rw [e3] at e''; cases e''
      | no => rw [e3] at e''; cases e''
  | ex e2 g1 => rw [e1] at e; cases e
  | no => rw [e1] at e; cases e

/-! ### for -/
def forGo (t : D → Gm → Res Unit) (b : Gm → SR) : List D → Gm → SR
  | [], g => .nx g
  | d :: ds, g => (t d g).bindS fun _ g1 => match b g1 with
    | .nx g2 => forGo t b ds g2
    | .ct g2 => forGo t b ds g2
    | .bk g2 => .nx g2
    | r => r
def sFor (it : Gm → Res (List D)) (t : D → Gm → Res Unit) (b : Gm → SR) (g : Gm) : SR := (it g).bindS fun ds g1 => forGo t b ds g1
/-- a target of a statement -/
structure DGt (X : Cx) (Wx : WX) (tg : Expr) (t : D → Gm → Res Unit) : Prop where
  pg : PG X tg (fun v σ H Q => ∃ Z g Hf d, Stx X.K Z g σ [] H Hf ∧ Dp X.K Hf v d ∧ GEnd X Wx Z σ (fun _ g' => ∀ σ' H' Hf', Same Hf Hf' → Stx X.K Z g' σ' [] H' Hf' → Q σ' H') (t d g))
def tgN (t : Tg) (d : D) (g : Gm) : Res Unit := match t.put d g with
  | some g' => .ok () g'
  | none => .no
theorem dgt_n {tg : Expr} {t : Tg} (h : DG X tg t) : DGt X Wx tg (tgN t) := ⟨PG.imp h.pg fun v σ H Q ⟨Z, g, Hf, d, S, hd, q⟩ => by
  unfold tgN at q
  cases e : t.put d g with
  | none => rw [e] at q; exact q.elim
  | some g' => rw [e] at q; exact ⟨Z, g, [], Hf, d, g', S, fun _ _ m => by simp at m, hd, e, fun σ' S' _ => q σ' H Hf (Same.refl _) S'⟩⟩
theorem ds_for {tg it : Expr} {body : List Stmt} {ti : Gm → Res (List D)} {t : D → Gm → Res Unit} {b : Gm → SR} {pos : Pos} (hp : PassesOwn (model X.prog X.w) X.A X.env X.xe) (hc : X.calm = true) (hi : DI X Wx tg it ti) (hg : DGt X Wx tg t) (hb : DSs X Wx body b)
    (hs : ∀ x, foldedSetIterable it X.env x = pure x := by intro _; rfl) : DS X Wx (.For tg it body [] pos) (sFor ti t b) := ⟨PS.imp (ps_for hp hc hi.pi hg.pg hb.ps hs) fun D σ H ⟨Z, g, Hf, S, q⟩ => by
  refine ⟨Z, g, [], Hf, S, (SEnd.bindS (σ := σ) q).mono fun ds g1 q1 J H1 Hf1 s1 S1 it1 => ?_⟩
  refine ⟨fun i m σ H => i + m = ds.length ∧ ∃ g Hf, Stx X.K Z g σ [] H Hf ∧ ItD X.K Hf J ds ∧ SEnd X Wx Z Hf D (forGo t b (ds.drop i) g), ⟨ds.length, by omega, g1, Hf1, S1, it1, q1.mono s1⟩, fun i m σ H ⟨em, g, Hf, S, it, q⟩ => ?_⟩
  by_cases c : i < ds.length
  · refine .inr ⟨it.go i H Hf (Same.refl _) S.frz c, fun σ' H' => ∃ g' Hf', Stx X.K Z g' σ' [] H' Hf' ∧ ItD X.K Hf' J ds ∧ SEnd X Wx Z Hf' D (forGo t b (ds.drop (i + 1)) g'), fun σ' H' h => ⟨m - 1, by omega, by omega, h⟩, fun x H3 hy => ?_⟩
    have ed : ds.drop i = ds[i] :: ds.drop (i + 1) := List.drop_eq_getElem_cons c
    rw [ed] at q
    obtain ⟨Hf3, G⟩ := it.yld i H Hf x H3 _ (Same.refl _) S.frz (List.getElem?_eq_getElem c) hy
    have S3 := S.step G.hh G.hf G.fh G.nw
    have q3 : SEnd X Wx Z Hf3 D ((t ds[i] g).bindS fun _ g1 => match b g1 with
      | .nx g2 => forGo t b (ds.drop (i + 1)) g2
      | .ct g2 => forGo t b (ds.drop (i + 1)) g2
      | .bk g2 => .nx g2
      | r => r) := SEnd.mono q G.hf
    refine ⟨Z, g, Hf3, ds[i], S3, G.is, (SEnd.bindS (σ := σ) q3).mono fun _ g4 q4 σ4 H4 Hf4 s4 S4 => ?_⟩
    have q5 := q4.mono s4
    refine ⟨Z, g4, Hf4, S4, ?_⟩
    have it4 := (it.mono G.hf).mono s4
    cases e : b g4 with
    | nx g5 => rw [e] at q5; exact fun σ' H' Hf' s' S' => ⟨g5, Hf', S', it4.mono s', SEnd.mono (r := forGo t b (ds.drop (i + 1)) g5) q5 s'⟩
    | ct g5 => rw [e] at q5; exact fun σ' H' Hf' s' S' => ⟨g5, Hf', S', it4.mono s', SEnd.mono (r := forGo t b (ds.drop (i + 1)) g5) q5 s'⟩
    | bk g5 => rw [e] at q5; exact q5
    | rt b5 g5 => rw [e] at q5; exact q5
    | ex e5 g5 => rw [e] at q5; exact q5
    | no => rw [e] at q5; exact q5
  · have ed : ds.drop i = [] := List.drop_of_length_le (by omega)
    rw [ed] at q
    exact .inl ⟨it.stop i H Hf (Same.refl _) S.frz (by omega), q σ H Hf (Same.refl _) S⟩⟩
end
end DL
/-! ## DLg.lean -/
set_option Elab.async false
set_option linter.all false
set_option maxRecDepth 100000
set_option maxHeartbeats 4000000
namespace DL
open PySem L2

section
variable {X : Cx} {Wx : WX} {K : PySem.W.Frag} {Z : Zs} {g g' g1 g2 : Gm} {σ σ' : L2.St} {ps ps' qs : List (V × W)} {H H' Hf Hf' H1 H2 Hf1 Hf2 : Hp} {x : V} {d : D} {l : List D} {i : Nat} {α β : Type}

/-! ### a comprehension's own slots -/
def imUn : Option B → Bool
  | some .un => true
  | some (.im _) => true
  | _ => false
def wipeG (g : Gm) : List Nat → Gm
  | [] => g
  | v :: vs => (wipeG g vs).set v .un
/-- the slots vs as they were in g1 -/
def back (g1 : Gm) : List Nat → Gm → Gm
  | [], g2 => g2
  | v :: vs, g2 => back g1 vs (g2.set v (g1.getD v .un))
def deal : V × W → V × W
  | (x, .v b) => (x, .v b)
  | (x, .s _) => (x, .v .un)
theorem root_deal (p : V × W) : root (deal p) = root p := by
  obtain ⟨x, w⟩ := p
  cases w <;> rfl
theorem map_deal (ps : List (V × W)) : (ps.map deal).map root = ps.map root := by
  rw [List.map_map]
  exact List.map_congr_left fun p _ => root_deal p
theorem noAl_deal (ps : List (V × W)) : NoAl (ps.map deal) := fun y j m => by
  obtain ⟨p, _, e⟩ := List.mem_map.mp m
  obtain ⟨x, w⟩ := p
  cases w <;> simp [deal] at e
theorem Stx.deal (S : Stx K Z g σ ps H Hf) : Stx K Z g σ (ps.map DL.deal) H Hf := by
  refine ⟨S.len, S.frz, S.out, S.old, S.new, S.iol, fun p hp => ?_, fun a => ?_, fun y j m => (noAl_deal ps y j m).elim⟩
  · unfold rts at hp
    rw [map_deal] at hp
    exact S.rel p hp
  · unfold rts
    rw [map_deal]
    exact S.nod a
theorem Stx.wipe1 (S : Stx K Z g σ ps H Hf) (na : NoAl ps) {v : Nat} (hi : imUn g[v]? = true) : Stx K Z (g.set v .un) (σ.set v none) ps H Hf := by
  obtain ⟨b0, h2⟩ : ∃ b0, g[v]? = some b0 := by
    cases e : g[v]? with
    | none => rw [e] at hi; cases hi
    | some b0 => exact ⟨b0, rfl⟩
  obtain ⟨u, h1⟩ := sl_get S.len h2
  have er : rts (σ.set v none) (g.set v .un) ps = (rts σ g ps).set v (none, .un) := by
    unfold rts
    rw [zip_set, List.set_append_left]
    rw [List.length_zip]
    have : v < σ.length := (List.getElem?_eq_some_iff.mp h1).1
    have : v < g.length := (List.getElem?_eq_some_iff.mp h2).1
    omega
  refine ⟨by rw [List.length_set, List.length_set]; exact S.len, S.frz, S.out, S.old, S.new, S.iol, fun p hp => ?_, fun a => ?_, fun y j hm => (na y j hm).elim⟩
  · rw [er] at hp
    rcases mem_set_or hp with rfl | ⟨j, hj, hp⟩
    · trivial
    · exact S.rel p (List.mem_of_getElem? hp)
  · rw [er]
    have c1 := cnt_set (a := a) (q := ((none : Option V), B.un)) (rts_get ps h1 h2)
    rw [ow_un] at c1
    have := S.nod a
    omega
theorem imUn_set {g : Gm} {i j : Nat} (h : imUn g[i]? = true) : imUn (g.set j .un)[i]? = true := by
  by_cases e : j = i
  · subst e
    cases q : g[j]? with
    | none => rw [q] at h; cases h
    | some c => rw [List.getElem?_set_self (List.getElem?_eq_some_iff.mp q).1]; rfl
  · rw [List.getElem?_set_ne e]; exact h
theorem imUn_wipe {g : Gm} {i : Nat} (h : imUn g[i]? = true) : ∀ vs, imUn (wipeG g vs)[i]? = true
  | [] => h
  | v :: vs => imUn_set (imUn_wipe h vs)
theorem Stx.wipe (S : Stx K Z g σ ps H Hf) (na : NoAl ps) : ∀ vs : List Nat, (vs.all fun v => imUn g[v]?) = true → Stx K Z (wipeG g vs) (wipe σ vs) ps H Hf
  | [], _ => S
  | v :: vs, h => by
    simp only [List.all_cons, Bool.and_eq_true] at h
    exact (S.wipe na vs h.2).wipe1 na (imUn_wipe h.1 vs)
theorem Stx.unwipe1 {σ0 : L2.St} {v : Nat} {b : B} {u : Option V} (S : Stx K Z g (σ0.set v none) ps H Hf) (na : NoAl ps) (hu : σ0[v]? = some u) (r : RB K Z H Hf u b) (hb : imUn (some b) = true) (hg : noIo g[v]? = true) : Stx K Z (g.set v b) σ0 ps H Hf := by
  have hl : v < σ0.length := (List.getElem?_eq_some_iff.mp hu).1
  obtain ⟨b0, h2⟩ : ∃ b0, g[v]? = some b0 := by
    cases e : g[v]? with
    | none => rw [e] at hg; cases hg
    | some b0 => exact ⟨b0, rfl⟩
  have h1 : (σ0.set v none)[v]? = some none := List.getElem?_set_self hl
  have es : (σ0.set v none).set v u = σ0 := by
    rw [List.set_set]
    apply List.ext_getElem?
    intro j
    by_cases e : v = j
    · subst e; rw [List.getElem?_set_self hl]; exact hu.symm
    · rw [List.getElem?_set_ne e]
  have er : rts σ0 (g.set v b) ps = (rts (σ0.set v none) g ps).set v (u, b) := by
    unfold rts
    rw [List.set_append_left, ← zip_set, es]
    rw [List.length_zip]
    have : v < g.length := (List.getElem?_eq_some_iff.mp h2).1
    rw [List.length_set]
    omega
  have ho : ∀ a, ow a (u, b) = 0 := fun a => by
    cases b with
    | un => exact ow_un
    | ob => exact ow_ob
    | im d => exact ow_im
    | mu l => cases hb
    | io l => cases hb
  refine ⟨by rw [List.length_set]; exact (by have := S.len; rw [List.length_set] at this; exact this), S.frz, S.out, S.old, S.new, S.iol, fun p hp => ?_, fun a => ?_, fun y j hm => (na y j hm).elim⟩
  · rw [er] at hp
    rcases mem_set_or hp with rfl | ⟨j, hj, hp⟩
    · exact r
    · exact S.rel p (List.mem_of_getElem? hp)
  · rw [er]
    have c1 := cnt_set (a := a) (q := (u, b)) (rts_get ps h1 h2)
    have := ho a
    have := S.nod a
    omega
theorem wipe_get {σ : L2.St} {v : Nat} : ∀ {vs : List Nat}, v ∉ vs → (L2.wipe σ vs)[v]? = σ[v]?
  | [], _ => rfl
  | w :: vs, h => by
    simp only [List.mem_cons, not_or] at h
    show ((L2.wipe σ vs).set w none)[v]? = _
    rw [List.getElem?_set_ne (Ne.symm h.1)]
    exact wipe_get h.2
theorem noIo_setU {g : Gm} {i j : Nat} {b : B} (h : noIo g[i]? = true) (hb : imUn (some b) = true) : noIo (g.set j b)[i]? = true :=
  noIo_set h (by cases b <;> first | rfl | cases hb)
theorem Stx.unwipe (S1 : Stx K Z g1 σ ps' H1 Hf1) (na : NoAl ps) (e : Same Hf1 Hf) : ∀ (vs : List Nat) (g : Gm), vs.Nodup → (vs.all fun v => imUn g1[v]?) = true → (vs.all fun v => noIo g[v]?) = true → Stx K Z g (L2.wipe σ vs) ps H Hf → Stx K Z (back g1 vs g) σ ps H Hf
  | [], g, _, _, _, S => S
  | v :: vs, g, nd, h, hg, S => by
    simp only [List.all_cons, Bool.and_eq_true] at h hg
    have nv : v ∉ vs := (List.nodup_cons.mp nd).1
    obtain ⟨b0, hb0⟩ : ∃ b0, g1[v]? = some b0 := by
      cases e : g1[v]? with
      | none => rw [e] at h; cases h.1
      | some b0 => exact ⟨b0, rfl⟩
    obtain ⟨u, hu⟩ := sl_get S1.len hb0
    have r1 := S1.rel _ (S1.slot hu hb0)
    have hb : imUn (some b0) = true := by have := h.1; rw [hb0] at this; exact this
    have r : RB K Z H Hf u b0 := by
      cases b0 with
      | un => trivial
      | ob => cases hb
      | im d => obtain ⟨y, e1, e2⟩ := r1; exact ⟨y, e1, dp_mono e d y e2⟩
      | mu l => cases hb
      | io l => cases hb
    have S' : Stx K Z (g.set v b0) (L2.wipe σ vs) ps H Hf := Stx.unwipe1 S na (by rw [wipe_get nv]; exact hu) r hb hg.1
    have eg : g1.getD v .un = b0 := by rw [List.getD_eq_getElem?_getD, hb0]; rfl
    show Stx K Z (back g1 vs (g.set v (g1.getD v .un))) σ ps H Hf
    rw [eg]
    refine Stx.unwipe S1 na e vs _ (List.nodup_cons.mp nd).2 h.2 ?_ S'
    rw [List.all_eq_true] at hg ⊢
    exact fun w hw => noIo_setU (hg.2 w hw) hb
/-- aliases wait again -/
theorem Stx.undeal (S : Stx K Z g σ (ps.map DL.deal ++ qs) H Hf) (na : NoAl qs) (ha : ∀ x i, (x, W.s i) ∈ ps → σ[i]? = some (some x)) : Stx K Z g σ (ps ++ qs) H Hf := by
  have er : rts σ g (ps.map DL.deal ++ qs) = rts σ g (ps ++ qs) := by
    unfold rts
    rw [List.map_append, List.map_append, map_deal]
  refine ⟨S.len, S.frz, S.out, S.old, S.new, S.iol, fun p hp => S.rel p (by rw [er]; exact hp), fun a => by rw [← er]; exact S.nod a, fun y j m => ?_⟩
  rcases List.mem_append.mp m with m | m
  · exact ha y j m
  · exact (na y j m).elim
def Res.noex {α : Type} : Res α → Res α
  | .ex _ _ => .no
  | r => r
def okw (vs : List Nat) (g : Gm) : Bool := vs.all fun v => imUn g[v]?
/-- a comprehension's turns: acc so far -/
def compGo (vs : List Nat) (t : Tg) (c : Gm → Res Bool) (e : Gm → Res W) : List D → List D → Gm → Res (List D)
  | [], acc, g => .ok acc g
  | d :: ds, acc, g => match t.put d g with
    | none => .no
    | some g1 => (c g1).noex.bind fun b g2 => if b = true then (e g2).noex.bind fun w g3 => match esc g3 w with
        | none => .no
        | some (y, g4) => if (small acc.length && okw vs g4) = true then compGo vs t c e ds (acc ++ [y]) (wipeG g4 vs) else .no
      else if okw vs g2 = true then compGo vs t c e ds acc (wipeG g2 vs) else .no
def eComp (vs : List Nat) (it : Gm → Res (List D)) (t : Tg) (c : Gm → Res Bool) (e : Gm → Res W) (g : Gm) : Res W := (it g).bind fun ds g1 =>
  if (okw vs g1 && decide (vs.Nodup)) = true then (compGo vs t c e ds [] (wipeG g1 vs)).bind fun acc g2 => if (vs.all fun v => noIo g2[v]?) = true then .ok (.v (.mu acc)) (back g1 vs g2) else .no else .no
abbrev W0 : WX := fun _ _ _ _ => False
structure DTs (X : Cx) (Wx : WX) (e : List Expr) (t : Gm → Res Bool) : Prop where
  pt : PTs X e (fun σ H Q => ∃ Z g ps Hf, Stx X.K Z g σ ps H Hf ∧ GEnd X Wx Z σ (TPo X Z σ ps Hf Q) (t g))
theorem PTs.imp {X : Cx} {e : List Expr} {t t' : TT} (h : PTs X e t) (i : ∀ σ H Q, t' σ H Q → t σ H Q) : PTs X e t' := ⟨fun pins s σ H Q I k => h.run pins s σ H Q I (i σ H Q k)⟩
def tYs (g : Gm) : Res Bool := .ok true g
theorem dts_nil : DTs X Wx [] tYs := ⟨PTs.imp pts_nil fun σ H Q ⟨Z, g, ps, Hf, S, q⟩ => q H Hf (Same.refl _) S⟩
theorem dts_one {e : Expr} {t : Gm → Res Bool} (h : DT X Wx e t) : DTs X Wx [e] t := ⟨pts_one h.pt⟩
theorem noex_end {p : α → Gm → Prop} {r : Res α} (h : GEnd X Wx Z σ p r.noex) : ∃ a g, r = .ok a g ∧ p a g := by
  cases r with
  | ok a g => exact ⟨a, g, rfl, h⟩
  | ex e g => exact h.elim
  | no => exact h.elim
theorem wipe_of {σ σ2 : L2.St} : ∀ {vs : List Nat}, (∀ j, j ∉ vs → σ2[j]? = σ[j]?) → σ2.length = σ.length → L2.wipe σ2 vs = L2.wipe σ vs := fun {vs} h hl => by
  apply List.ext_getElem?
  intro j
  by_cases e : j ∈ vs
  · have key : ∀ (σ : L2.St) (vs : List Nat), j ∈ vs → (L2.wipe σ vs)[j]? = if j < σ.length then some none else none := by
      intro σ vs
      induction vs with
      | nil => intro m; cases m
      | cons v vs ih =>
        intro m
        show ((L2.wipe σ vs).set v none)[j]? = _
        by_cases e2 : v = j
        · subst e2
          rw [List.getElem?_set]
          simp [wipe_length]
        · rw [List.getElem?_set_ne e2]
          exact ih (by rcases List.mem_cons.mp m with m | m; exact absurd m.symm e2; exact m)
    rw [key σ2 vs e, key σ vs e, hl]
  · rw [wipe_get e, wipe_get e, h j e]
theorem wipe_wipe (σ : L2.St) (vs : List Nat) : L2.wipe (L2.wipe σ vs) vs = L2.wipe σ vs :=
  wipe_of (fun j hj => wipe_get hj) (wipe_length _ _)
theorem Stx.rewipe (S : Stx K Z g σ' ps H Hf) (na : NoAl ps) (vs : List Nat) (h : (vs.all fun v => imUn g[v]?) = true) (e : L2.wipe σ' vs = L2.wipe σ vs) : Stx K Z (wipeG g vs) (L2.wipe σ vs) ps H Hf := e ▸ S.wipe na vs h
theorem conv_pe {X' : Cx} {e : Expr} {t : Gm → Res W} (hk : X'.K = X.K) (h : DE X' W0 e t) : PE X' e (fun σ H Q => ∃ Z g ps Hf, Stx X.K Z g σ ps H Hf ∧ GEnd X W0 Z σ (RP X Z σ ps Hf Q) (t g).noex) := PE.imp h.pe fun σ H Q ⟨Z, g, ps, Hf, S, q⟩ => by
  obtain ⟨a, g', e1, q1⟩ := noex_end q
  refine ⟨Z, g, ps, Hf, hk ▸ S, ?_⟩
  rw [e1]
  exact fun x H' Hf' s S' => q1 x H' Hf' s (hk ▸ S')
theorem conv_pt {X' : Cx} {e : List Expr} {t : Gm → Res Bool} (hk : X'.K = X.K) (h : DTs X' W0 e t) : PTs X' e (fun σ H Q => ∃ Z g ps Hf, Stx X.K Z g σ ps H Hf ∧ GEnd X W0 Z σ (TPo X Z σ ps Hf Q) (t g).noex) := PTs.imp h.pt fun σ H Q ⟨Z, g, ps, Hf, S, q⟩ => by
  obtain ⟨a, g', e1, q1⟩ := noex_end q
  refine ⟨Z, g, ps, Hf, hk ▸ S, ?_⟩
  rw [e1]
  exact fun H' Hf' s S' => q1 H' Hf' s (hk ▸ S')
theorem conv_pg {X' : Cx} {tg : Expr} {t : Tg} (hk : X'.K = X.K) (h : DG X' tg t) : PG X' tg (fun v σ H Q => ∃ Z g ps Hf d g', Stx X.K Z g σ ps H Hf ∧ NoAl ps ∧ Dp X.K Hf v d ∧ t.put d g = some g' ∧ ∀ σ', Stx X.K Z g' σ' ps H Hf → (∀ j, j ∉ t.slots → σ'[j]? = σ[j]?) → Q σ' H) := PG.imp h.pg fun v σ H Q ⟨Z, g, ps, Hf, d, g', S, na, hd, hp, k⟩ =>
  ⟨Z, g, ps, Hf, d, g', hk ▸ S, na, hk ▸ hd, hp, fun σ' S' e => k σ' (hk ▸ S') e⟩
mutual
theorem tg_len : ∀ (t : Tg) (d : D) (g g' : Gm), t.put d g = some g' → g'.length = g.length
  | .nm i, d, g, g', h => by
    simp only [Tg.put] at h
    split at h
    · cases h; simp
    · cases h
  | .tp ts, d, g, g', h => by
    cases d with
    | tuple ds =>
      simp only [Tg.put] at h
      split at h
      · exact tg_lenA ts ds g g' h
      · cases h
    | _ => simp [Tg.put] at h
theorem tg_lenA : ∀ (ts : List Tg) (ds : List D) (g g' : Gm), Tg.putAll ts ds g = some g' → g'.length = g.length
  | [], ds, g, g', h => by simp [Tg.putAll] at h; rw [h]
  | t :: ts, [], g, g', h => by simp [Tg.putAll] at h
  | t :: ts, d :: ds, g, g', h => by
    simp only [Tg.putAll, Option.bind_eq_some_iff] at h
    obtain ⟨g1, h1, h2⟩ := h
    rw [tg_lenA ts ds g1 g' h2, tg_len t d g g1 h1]
end
theorem de_comp {elt tg iter : Expr} {ifs : List Expr} {scope : Scope} {own : List (Str × Nat)} {pos : Pos} {ti : Gm → Res (List D)} {t : Tg} {c : Gm → Res Bool} {e : Gm → Res W} (hc : X.calm = true) (hN : X.N.Nodup) (hi : DI X Wx tg iter ti) (ok : BlkOk X.N X.env.scope scope own)
    (hg : ∀ (s : Shared) (H : Hp) (C : Addr) (cl : List (Str × Addr)) (fp : List Addr), DG (X.blk s H scope (compEnvC scope cl C X.env) fp) tg t) (ht : ∀ (s : Shared) (H : Hp) (C : Addr) (cl : List (Str × Addr)) (fp : List Addr), DTs (X.blk s H scope (compEnvC scope cl C X.env) fp) W0 ifs c)
    (he : ∀ (s : Shared) (H : Hp) (C : Addr) (cl : List (Str × Addr)) (fp : List Addr), DE (X.blk s H scope (compEnvC scope cl C X.env) fp) W0 elt e) (hv : ∀ j ∈ t.slots, j ∈ own.map (·.2) := by decide) (hs : ∀ x, foldedSetIterable iter X.env x = pure x := by intro _; rfl) :
    DE X Wx (.ListComp elt [⟨tg, iter, ifs, 0⟩] scope pos) (eComp (own.map (·.2)) ti t c e) := ⟨PE.imp (pe_lc hc hN hi.pi ok (fun s H C cl fp => conv_pg (X := X) rfl (hg s H C cl fp)) (fun s H C cl fp => conv_pt (X := X) rfl (ht s H C cl fp)) (fun s H C cl fp => conv_pe (X := X) rfl (he s H C cl fp)) hs) fun σ H Q ⟨Z, g, ps, Hf, S, q⟩ => by
  generalize hvs : own.map (·.2) = vs at *
  refine ⟨Z, g, ps, Hf, S, q.bind.mono fun ds g1 q1 J H1 Hf1 s1 S1 it1 => ?_⟩
  by_cases cc : (okw vs g1 && decide (vs.Nodup)) = true
  rotate_left
  · rw [if_neg cc] at q1; exact q1.elim
  rw [if_pos cc] at q1
  simp only [Bool.and_eq_true, decide_eq_true_eq] at cc
  intro Da hD
  have na := noAl_deal ps
  have Sd := S1.deal
  have Sw := Sd.wipe na vs cc.1
  -- the new list waits
  have Gl : Grow X.K H1 Hf1 (upd H1 Da (.lst [])) Hf1 (.ref Da) (.mu []) := Grow.lst S1.frz hD .nil
  have S2 := Sw.grow Gl
  have nq : ∀ acc, NoAl (ps.map deal ++ [(V.ref Da, W.v (.mu acc))]) := fun acc y j m => by
    rcases List.mem_append.mp m with m | m
    · exact na y j m
    · simp at m
  refine ⟨fun i m H => i + m = ds.length ∧ ∃ g Hf acc, Same Hf1 Hf ∧ Stx X.K Z g (L2.wipe σ vs) (ps.map deal ++ [(V.ref Da, W.v (.mu acc))]) H Hf ∧ ItD X.K Hf J ds ∧
      GEnd X Wx Z σ (fun acc g2 => GEnd X Wx Z σ (RP X Z σ ps Hf Q) (if (vs.all fun v => noIo g2[v]?) = true then .ok (.v (.mu acc)) (back g1 vs g2) else .no)) (compGo vs t c e (ds.drop i) acc g),
    ⟨ds.length, by omega, wipeG g1 vs, Hf1, [], Same.refl _, S2, it1, (q1.bind).mono fun acc g2 q2 => q2.mono fun w g3 q3 => q3.mono s1⟩, fun i m H ⟨em, g, Hf, acc, sf, S, it, q⟩ => ?_⟩
  by_cases cl : i < ds.length
  · refine .inr ⟨it.go i H Hf (Same.refl _) S.frz cl, fun H' => ∃ g Hf acc, Same Hf1 Hf ∧ Stx X.K Z g (L2.wipe σ vs) (ps.map deal ++ [(V.ref Da, W.v (.mu acc))]) H' Hf ∧ ItD X.K Hf J ds ∧
      GEnd X Wx Z σ (fun acc g2 => GEnd X Wx Z σ (RP X Z σ ps Hf Q) (if (vs.all fun v => noIo g2[v]?) = true then .ok (.v (.mu acc)) (back g1 vs g2) else .no)) (compGo vs t c e (ds.drop (i + 1)) acc g), fun H' h => ⟨m - 1, by omega, by omega, h⟩, fun x H3 hy => ?_⟩
    have ed : ds.drop i = ds[i] :: ds.drop (i + 1) := List.drop_eq_getElem_cons cl
    rw [ed] at q
    obtain ⟨Hf3, G⟩ := it.yld i H Hf x H3 _ (Same.refl _) S.frz (List.getElem?_eq_getElem cl) hy
    have S3 := S.step G.hh G.hf G.fh G.nw
    have it3 := it.mono G.hf
    simp only [compGo] at q
    cases ep : t.put ds[i] g with
    | none => rw [ep] at q; exact q.elim
    | some g4 =>
      rw [ep] at q
      refine ⟨Z, g, _, Hf3, ds[i], g4, S3, nq acc, G.is, ep, fun σ4 S4 e4 => ?_⟩
      have ew : L2.wipe σ4 vs = L2.wipe (L2.wipe σ vs) vs := wipe_of (fun j hj => e4 j fun m => hj (hv j m)) (by rw [S4.len, S3.len]; exact tg_len t _ _ _ ep)
      refine ⟨by rw [ew, wipe_wipe], ?_⟩
      have q' : GEnd X Wx Z σ (fun acc g2 => GEnd X Wx Z σ (RP X Z σ ps Hf Q) (if (vs.all fun v => noIo g2[v]?) = true then .ok (.v (.mu acc)) (back g1 vs g2) else .no)) ((c g4).noex.bind fun b g2 => if b = true then (e g2).noex.bind fun w g3 => match esc g3 w with
        | none => .no
        | some (y, g4) => if (small acc.length && okw vs g4) = true then compGo vs t c e (ds.drop (i + 1)) (acc ++ [y]) (wipeG g4 vs) else .no
        else if okw vs g2 = true then compGo vs t c e (ds.drop (i + 1)) acc (wipeG g2 vs) else .no) := q
      obtain ⟨b, g5, eb, q5⟩ := noex_end q'.bind
      refine ⟨Z, g4, _, Hf3, S4, ?_⟩
      rw [eb]
      intro H5 Hf5 s5 S5
      have mono5 : ∀ {Hx}, Same Hf Hx → ∀ {acc g}, GEnd X Wx Z σ (fun acc g2 => GEnd X Wx Z σ (RP X Z σ ps Hf Q) (if (vs.all fun v => noIo g2[v]?) = true then .ok (.v (.mu acc)) (back g1 vs g2) else .no)) (compGo vs t c e (ds.drop (i + 1)) acc g) →
          GEnd X Wx Z σ (fun acc g2 => GEnd X Wx Z σ (RP X Z σ ps Hx Q) (if (vs.all fun v => noIo g2[v]?) = true then .ok (.v (.mu acc)) (back g1 vs g2) else .no)) (compGo vs t c e (ds.drop (i + 1)) acc g) :=
        by intro Hx k acc g h; exact h.mono fun _ _ h2 => h2.mono fun _ _ h3 => h3.mono k
      cases b with
      | false =>
        rw [if_neg Bool.false_ne_true] at q5 ⊢
        by_cases co : okw vs g5 = true
        · rw [if_pos co] at q5
          have k := (G.hf.trans s5)
          have S6 := S5.wipe (nq acc) vs co
          rw [ew, wipe_wipe] at S6
          exact ⟨_, Hf5, acc, sf.trans k, S6, it3.mono s5, mono5 k q5⟩
        · rw [if_neg co] at q5; exact q5.elim
      | true =>
        rw [if_pos rfl] at q5 ⊢
        obtain ⟨w, g6, e6, q6⟩ := noex_end (GEnd.bind q5)
        refine ⟨Z, g5, _, Hf5, S5, ?_⟩
        rw [e6]
        intro y H6 Hf6 s6 S6
        cases e7 : esc g6 w with
        | none => rw [e7] at q6; exact q6.elim
        | some r =>
          obtain ⟨y', g7⟩ := r
          rw [e7] at q6
          obtain ⟨Hf7, s7, hd, S7⟩ := S6.esc e7
          have q7 : GEnd X Wx Z σ (fun acc g2 => GEnd X Wx Z σ (RP X Z σ ps Hf Q) (if (vs.all fun v => noIo g2[v]?) = true then .ok (.v (.mu acc)) (back g1 vs g2) else .no)) (if (small acc.length && okw vs g7) = true then compGo vs t c e (ds.drop (i + 1)) (acc ++ [y']) (wipeG g7 vs) else .no) := q6
          by_cases co : (small acc.length && okw vs g7) = true
          · rw [if_pos co] at q7
            simp only [Bool.and_eq_true] at co
            have S8 := S7.drop
            obtain ⟨a2, xs2, f1, f2, f3, f4, f5⟩ := S8.rel (root (V.ref Da, W.v (.mu acc))) (S8.root_mem mem_last)
            cases f1
            refine ⟨xs2, f4, by rw [dpa_len f5]; exact small_lt co.1, ?_⟩
            have k := ((G.hf.trans s5).trans s6).trans s7
            -- the list grows by y
            have S9 : Stx X.K Z g7 σ4 (ps.map deal ++ [(V.ref Da, W.v (.mu (acc ++ [y'])))]) (upd H6 Da (.lst (xs2 ++ [y]))) Hf7 := by
              have cz : cnt Da (rts σ4 g7 (ps.map deal)) = 0 := by
                have := S8.nod Da
                rw [rts_app, cnt_append] at this
                have e1 : cnt Da ([(V.ref Da, W.v (.mu acc))].map root) = 1 := by simp [cnt, root, ow]
                omega
              have Sb := S8.drop
              have Sc : Stx X.K Z g7 σ4 (ps.map deal) (upd H6 Da (.lst (xs2 ++ [y]))) Hf7 := by
                refine ⟨Sb.len, fun b u eb => ?_, fun b o eb hb => ?_, Sb.old, Sb.new, fun a ea => ?_, fun p hp => ?_, Sb.nod, Sb.als⟩
                · rw [upd_ne (ne_of_none eb f3)]; exact Sb.frz b u eb
                · rw [upd_ne (ne_of_none eb f2)]; exact Sb.out b o eb hb
                · by_cases hb : a = Da
                  · subst hb; exact ⟨_, upd_same⟩
                  · rw [upd_ne hb]; exact Sb.iol a ea
                · refine rb_step (Sb.rel p hp) (Same.refl _) fun a ha => ?_
                  obtain ⟨k1, _⟩ := rb_ow (Sb.rel p hp) ha
                  refine ⟨?_, k1⟩
                  rw [upd_ne]
                  intro ea
                  subst ea
                  have ha' : 0 < ow a p := ha
                  have := cnt_mem (a := a) hp
                  omega
              refine Sc.push ⟨Da, _, rfl, f2, f3, upd_same, dpa_append f5 (.cons hd .nil)⟩ fun a => ?_
              by_cases ea : Da = a
              · subst ea
                rw [cz]
                simp [ow]
              · have : ow a (some (V.ref Da), B.mu (acc ++ [y'])) = 0 := by simp [ow, ea]
                rw [this]
                exact Sb.nod a
            have S10 := S9.wipe (nq _) vs co.2
            rw [ew, wipe_wipe] at S10
            exact ⟨_, Hf7, acc ++ [y'], sf.trans k, S10, ((it3.mono s5).mono s6).mono s7, mono5 k q7⟩
          · rw [if_neg co] at q7; exact q7.elim
  · have ed : ds.drop i = [] := List.drop_of_length_le (by omega)
    rw [ed] at q
    refine .inl ⟨it.stop i H Hf (Same.refl _) S.frz (by omega), ?_⟩
    have q' : GEnd X Wx Z σ (RP X Z σ ps Hf Q) (if (vs.all fun v => noIo g[v]?) = true then .ok (.v (.mu acc)) (back g1 vs g) else .no) := q
    by_cases co : (vs.all fun v => noIo g[v]?) = true
    · rw [if_pos co] at q'
      refine q' (.ref Da) H Hf (Same.refl _) ?_
      have Su := Stx.unwipe Sd (nq acc) sf vs g cc.2 cc.1 co S
      exact Su.undeal (fun y j m => by simp at m) S1.als
    · rw [if_neg co] at q'; exact q'.elim⟩
end
end DL
/-! ## DLh0.lean -/
set_option Elab.async false
set_option linter.all false
set_option maxRecDepth 100000
set_option maxHeartbeats 4000000
namespace DL
open PySem PySem.Spec PyProof.Rows L2

/-- room, and no repr under way -/
structure Rg (k : Nat) (A : Around) : Prop where
  rm : Room k A
  gd : A.guards = some []
theorem Rg.mono {j k : Nat} {A : Around} (r : Rg k A) (h : j ≤ k) : Rg j A := ⟨r.rm.mono h, r.gd⟩
theorem Rg.deeper {k : Nat} {A : Around} (r : Rg (k + 1) A) (env : PySem.Env) : Rg k (A.deeper env) := ⟨r.rm.deeper env, r.gd⟩

/-- a def keeps its promise wherever no repr is under way -/
structure FnG (P : Program) (w : World) (K : PySem.W.Frag) (mg : Str → Option Value) (base : Heap) (k : Nat) (f : Addr) (fd : FuncData) (ps : List Str) (sp : Sp) : Prop where
  len : ∀ vs H Q E, sp vs H Q E → vs.length = ps.length
  run : ∀ (A : Around) (outer : List PySem.Env) (s : Shared) (H : Hp) (args : Args) (us : List Value) (vs : List V) (Q : VK) (E : XK), Rg k A → Env0 P w K mg base A outer s H →
    BindsTo s fd args (ps.zip us) → Vals vs us → sp vs H Q E → codeAny (model P w) A (.call (.ref f) args) (CR (L2.CX P w) outer P w H s Q E) s
section
variable {P : Program} {w : World} {K : PySem.W.Frag} {mg : Str → Option Value} {base : Heap} {k : Nat} {f : Addr} {fd : FuncData} {ps : List Str} {sp : Sp}
theorem FnG.mono {j : Nat} (F : FnG P w K mg base j f fd ps sp) (h : j ≤ k) : FnG P w K mg base k f fd ps sp :=
  ⟨F.len, fun A outer s H args us vs Q E hr => F.run A outer s H args us vs Q E (hr.mono h)⟩
theorem FnG.of {sp : Sp} (F : FnOk P w K mg base (L2.CX P w) k f fd ps sp) : FnG P w K mg base k f fd ps sp :=
  ⟨F.len, fun A outer s H args us vs Q E hr => F.run A outer s H args us vs Q E hr.rm⟩
/-- the rule for a def of the text -/
theorem Fun.okG {x qual : Str} {st : Stmt} {N : List Str} (F : Fun K x qual st f fd) (S : FnScope N ps (defScope st)) (len : ∀ vs H Q E, sp vs H Q E → vs.length = ps.length)
    (hb : ∀ (cdv : Value) (A : Around) (outer : List PySem.Env) (s : Shared) (H : Hp) (vs : List V) (Q : VK) (E : XK), Rg k (A.deeper (envOfC qual (defScope st) s.heap.objs.size f cdv)) → sp vs H Q E →
      ∃ t, PSs (cxOf (L2.CX P w) P w K mg base N qual (defScope st) f cdv A outer s H E) (defBody st) t ∧ t { nx := fun _ H' => Q .non H', rt := Q } (L2.start N vs) H) : FnG P w K mg base (k + 1) f fd ps sp := by
  obtain ⟨oc, od, kV, doc, pm, an, cdv, ct, osl, rfl, lk, hcd⟩ := F.ex
  constructor
  · exact len
  intro A outer s H args us vs Q E hr e0 hbd rv hsp
  have keepB : ∀ b o, base.get? b = some o → s.heap.get? b = some o := fun b o e => (e0.bs b o e).1
  have inK : K.In s.heap := e0.mod.kin.keeps keepB
  have parK : ∀ y ∈ ps.zip us, (defScope st).names.lookup y.1 = some .local ∨
      ((defScope st).names.lookup y.1 = some .cell ∧ ((cellsFrom (s.heap.objs.size + 1) (defScope st).names []).lookup y.1).isSome = true) := by
    intro y hy
    obtain ⟨n, v⟩ := y
    cases S.par n (List.of_mem_zip hy).1 with
    | inl q => exact Or.inl q
    | inr q => exact Or.inr ⟨q, PySem.W.cellsFrom_some _ _ _ (Or.inl q)⟩
  refine codeAny_call_function hr.rm.depth (inK _ _ lk) rfl S.co S.gen rfl (PySem.W.codeRec_of inK hcd) (hbd _ _ _ _ ?_)
  refine wpAny_newFunctionEnv_cells S.kind parK ?_
  intro env he s1 ic
  subst he
  refine ⟨(e0.mod.nolimit.keeps keepB).keeps ic.toInCall.keep, codeAny_func ?_⟩
  obtain ⟨t, pt, tq⟩ := hb cdv A outer s H vs Q E (hr.deeper _) hsp
  have J0 := inv_start (CX := L2.CX P w) (E := E) S hr.rm.hd e0 (len _ _ _ _ hsp) rv ic
  refine wpAny_mono (pt.run [] s1 (L2.start N vs) H _ J0 tq) ?_ fun e s' h => h
  intro fl s' h
  cases fl with
  | next => obtain ⟨σ', H', J, q⟩ := h; exact ⟨V.non, H', J.os, J.bare, J.base, J.hok, rfl, q⟩
  | brk => obtain ⟨_, _, _, q⟩ := h; exact q.elim
  | cont => obtain ⟨_, _, _, q⟩ := h; exact q.elim
  | ret u => obtain ⟨v, σ', H', J, r, q⟩ := h; exact ⟨v, H', J.os, J.bare, J.base, J.hok, r, q⟩
end
section
variable {X : Cx} {k : Nat} {f : Addr} {fd : FuncData} {prs ks : List Str} {sp : Sp} {W : WX} {pins : List (Addr × Obj)} {σ : L2.St} {H : Hp} {s : Shared} {Q : VK}
def RunP (X : Cx) (pins : List (Addr × Obj)) (σ : L2.St) (Q : VK) : Result → Shared → Prop
  | .ok (.ret u), s' => EP X pins σ Q u s'
  | .ok _, _ => False
  | .error e, s' => X.xe e s'
/-- behind the callee -/
theorem back_of (tk : Takes X W) (I : Inv X pins σ H s) {r : Result} {s' : Shared} (h : CR (L2.CX X.prog X.w) X.stack X.prog X.w H s Q (fun c d H => W c d σ H) r s') : RunP X pins σ Q r s' := by
  cases r with
  | error e => exact passAt tk σ pins H s e s' I h
  | ok fl =>
    cases fl with
    | ret u => exact I.after h
    | next => exact h
    | brk => exact h
    | cont => exact h
theorem runG (F : FnG X.prog X.w X.K X.mg X.base k f fd prs sp) (hr : Rg k X.A) (tk : Takes X W) {args : Args} {us : List Value} {vs : List V} (hb : BindsTo s fd args (prs.zip us)) (I : Inv X pins σ H s) (r : Vals vs us)
    (h : sp vs H Q (fun c d H => W c d σ H)) : codeAny (model X.prog X.w) X.A (.call (.ref f) args) (RunP X pins σ Q) s :=
  codeAny_mono (F.run X.A X.stack s H args us vs Q _ hr I.env0 hb r h) fun r s' q => back_of tk I q
theorem callG (F : FnG X.prog X.w X.K X.mg X.base k f fd prs sp) (hr : Rg k X.A) (tk : Takes X W) {us ws : List Value} {kw : List (Str × Value)} {vs : List V} (hb : BindsTo s fd ⟨us, kw⟩ (prs.zip ws)) (I : Inv X pins σ H s) (r : Vals vs ws)
    (h : sp vs H Q (fun c d H => W c d σ H)) : wpAny (model X.prog X.w) X.A (call (.ref f) us kw) (EP X pins σ Q) X.xe s := by
  refine wpAny_call (codeAny_mono (runG F hr tk hb I r h) fun r s' q => ?_)
  cases r with
  | error e => exact q
  | ok fl => cases fl <;> exact q
variable {x : Str} {p pos : Pos} {e : Expr} {es : List Expr} {t tk' : TA} {kws : List Keyword}
/-- f(e, ..) -/
theorem pe_callG (F : FnG X.prog X.w X.K X.mg X.base k f fd prs sp) (hr : Rg k X.A) (hg : Gl X x) (hm : X.mg x = some (.ref f)) (hk : PySem.W.keepIn X.K (.ref f) = true) (hb : Binds X.K fd prs []) (tk : Takes X W) (ha : PA X (e :: es) t)
    (hdb : (x == ("__debug__" : Str)) = false) (he : starEach (e :: es) X.env = (false, eval e X.env) :: starEach es X.env) (hpl : (backTo pos (starEach es X.env)).any (·.1) = false) :
    PE X (.Call (.Name x p) (e :: es) [] pos) (fun σ H Q => t σ H fun vs H1 => sp vs H1 Q (fun c d H => W c d σ H)) := by
  constructor
  intro pins s σ H Q I h
  refine wpAny_Call_Name_kw (ld_glob I hg hm ?_ hdb)
  refine PySem.W.callWith_K (h₀ := X.base) I.ok.mod.kin hk (thn (ha.run pos pins s σ H _ I h) ?_) he hpl
  rintro us s1 ⟨vs, H1, I1, r, q⟩
  refine ⟨I1.kIn, callG (ws := us) F hr tk ?_ I1 r q⟩
  have l : us.length = prs.length := by rw [← r.length]; exact F.len _ _ _ _ q
  have b := hb s1 us I1.kIn (by rw [List.append_nil]; exact l)
  rwa [List.append_nil] at b
/-- f() -/
theorem pe_callG0 (F : FnG X.prog X.w X.K X.mg X.base k f fd prs sp) (hr : Rg k X.A) (hg : Gl X x) (hm : X.mg x = some (.ref f)) (hk : PySem.W.keepIn X.K (.ref f) = true) (hb : Binds X.K fd prs []) (tk : Takes X W)
    (hdb : (x == ("__debug__" : Str)) = false) : PE X (.Call (.Name x p) [] [] pos) (fun σ H Q => sp [] H Q (fun c d H => W c d σ H)) := by
  constructor
  intro pins s σ H Q I h
  refine wpAny_Call_Name_kw (ld_glob I hg hm ?_ hdb)
  refine PySem.W.callWith_K0 I.kIn hk (callG (us := []) (ws := []) F hr tk ?_ I .nil h)
  have l : ([] : List Value).length = prs.length := F.len _ _ _ _ h
  have b := hb s [] I.kIn (by simpa using l)
  simpa using b
/-- f(k = v, ..) -/
theorem pe_callGK0 {g : List Value → List Value → List Value} {gV : List V → List V → List V} (F : FnG X.prog X.w X.K X.mg X.base k f fd prs sp) (hr : Rg k X.A) (hg : Gl X x) (hm : X.mg x = some (.ref f)) (hk : PySem.W.keepIn X.K (.ref f) = true) (hb : KBn X.K fd prs 0 ks g gV) (tk : Takes X W) (hkw : PK X kws tk')
    (hall : (backToKw pos (keywordEach kws X.env)).all (·.1.isSome) = true) (hks : (backToKw pos (keywordEach kws X.env)).filterMap (·.1) = ks) (hdb : (x == ("__debug__" : Str)) = false)
    (hpl : (backToKw pos (keywordEach kws X.env)).any (·.1.isNone) = false) : PE X (.Call (.Name x p) [] kws pos) (fun σ H Q => tk' σ H fun zs H1 => zs.length = ks.length ∧ sp (gV [] zs) H1 Q (fun c d H => W c d σ H)) := by
  constructor
  intro pins s σ H Q I h
  refine wpAny_Call_Name_kw (ld_glob I hg hm ?_ hdb)
  refine PySem.W.callWith_KW0 (h₀ := X.base) I.ok.mod.kin hk hall (thn (hkw.run pos pins s σ H _ I h) ?_) hpl
  rintro ws s1 ⟨zs, H1, I1, rz, lz, q⟩
  refine ⟨I1.kIn, ?_⟩
  rw [hks]
  exact callG (us := []) (ws := g [] ws) F hr tk (hb.to s1 [] ws I1.kIn rfl (rz.length.symm.trans lz)) I1 (hb.rel .nil rz) q
/-- f(e, .., k = v, ..) -/
theorem pe_callGK {n : Nat} {g : List Value → List Value → List Value} {gV : List V → List V → List V} (F : FnG X.prog X.w X.K X.mg X.base k f fd prs sp) (hr : Rg k X.A) (hg : Gl X x) (hm : X.mg x = some (.ref f)) (hk : PySem.W.keepIn X.K (.ref f) = true) (hb : KBn X.K fd prs n ks g gV) (tk : Takes X W) (ha : PA X (e :: es) t) (hkw : PK X kws tk')
    (hall : (backToKw pos (keywordEach kws X.env)).all (·.1.isSome) = true) (hks : (backToKw pos (keywordEach kws X.env)).filterMap (·.1) = ks) (hdb : (x == ("__debug__" : Str)) = false)
    (he : starEach (e :: es) X.env = (false, eval e X.env) :: starEach es X.env)
    (hpl : ((backTo pos (starEach (e :: es) X.env)).any (·.1) || (backToKw pos (keywordEach kws X.env)).any (·.1.isNone)) = false) :
    PE X (.Call (.Name x p) (e :: es) kws pos) (fun σ H Q => t σ H fun vs H1 => tk' σ H1 fun zs H2 => vs.length = n ∧ zs.length = ks.length ∧ sp (gV vs zs) H2 Q (fun c d H => W c d σ H)) := by
  constructor
  intro pins s σ H Q I h
  refine wpAny_Call_Name_kw (ld_glob I hg hm ?_ hdb)
  refine PySem.W.callWith_KW (h₀ := X.base) I.ok.mod.kin hk hall (thn (ha.run pos pins s σ H _ I h) ?_) hpl he
  rintro us s1 ⟨vs, H1, I1, r, q⟩
  refine thn (hkw.run pos pins s1 σ H1 _ I1 q) ?_
  rintro ws s2 ⟨zs, H2, I2, rz, lv, lz, q2⟩
  refine ⟨I2.kIn, ?_⟩
  rw [hks]
  exact callG (us := us) (ws := g us ws) F hr tk (hb.to s2 us ws I2.kIn (r.length.symm.trans lv) (rz.length.symm.trans lz)) I2 (hb.rel r rz) q2
end

/-! ### the law's call -/
section
variable {P : Program} {w : World} {K : PySem.W.Frag} {mg mb : Str → Option Value} {k : Nat} {fa a : Addr} {fd : FuncData} {x : Str} {sp : Sp} {s : Shared} {vs : List Value} {ns : List Int}
/-- what is tracked ahead of the law's call: the script, or nothing -/
def onlyAt (a : Addr) (o : Obj) (xs : List V) (b : Addr) : Option HO := if b = a then some (.frz o (.lst xs)) else none
theorem law_at (H : Hp) (hx : ∀ b u, H b = some u → b = a ∧ ∃ xs, u = .frz { cls := .type "list", data := .seq vs.toArray } (.lst xs)) (hkk : ∀ b u, H b = some u → K.lookup b = none)
    (KX : K.In s.heap) (hns : s.heap.Ns mainGlobals mg) (hb : s.heap.Ns builtinsNs mb) (hbb : ∀ x : Str, x ≠ "__name__" → mb x = bootBuiltins x) (hlim : s.heap.NoLimit) (hg : s.gens = #[])
    (ha : s.heap.get? a = some { cls := .type "list", data := .seq vs.toArray }) (hok : HOk P w H s.heap) (hr : Rg k callerA)
    (F : ∀ base : Heap, K.In base → base.Ns mainGlobals mg → FnG P w K mg base k fa fd [x] sp) (hbind : ∀ (s : Shared) (u : Value), BindsTo s fd ⟨[u], []⟩ [(x, u)])
    (hsp : sp [.ref a] H (fun v _ => v = .bl true) fun _ _ _ => False) :
    codeAny (model P w) callerA (.call (.ref fa) ⟨[.ref a], []⟩) (fun r s' => r = .ok (.ret (.bool true)) ∧ OldK s.heap s'.heap ∧ s'.os = s.os ∧ AllBare s'.gens) s := by
  let B := hidT s.heap H
  have dicts : ∀ {b : Addr} {o : Obj} {es : Array DictEntry} {ep : Nat}, s.heap.get? b = some o → o.data = .dict es ep → H b = none := by
    intro b o es ep e d
    cases q : H b with
    | none => rfl
    | some u =>
      obtain ⟨rfl, _⟩ := hx b u q
      rw [ha] at e
      cases e
      cases d
  have spaces : ∀ {b : Addr} {m : Str → Option Value}, s.heap.Ns b m → B.Ns b m := by
    rintro b m ⟨o, es, ep, e, d, r⟩
    exact ⟨o, es, ep, hidT_get e (dicts e d), d, r⟩
  have inB : K.In B := by
    intro b o e
    refine hidT_get (KX b o e) ?_
    cases q : H b with
    | none => rfl
    | some u => rw [hkk b u q] at e; cases e
  obtain ⟨mc, l1, l2⟩ := hlim
  have env : Env0 P w K mg B callerA [] s H :=
    { frames := rfl
      mod := { kin := inB, glob := spaces hns, blt := ⟨mb, spaces hb, hbb⟩, nolimit := ⟨mc, spaces l1, l2⟩ }
      bs := fun b o e => of_hidT e
      bsz := Nat.le_of_eq (hidT_size _ _)
      funs := trivial
      frf := fun b h => by cases h
      hok := hok
      bare := .of_eq hg }
  refine codeAny_mono ((F B inB (spaces hns)).run callerA [] s H ⟨[.ref a], []⟩ [.ref a] [.ref a] _ _ hr env (hbind s (.ref a)) (.cons rfl .nil) hsp) ?_
  intro r s' h
  cases r with
  | error e =>
    obtain ⟨_, _, _, _, _, _, _, _, _, _, _, _, z⟩ := h
    exact z.elim
  | ok fl =>
    cases fl with
    | next => exact h.elim
    | brk => exact h.elim
    | cont => exact h.elim
    | ret u =>
      obtain ⟨v, H', h1, h2, h3, h4, h5, h6⟩ := h
      have e1 : v = .bl true := h6
      rw [e1] at h5
      have e2 : u = Value.bool true := h5
      rw [e2]
      refine ⟨rfl, OldK.of_keep fun b o e => ?_, h1, h2⟩
      cases q : H b with
      | none => exact h3.keep b o e q (by intro z; cases z) (by intro z; cases z)
      | some u2 =>
        obtain ⟨rfl, xs, rfl⟩ := hx b u2 q
        have k1 := (h4 b _ (h3.frzs b _ _ q)).1
        rw [ha] at e
        cases e
        exact k1
theorem law_G (KX : K.In s.heap) (hns : s.heap.Ns mainGlobals mg) (hb : s.heap.Ns builtinsNs mb) (hbb : ∀ x : Str, x ≠ "__name__" → mb x = bootBuiltins x) (hlim : s.heap.NoLimit) (hg : s.gens = #[])
    (ha : s.heap.get? a = some { cls := .type "list", data := .seq vs.toArray }) (hi : PyProof.Rows.IntsAre vs ns) (hl : ns.length ≤ sizeLine) (hr : Rg k callerA)
    (F : ∀ base : Heap, K.In base → base.Ns mainGlobals mg → FnG P w K mg base k fa fd [x] sp) (hbind : ∀ (s : Shared) (u : Value), BindsTo s fd ⟨[u], []⟩ [(x, u)])
    (hsp : ∀ H : Hp, SqL K H a (ns.map V.int) → sp [.ref a] H (fun v _ => v = .bl true) fun _ _ _ => False) :
    codeAny (model P w) callerA (.call (.ref fa) ⟨[.ref a], []⟩) (fun r s' => r = .ok (.ret (.bool true)) ∧ OldK s.heap s'.heap ∧ s'.os = s.os ∧ AllBare s'.gens) s := by
  have rv := vals_ints hi
  cases hk : K.lookup a with
  | none =>
    have hit : onlyAt a { cls := .type "list", data := .seq vs.toArray } (ns.map V.int) a = some (.frz { cls := .type "list", data := .seq vs.toArray } (.lst (ns.map V.int))) := if_pos rfl
    have un : ∀ b u, onlyAt a { cls := .type "list", data := .seq vs.toArray } (ns.map V.int) b = some u → b = a ∧ u = .frz { cls := .type "list", data := .seq vs.toArray } (.lst (ns.map V.int)) := by
      intro b u z
      unfold onlyAt at z
      split at z
      · rename_i e; cases z; exact ⟨e, rfl⟩
      · cases z
    refine law_at (onlyAt a _ (ns.map V.int)) (fun b u z => ⟨(un b u z).1, _, (un b u z).2⟩) (fun b u z => by rw [(un b u z).1]; exact hk) KX hns hb hbb hlim hg ha (fun b u z => ?_) hr F hbind (hsp _ (Or.inl (Or.inr ⟨_, hit⟩)))
    obtain ⟨rfl, rfl⟩ := un b u z
    exact ⟨ha, by rw [List.length_map]; exact hl, vs, _, rv, ha⟩
  | some o =>
    have e := KX a o hk
    rw [ha] at e
    cases e
    refine law_at (vs := vs) (fun _ => none) (fun b u z => by cases z) (fun b u z => by cases z) KX hns hb hbb hlim hg ha (fun b u z => by cases z) hr F hbind (hsp _ (Or.inr ⟨_, vs.toArray, _, hk, rfl, rfl, rfl, ?_, by simpa using rv⟩))
    rw [List.size_toArray, hi.length]
    exact hl
end
theorem walkG {l : PySem.W.OpenLaw} {n k : Nat} {q : Program} {loose : List Str} {XP : (Str → Option Value) → Heap → Prop} {YP : World → Heap → Prop} {d : DefRec} {K : Params → PySem.W.Frag} {sp : PySem.W.Frag → (Str → Option Value) → Sp} {x : Str}
    (hn : l.most = some n) (hn2 : n ≤ sizeLine) (hdf : d.params.defaults = []) (hr : Rg k callerA)
    (hY : ∀ (w : World) (h : Heap), YP w h → (K w.params).In h)
    (F : ∀ (w : World) (mg : Str → Option Value) (fa : Addr) (h : Heap), (K w.params).In h → h.Ns mainGlobals mg → mg d.name = some (.ref fa) →
      ∃ fd : FuncData, (∀ (s : Shared) (u : Value), BindsTo s fd ⟨[u], []⟩ [(x, u)]) ∧
        ∀ base : Heap, (K w.params).In base → base.Ns mainGlobals mg → FnG l.prog w (K w.params) mg base k fa fd [x] (sp (K w.params) mg))
    (hsp : ∀ (K : PySem.W.Frag) (mg : Str → Option Value) (H : Hp) (a : Addr) (ns : List Int), ns.length ≤ n → SqL K H a (ns.map V.int) → sp K mg [.ref a] H (fun v _ => v = .bl true) fun _ _ _ => False) :
    PySem.W.WalkO q loose XP YP l.row.toRowW d [] (fun f vs => PySem.call f vs) := by
  refine Att.attach_call hn hdf ?_
  intro w s0 s1 mg mb fa o pm cd doc a vs ns G Y ho hd hcd hmg hobj hints hlen hg
  obtain ⟨fd, hb, hF⟩ := F w mg fa _ (hY w _ Y) G.T.g hmg
  exact law_G (hY w _ Y) G.T.g G.T.b G.T.builtins G.T.nolimit hg hobj hints (Nat.le_trans hlen hn2) hr hF hb fun H hS => hsp _ mg H a ns hlen hS
end DL
/-! ## DLh.lean -/
set_option Elab.async false
set_option linter.all false
set_option maxRecDepth 100000
set_option maxHeartbeats 4000000
namespace DL
open PySem L2
open PyProof.Rows (envOfC)

/-! ### a def's promise, by what it is on data -/
def outB (o : Option (List D)) (bs : List B) : List B := bs.map fun b => match b with
  | .io _ => (match o with
    | some l => B.io l
    | none => B.un)
  | _ => B.un
def okB : B → Bool
  | .im _ => true
  | .mu _ => true
  | _ => false
def okA : B → Bool
  | .im _ => true
  | .io _ => true
  | _ => false
/-- the caller's list behind the body -/
def outOf (bs : List B) (g : Gm) : Option (Option (List D)) := match bs with
  | .io _ :: _ => (match (g[0]? : Option B) with
    | some (B.io l) => some (some l)
    | _ => none)
  | _ => some none
/-- a def of n parameters and m further names; only the first argument may be lent -/
def fnD (n m : Nat) (body : Gm → SR) (bs : List B) : FR :=
  if (decide (bs.length = n) && bs.all okA && (bs.drop 1).all fun b => match b with | .im _ => true | _ => false) = true then
    (match body (bs ++ List.replicate m .un) with
    | .rt b g => (match outOf bs g with
      | some o => if okB b = true then .ok b o else .no
      | none => .no)
    | .nx g => (match outOf bs g with
      | some o => .ok (.im .none) o
      | none => .no)
    | .ex e g => (match outOf bs g with
      | some o => .ex e o
      | none => .no)
    | _ => .no) else .no
def spD (K : PySem.W.Frag) (mg : Str → Option Value) (den : List B → FR) : Sp := fun vs H Q E => ∃ Z bs, Z.He = H ∧ Stx K Z bs (vs.map some) [] H Z.Hf ∧ match den bs with
  | .ok b o => ∀ x H' Hf', Same Z.Hf Hf' → Stx K Z (outB o bs) (vs.map some) [(x, .v b)] H' Hf' → Q x H'
  | .ex e o => ∀ cls d H' Hf', Same Z.Hf Hf' → Stx K Z (outB o bs) (vs.map some) [] H' Hf' → IsEx K mg Hf' cls d e → E cls d H'
  | .no => False
abbrev WxE (E : XK) : WX := fun cls d _ H => E cls d H
section
variable {K : PySem.W.Frag} {Z : Zs} {g g' : Gm} {σ σ' : L2.St} {ps qs : List (V × W)} {H H' Hf Hf' : Hp}
theorem start_stx {vs : List V} {bs : List B} {N : List Str} {n : Nat} (S : Stx K Z bs (vs.map some) [] H Hf) (hl : N.length - vs.length = n) : Stx K Z (bs ++ List.replicate n .un) (L2.start N vs) [] H Hf := by
  have l0 := S.len
  have er : ∀ p ∈ rts (L2.start N vs) (bs ++ List.replicate n .un) [], p ∈ rts (vs.map some) bs [] ∨ p = (none, B.un) := fun p hp => by
    unfold rts L2.start at hp
    rw [hl, List.zip_append l0] at hp
    simp only [List.map_nil, List.append_nil] at hp
    rcases List.mem_append.mp hp with h | h
    · exact .inl (by unfold rts; simp only [List.map_nil, List.append_nil]; exact h)
    · refine .inr ?_
      obtain ⟨a, b⟩ := p
      have h1 := List.of_mem_zip h
      rw [List.eq_of_mem_replicate h1.1, List.eq_of_mem_replicate h1.2]
  refine ⟨by unfold L2.start; rw [List.length_append, List.length_append, List.length_replicate, List.length_replicate, l0, hl], S.frz, S.out, S.old, S.new, S.iol, fun p hp => ?_, fun a => ?_, fun y j m => by simp at m⟩
  · rcases er p hp with h | h
    · exact S.rel p h
    · rw [h]; trivial
  · have e1 : rts (L2.start N vs) (bs ++ List.replicate n .un) [] = rts (vs.map some) bs [] ++ (List.replicate n (none, B.un)) := by
      unfold rts L2.start
      rw [hl, List.zip_append l0]
      simp only [List.map_nil, List.append_nil]
      congr 1
      rw [List.zip_replicate]
      simp
    rw [e1, cnt_append]
    have e2 : ∀ n, cnt a (List.replicate n ((none : Option V), B.un)) = 0 := by
      intro n
      induction n with
      | zero => rfl
      | succ n ih => rw [List.replicate_succ]; show ow a (none, B.un) + _ = 0; rw [ow_un, ih]
    rw [e2]
    exact S.nod a
/-- what the caller may know of its own slots behind the body -/
theorem end_stx {vs : List V} {bs : List B} {o : Option (List D)} {H0 Hf0 : Hp} (S0 : Stx K Z bs (vs.map some) [] H0 Hf0) (S : Stx K Z g σ qs H Hf) (na : NoAl qs) (ho : outOf bs g = some o) (hb : bs.all okA = true) (h1 : ((bs.drop 1).all fun b => match b with | .im _ => true | _ => false) = true) :
    Stx K Z (outB o bs) (vs.map some) qs H Hf := by
  have mk : ∀ (r : List Rt), r.length = bs.length → (∀ a, cnt a r + cnt a (qs.map root) ≤ 1) → (∀ p ∈ r, RB K Z H Hf p.1 p.2) → (vs.map some).zip (outB o bs) = r → Stx K Z (outB o bs) (vs.map some) qs H Hf := fun r hl hc hr er => by
    refine ⟨by unfold outB; rw [List.length_map, List.length_map]; have := S0.len; rw [List.length_map] at this; exact this, S.frz, S.out, S.old, S.new, S.iol, fun p hp => ?_, fun a => ?_, fun y j m => (na y j m).elim⟩
    · unfold rts at hp
      rw [er] at hp
      rcases List.mem_append.mp hp with h | h
      · exact hr p h
      · exact S.rel p (List.mem_append_right _ h)
    · unfold rts
      rw [er, cnt_append]
      exact hc a
  have uns : ∀ (vs : List V) (bs : List B), (bs.all fun b => match b with | .im _ => true | _ => false) = true → ∀ p ∈ (vs.map some).zip (outB o bs), p.2 = B.un := by
    intro vs bs
    induction bs generalizing vs with
    | nil => intro _ p hp; simp [outB] at hp
    | cons b bs ih =>
      intro h p hp
      cases vs with
      | nil => simp at hp
      | cons v vs =>
        simp only [List.all_cons, Bool.and_eq_true] at h
        have e : outB o (b :: bs) = B.un :: outB o bs := by
          cases b with
          | im d => rfl
          | _ => exact absurd h.1 (by simp)
        rw [e] at hp
        rcases List.mem_cons.mp hp with rfl | hp
        · rfl
        · exact ih vs h.2 p hp
  have cuns : ∀ (r : List Rt) (a : Addr), (∀ p ∈ r, p.2 = B.un) → cnt a r = 0 := by
    intro r a
    induction r with
    | nil => intro _; rfl
    | cons p r ih =>
      intro h
      show ow a p + cnt a r = 0
      obtain ⟨u, b⟩ := p
      have : b = B.un := h (u, b) List.mem_cons_self
      subst this
      rw [ow_un, ih fun q hq => h q (List.mem_cons_of_mem _ hq)]
  have lq : ∀ a, cnt a (qs.map root) ≤ 1 := fun a => by
    have := S.nod a
    unfold rts at this
    rw [cnt_append] at this
    omega
  have lz : ((vs.map some).zip (outB o bs)).length = bs.length := by
    have := S0.len
    rw [List.length_zip]
    unfold outB
    rw [List.length_map] at this ⊢
    rw [List.length_map]
    omega
  have plain : (∀ p ∈ (vs.map some).zip (outB o bs), p.2 = B.un) → Stx K Z (outB o bs) (vs.map some) qs H Hf := fun h =>
    mk _ lz (fun a => by rw [cuns _ a h]; have := lq a; omega) (fun p hp => by rw [h p hp]; trivial) rfl
  cases bs with
  | nil => exact plain (uns vs [] rfl)
  | cons b bs =>
    cases vs with
    | nil => have := S0.len; simp at this
    | cons v vs =>
      cases b with
      | un => simp [okA] at hb
      | ob => simp [okA] at hb
      | mu l => simp [okA] at hb
      | im d => exact plain (uns (v :: vs) (.im d :: bs) (by simpa using h1))
      | io l =>
        simp only [outOf] at ho
        cases eg : g[0]? with
        | none => rw [eg] at ho; cases ho
        | some c =>
          rw [eg] at ho
          cases c with
          | io l' =>
            cases ho
            obtain ⟨u, hu⟩ := sl_get S.len eg
            obtain ⟨a, xs, e1, e2, e3, e4, e5⟩ := S.rel _ (S.slot hu eg)
            obtain ⟨a0, xs0, f1, f2, _⟩ := S0.rel (some v, .io l) (by unfold rts; simp)
            dsimp only at e1 f1
            rw [e2] at f2
            cases f2
            cases f1
            subst e1
            have ut := uns vs bs (by simpa using h1)
            refine mk ((some (V.ref a), .io l') :: (vs.map some).zip (outB (some l') bs)) (by exact lz) (fun c => ?_) (fun p hp => ?_) rfl
            · show ow c (some (V.ref a), B.io l') + cnt c ((vs.map some).zip (outB (some l') bs)) + _ ≤ 1
              rw [cuns _ c ut]
              have := S.nod c
              unfold rts at this
              rw [cnt_append] at this
              have k := cnt_mem (a := c) (List.mem_of_getElem? (zip_get hu eg))
              omega
            · rcases List.mem_cons.mp hp with rfl | hp
              · exact ⟨a, xs, rfl, e2, e3, e4, e5⟩
              · rw [ut p hp]; trivial
          | _ => cases ho
end
/-- THE RULE for a def -/
theorem fn_ok {P : Program} {w : World} {K : PySem.W.Frag} {mg : Str → Option Value} {base : Heap} {x qual : Str} {st : Stmt} {f : Addr} {fd : FuncData} {N ps : List Str} {k m : Nat} {body : Gm → SR} (F : Fun K x qual st f fd) (S : FnScope N ps (defScope st))
    (hm : N.length - ps.length = m)
    (hb : ∀ (cdv : Value) (A : Around) (outer : List PySem.Env) (s : Shared) (H : Hp) (E : XK), Rg k (A.deeper (envOfC qual (defScope st) s.heap.objs.size f cdv)) →
      DSs (cxOf (L2.CX P w) P w K mg base N qual (defScope st) f cdv A outer s H E) (WxE E) (defBody st) body) :
    FnG P w K mg base (k + 1) f fd ps (spD K mg (fnD ps.length m body)) := by
  refine DL.Fun.okG F S (fun vs H Q E h => ?_) (fun cdv A outer s H vs Q E hr h => ?_)
  · obtain ⟨Z, bs, _, S0, h⟩ := h
    unfold fnD at h
    by_cases c : (decide (bs.length = ps.length) && bs.all okA && (bs.drop 1).all fun b => match b with | .im _ => true | _ => false) = true
    · simp only [Bool.and_eq_true, decide_eq_true_eq] at c
      have := S0.len
      rw [List.length_map] at this
      omega
    · rw [if_neg c] at h; exact h.elim
  · refine ⟨_, (hb cdv A outer s H E hr).ps, ?_⟩
    obtain ⟨Z, bs, eH, S0, h⟩ := h
    unfold fnD at h
    by_cases c : (decide (bs.length = ps.length) && bs.all okA && (bs.drop 1).all fun b => match b with | .im _ => true | _ => false) = true
    · rw [if_pos c] at h
      simp only [Bool.and_eq_true, decide_eq_true_eq] at c
      have lv := S0.len
      rw [List.length_map] at lv
      have S2 : Stx K Z (bs ++ List.replicate m .un) (L2.start N vs) [] H Z.Hf := start_stx S0 (by rw [lv, c.1.1]; exact hm)
      refine ⟨Z, _, Z.Hf, S2, ?_⟩
      cases eb : body (bs ++ List.replicate m .un) with
      | nx g =>
        rw [eb] at h; dsimp only at h
        intro σ H' Hf' s S1
        cases eo : outOf bs g with
        | none => rw [eo] at h; dsimp only at h
        | some o =>
          rw [eo] at h; dsimp only at h
          exact h .non H' Hf' s (end_stx S0 (Stx.pushIm (ps := []) S1 .non) (fun y j m => by simp at m) eo c.1.2 c.2)
      | rt b g =>
        rw [eb] at h; dsimp only at h
        intro x σ H' Hf' s S1
        cases eo : outOf bs g with
        | none => rw [eo] at h; dsimp only at h
        | some o =>
          rw [eo] at h; dsimp only at h
          have h' : (match (if okB b = true then FR.ok b o else .no) with
            | .ok b o => ∀ x H' Hf', Same Z.Hf Hf' → Stx K Z (outB o bs) (vs.map some) [(x, .v b)] H' Hf' → Q x H'
            | .ex e o => ∀ cls d H' Hf', Same Z.Hf Hf' → Stx K Z (outB o bs) (vs.map some) [] H' Hf' → IsEx K mg Hf' cls d e → E cls d H'
            | .no => False) := h
          by_cases cb : okB b = true
          · rw [if_pos cb] at h'
            exact h' x H' Hf' s (end_stx S0 S1 (fun y j m => by simp at m) eo c.1.2 c.2)
          · rw [if_neg cb] at h'; exact h'.elim
      | ex e g =>
        rw [eb] at h; dsimp only at h
        intro σ cls d H' Hf' S1 ie
        cases eo : outOf bs g with
        | none => rw [eo] at h; dsimp only at h
        | some o =>
          rw [eo] at h; dsimp only at h
          exact h cls d H' Hf' S1.old (end_stx S0 S1 (fun y j m => by simp at m) eo c.1.2 c.2) ie
      | bk g => rw [eb] at h; dsimp only at h
      | ct g => rw [eb] at h; dsimp only at h
      | no => rw [eb] at h; dsimp only at h
    · rw [if_neg c] at h; exact h.elim
end DL
/-! ## DLi.lean -/
set_option Elab.async false
set_option linter.all false
set_option maxRecDepth 100000
set_option maxHeartbeats 4000000
namespace DL
open PySem L2

section
variable {X : Cx} {Wx : WX} {K : PySem.W.Frag} {mg : Str → Option Value} {Z : Zs} {g g' : Gm} {σ σ' : L2.St} {ps qs : List (V × W)} {H H' Hf Hf' : Hp} {x : V} {d : D} {l : List D} {i : Nat} {den : List B → FR}

/-! ### calls of defs -/
theorem cnt_ims : ∀ (xs : List V) (ds : List D) (a : Addr), cnt a ((xs.map some).zip (ds.map B.im)) = 0
  | [], _, _ => by simp [cnt]
  | _ :: _, [], _ => by simp [cnt]
  | x :: xs, d :: ds, a => by
    show ow a (some x, B.im d) + cnt a ((xs.map some).zip (ds.map B.im)) = 0
    rw [ow_im, cnt_ims xs ds a]
theorem rb_ims : ∀ {xs : List V} {ds : List D}, DpAll K Hf xs ds → ∀ p ∈ (xs.map some).zip (ds.map B.im), RB K Z H Hf p.1 p.2
  | _, [], h, p, hp => by cases h; simp at hp
  | _, d :: ds, h, p, hp => by
    cases h with
    | cons h1 h2 =>
      rcases List.mem_cons.mp hp with rfl | hp
      · exact ⟨_, rfl, h1⟩
      · exact rb_ims h2 p hp
/-- the callee's entry -/
theorem call_stx {xs : List V} {ds : List D} (S : Stx K Z g σ ps H Hf) (l : DpAll K Hf xs ds) : Stx K ⟨H, Hf, none, .non⟩ (ds.map B.im) (xs.map some) [] H Hf where
  len := by rw [List.length_map, List.length_map]; exact dpa_len l
  frz := S.frz
  out := fun b o e _ => e
  old := Same.refl _
  new := fun b o e => .inl e
  iol := fun a e => by cases e
  rel := fun p hp => by
    unfold rts at hp
    simp only [List.map_nil, List.append_nil] at hp
    exact rb_ims l p hp
  nod := fun a => by
    unfold rts
    simp only [List.map_nil, List.append_nil]
    rw [cnt_ims]
    exact Nat.zero_le _
  als := fun y j m => by simp at m
theorem call_grow {xs : List V} {b : B} {g2 : Gm} {H1 Hf1 : Hp} (S' : Stx K ⟨H1, Hf1, none, .non⟩ g2 (xs.map some) [(x, .v b)] H' Hf') (hb : okB b = true) : Grow K H1 Hf1 H' Hf' x b where
  hh := fun c o e => S'.out c o e (by simp)
  hf := S'.old
  fh := S'.frz
  nw := S'.new
  is := by
    have r := S'.rel (root (x, .v b)) (S'.root_mem (by simp))
    cases b with
    | un => cases hb
    | ob => cases hb
    | io l => cases hb
    | im d => obtain ⟨y, e1, e2⟩ := r; cases e1; exact e2
    | mu l => obtain ⟨a, ys, e1, e2, e3, e4, e5⟩ := r; cases e1; exact ⟨a, ys, rfl, e2, e3, e4, e5⟩
def frE (g : Gm) : FR → Res W
  | .ok b _ => if okB b = true then .ok (.v b) g else .no
  | .ex e _ => .ex e g
  | .no => .no
def eCall (den : List B → FR) (ta : Gm → Res (List D)) (g : Gm) : Res W := (ta g).bind fun ds g1 => frE g1 (den (ds.map .im))
theorem call_core {xs : List V} {ds : List D} {Q : VK} (S : Stx X.K Z g σ ps H Hf) (l : DpAll X.K Hf xs ds) (q : GEnd X Wx Z σ (RP X Z σ ps Hf Q) (frE g (den (ds.map .im)))) : spD X.K X.mg den xs H Q (fun cls d H' => Wx cls d σ H') := by
  refine ⟨⟨H, Hf, none, .non⟩, ds.map .im, rfl, call_stx S l, ?_⟩
  cases e : den (ds.map B.im) with
  | no => rw [e] at q; exact q.elim
  | ok b o =>
    rw [e] at q
    have q' : GEnd X Wx Z σ (RP X Z σ ps Hf Q) (if okB b = true then .ok (.v b) g else .no) := q
    by_cases c : okB b = true
    · rw [if_pos c] at q'
      intro x H' Hf' s S'
      have G := call_grow S' c
      exact q' x H' Hf' s (S.grow G)
    · rw [if_neg c] at q'; exact q'.elim
  | ex exn o =>
    rw [e] at q
    intro cls d H' Hf' s S' ie
    have q' : XEnd X Wx Z σ exn g := q
    refine q' cls d H' Hf' ?_ ie
    have S1 : Stx X.K Z g σ ps H' Hf' := S.step (fun c o e => S'.out c o e (by simp)) s S'.frz S'.new
    exact Stx.drop (ps := []) (by simpa using S1)
/-- what a caller knows of a def -/
structure Kn (P : Program) (w : World) (K : PySem.W.Frag) (mg : Str → Option Value) (base : Heap) (k : Nat) (x : Str) (f : Addr) (fd : FuncData) (ps : List Str) (den : List B → FR) : Prop where
  ok : FnG P w K mg base k f fd ps (spD K mg den)
  gm : mg x = some (.ref f)
  kp : PySem.W.keepIn K (.ref f) = true
  bi : Binds K fd ps []
theorem de_call {k : Nat} {x : Str} {f : Addr} {fd : FuncData} {prs : List Str} {p pos : Pos} {e : Expr} {es : List Expr} {ta : Gm → Res (List D)} (F : Kn X.prog X.w X.K X.mg X.base k x f fd prs den) (hr : Rg k X.A) (tk : Takes X Wx) (hg : Gl X x) (ha : DAe X Wx (e :: es) ta) (hdb : (x == ("__debug__" : Str)) = false := by decide)
    (he : starEach (e :: es) X.env = (false, eval e X.env) :: starEach es X.env := by rfl) (hpl : (backTo pos (starEach es X.env)).any (·.1) = false := by rfl) : DE X Wx (.Call (.Name x p) (e :: es) [] pos) (eCall den ta) := ⟨PE.imp (pe_callG F.ok hr hg F.gm F.kp F.bi tk ha.pa hdb he hpl) fun σ H Q ⟨Z, g, ps, Hf, S, q⟩ => by
  refine giveAe ha S q.bind fun ds g1 xs H1 Hf1 q1 s1 l S1 => ?_
  exact call_core S1 l (q1.mono fun w g h => h.mono s1)⟩
def eCall0 (den : List B → FR) (g : Gm) : Res W := frE g (den [])
theorem de_call0 {k : Nat} {x : Str} {f : Addr} {fd : FuncData} {prs : List Str} {p pos : Pos} (F : Kn X.prog X.w X.K X.mg X.base k x f fd prs den) (hr : Rg k X.A) (tk : Takes X Wx) (hg : Gl X x) (hdb : (x == ("__debug__" : Str)) = false := by decide) : DE X Wx (.Call (.Name x p) [] [] pos) (eCall0 den) := ⟨PE.imp (pe_callG0 F.ok hr hg F.gm F.kp F.bi tk hdb) fun σ H Q ⟨Z, g, ps, Hf, S, q⟩ => call_core S .nil q⟩
/-- keywords: perm puts the values into the parameters' order -/
def eCallK (den : List B → FR) (n m : Nat) (gD : List D → List D) (ta tk : Gm → Res (List D)) (g : Gm) : Res W := (ta g).bind fun ds g1 => (tk g1).bind fun es g2 =>
  if (decide (ds.length = n) && decide (es.length = m)) = true then frE g2 (den ((gD (ds ++ es)).map .im)) else .no
structure DK (X : Cx) (Wx : WX) (e : List Keyword) (t : Gm → Res (List D)) : Prop where
  pk : PK X e (fun σ H Q => ∃ Z g ps Hf, Stx X.K Z g σ ps H Hf ∧ GEnd X Wx Z σ (AE X Z σ ps Hf Q) (t g))
theorem PK.imp {X : Cx} {e : List Keyword} {t t' : TA} (h : PK X e t) (i : ∀ σ H Q, t' σ H Q → t σ H Q) : PK X e t' := ⟨fun p pins s σ H Q I k => h.run p pins s σ H Q I (i σ H Q k)⟩
theorem dk_nil : DK X Wx [] aNilE := ⟨PK.imp pk_nil fun σ H Q ⟨Z, g, ps, Hf, S, q⟩ => by
  have q' : AE X Z σ ps Hf Q [] g := q
  exact q' [] H Hf (Same.refl _) .nil S⟩
theorem dk_cons {nm : Option Str} {e : Expr} {kpos : Pos} {kws : List Keyword} {ta : Gm → Res W} {tb : Gm → Res (List D)} (ha : DE X Wx e ta) (hb : DK X Wx kws tb) : DK X Wx (⟨nm, e, kpos⟩ :: kws) (aConsE ta tb) := ⟨PK.imp (pk_cons ha.pe hb.pk) fun σ H Q ⟨Z, g, ps, Hf, S, q⟩ => by
  refine giveE ha S q.bind fun w1 g1 x H1 Hf1 q1 s1 S1 => ?_
  cases e1 : esc g1 w1 with
  | none => rw [e1] at q1; exact q1.elim
  | some r =>
    obtain ⟨d, g2⟩ := r
    rw [e1] at q1
    obtain ⟨Hf2, s2, hd, S2⟩ := S1.esc e1
    have q1' : GEnd X Wx Z σ (AE X Z σ ps Hf Q) ((tb g2).bind fun ds g3 => .ok (d :: ds) g3) := q1
    refine ⟨Z, g2, ps, Hf2, S2.drop, q1'.bind.mono fun ds g3 q3 xs H3 Hf3 s3 l S3 => ?_⟩
    have q3' : AE X Z σ ps Hf Q (d :: ds) g3 := q3
    exact q3' (x :: xs) H3 Hf3 ((s1.trans s2).trans s3) (.cons (dp_mono s3 d x hd) l) S3⟩
/-- how the written arguments come to the parameters: by places -/
def permL {α : Type} (is : List Nat) (l : List α) : List α := is.filterMap fun i => l[i]?
theorem dpa_perm {xs : List V} {ds : List D} (h : DpAll K H xs ds) : ∀ is : List Nat, DpAll K H (permL is xs) (permL is ds)
  | [] => .nil
  | i :: is => by
    have ih := dpa_perm h is
    unfold permL at ih ⊢
    rw [List.filterMap_cons, List.filterMap_cons]
    cases e : ds[i]? with
    | none =>
      have : xs[i]? = none := by
        rw [List.getElem?_eq_none_iff] at e ⊢
        rw [dpa_len h]; exact e
      rw [this]
      exact ih
    | some d =>
      obtain ⟨v, hv, hd⟩ := dpa_get h e
      rw [hv]
      exact .cons hd ih
theorem vals_perm {vs : List V} {us : List Value} (r : Vals vs us) : ∀ is : List Nat, Vals (permL is vs) (permL is us)
  | [] => .nil
  | i :: is => by
    have ih := vals_perm r is
    unfold permL at ih ⊢
    rw [List.filterMap_cons, List.filterMap_cons]
    cases e : vs[i]? with
    | none => rw [r.none_of e]; exact ih
    | some v =>
      obtain ⟨u, hu, ru⟩ := r.get e
      rw [hu]
      exact .cons ru ih
theorem kbn_perm {fd : FuncData} {prs ks : List Str} {n : Nat} {is : List Nat} (h : ∀ us ws : List Value, us.length = n → ws.length = ks.length → bindArgs fd ⟨us, ks.zip ws⟩ = pure (prs.zip (permL is (us ++ ws)))) : KBn K fd prs n ks (fun us ws => permL is (us ++ ws)) (fun vs zs => permL is (vs ++ zs)) :=
  ⟨fun s us ws _ l1 l2 => .of_eq (h us ws l1 l2), fun r rz => vals_perm (r.append rz) is⟩
theorem de_callk0 {k : Nat} {x : Str} {f : Addr} {fd : FuncData} {prs ks : List Str} {is : List Nat} {p pos : Pos} {kws : List Keyword} {tk' : Gm → Res (List D)} (F : Kn X.prog X.w X.K X.mg X.base k x f fd prs den) (hr : Rg k X.A) (tk : Takes X Wx) (hg : Gl X x) (hb : KBn X.K fd prs 0 ks (fun us ws => permL is (us ++ ws)) (fun vs zs => permL is (vs ++ zs))) (hkw : DK X Wx kws tk')
    (hall : (backToKw pos (keywordEach kws X.env)).all (·.1.isSome) = true := by rfl) (hks : (backToKw pos (keywordEach kws X.env)).filterMap (·.1) = ks := by rfl) (hdb : (x == ("__debug__" : Str)) = false := by decide)
    (hpl : (backToKw pos (keywordEach kws X.env)).any (·.1.isNone) = false := by rfl) : DE X Wx (.Call (.Name x p) [] kws pos) (eCallK den 0 ks.length (permL is) aNilE tk') := ⟨PE.imp (pe_callGK0 F.ok hr hg F.gm F.kp hb tk hkw.pk hall hks hdb hpl) fun σ H Q ⟨Z, g, ps, Hf, S, q⟩ => by
  have q' : GEnd X Wx Z σ (RP X Z σ ps Hf Q) ((tk' g).bind fun es g2 => if (decide (([] : List D).length = 0) && decide (es.length = ks.length)) = true then frE g2 (den ((permL is ([] ++ es)).map .im)) else .no) := q
  refine ⟨Z, g, ps, Hf, S, q'.bind.mono fun es g2 q2 zs H2 Hf2 s2 l S2 => ?_⟩
  by_cases c : (decide (([] : List D).length = 0) && decide (es.length = ks.length)) = true
  · rw [if_pos c] at q2
    simp only [Bool.and_eq_true, decide_eq_true_eq] at c
    refine ⟨by rw [dpa_len l]; exact c.2, call_core S2 (dpa_perm (by simpa using l) is) (q2.mono fun w g h => h.mono s2)⟩
  · rw [if_neg c] at q2; exact q2.elim⟩
theorem de_callk {k n : Nat} {x : Str} {f : Addr} {fd : FuncData} {prs ks : List Str} {is : List Nat} {p pos : Pos} {e : Expr} {es : List Expr} {kws : List Keyword} {ta tk' : Gm → Res (List D)} (F : Kn X.prog X.w X.K X.mg X.base k x f fd prs den) (hr : Rg k X.A) (tk : Takes X Wx) (hg : Gl X x) (hb : KBn X.K fd prs n ks (fun us ws => permL is (us ++ ws)) (fun vs zs => permL is (vs ++ zs))) (ha : DAe X Wx (e :: es) ta) (hkw : DK X Wx kws tk')
    (hall : (backToKw pos (keywordEach kws X.env)).all (·.1.isSome) = true := by rfl) (hks : (backToKw pos (keywordEach kws X.env)).filterMap (·.1) = ks := by rfl) (hdb : (x == ("__debug__" : Str)) = false := by decide)
    (he : starEach (e :: es) X.env = (false, eval e X.env) :: starEach es X.env := by rfl)
    (hpl : ((backTo pos (starEach (e :: es) X.env)).any (·.1) || (backToKw pos (keywordEach kws X.env)).any (·.1.isNone)) = false := by rfl) : DE X Wx (.Call (.Name x p) (e :: es) kws pos) (eCallK den n ks.length (permL is) ta tk') := ⟨PE.imp (pe_callGK F.ok hr hg F.gm F.kp hb tk ha.pa hkw.pk hall hks hdb he hpl) fun σ H Q ⟨Z, g, ps, Hf, S, q⟩ => by
  refine giveAe ha S q.bind fun ds g1 vs H1 Hf1 q1 s1 l1 S1 => ?_
  refine ⟨Z, g1, ps, Hf1, S1, q1.bind.mono fun es g2 q2 zs H2 Hf2 s2 l S2 => ?_⟩
  by_cases c : (decide (ds.length = n) && decide (es.length = ks.length)) = true
  · rw [if_pos c] at q2
    simp only [Bool.and_eq_true, decide_eq_true_eq] at c
    refine ⟨by rw [dpa_len l1]; exact c.1, by rw [dpa_len l]; exact c.2, call_core S2 (dpa_perm (dpa_append (dpa_mono s2 _ _ l1) l) is) (q2.mono fun w g h => h.mono (s1.trans s2))⟩
  · rw [if_neg c] at q2; exact q2.elim⟩
/-- the first argument is the list in the slot i, lent -/
def frIo (i : Nat) (g : Gm) : FR → Res W
  | .ok b (some l) => if okB b = true then .ok (.v b) (put' g i l) else .no
  | .ex e (some l) => .ex e (put' g i l)
  | _ => .no
def eCallIo (den : List B → FR) (i : Nat) (ta : Gm → Res (List D)) (g : Gm) : Res W := match lstOf g[i]? with
  | none => .no
  | some _ => (ta g).bind fun ds g1 => match lstOf g1[i]? with
    | none => .no
    | some l => frIo i g1 (den (.io l :: ds.map .im))
theorem io_put {a : Addr} {l l' : List D} {H1 Hf1 : Hp} {xs' : List V} (S : Stx K Z g σ ps H1 Hf1) (h : lstOf g[i]? = some l) (hv : σ[i]? = some (some (.ref a)))
    (hh : ∀ c o, c ≠ a → H1 c = some o → H' c = some o) (hf : Same Hf1 Hf') (fh : Same Hf' H') (nw : ∀ c o, Hf' c = some o → Hf1 c = some o ∨ H1 c = none) (ha : H' a = some (.lst xs')) (hfa : Hf' a = none) (hl : DpAll K Hf' xs' l') :
    Stx K Z (put' g i l') σ ps H' Hf' ∧ ∀ p, H1 p = none → cnt p (rts σ (put' g i l') ps) = 0 := by
  have c0 := fun p hp => S.cnt0 (p := p) hp
  have nn : ∀ c, (∃ o, H1 c = some o) → Hf1 c = none → Hf' c = none := fun c ⟨o, ho⟩ hn => by
    cases e : Hf' c with
    | none => rfl
    | some u =>
      rcases nw c u e with k | k
      · rw [hn] at k; cases k
      · rw [ho] at k; cases k
  cases e : g[i]? with
  | none => rw [e] at h; simp [lstOf] at h
  | some b =>
    rw [e] at h
    have r := S.rel _ (S.slot hv e)
    unfold put'
    rw [e]
    cases b with
    | un => simp [lstOf] at h
    | ob => simp [lstOf] at h
    | im d => simp [lstOf] at h
    | mu l0 =>
      obtain ⟨a', xs, e1, e2, e3, e4, e5⟩ := r
      cases e1
      constructor
      · refine S.rebind hv e (fun c => Nat.le_refl _) ⟨a, xs', rfl, e2, hfa, ha, hl⟩ (fun c o k e => hh c o (ow_ne k) e) hf fh (fun c o e => ?_) (fun c k1 k2 k3 => nn c k3 k2) (fun c o k _ => ?_) (fun c ec => ?_)
        · rcases nw c o e with k | k
          · exact .inl k
          · exact .inr (S.he k)
        · refine ow_of_ne ?_
          rintro rfl
          rw [e2] at k; cases k
        · obtain ⟨o, ho⟩ := S.iol c ec
          by_cases hc : c = a
          · subst hc; exact ⟨_, ha⟩
          · exact ⟨o, hh c o hc ho⟩
      · intro p hp
        rw [rts_setb σ g ps _ hv S.len]
        have c1 := cnt_set (a := p) (q := (some (V.ref a), B.mu l')) (rts_get ps hv e)
        have c2 : ow p (some (V.ref a), B.mu l') = ow p (some (V.ref a), B.mu l0) := rfl
        have := c0 p hp
        omega
    | io l0 =>
      obtain ⟨a', xs, e1, e2, e3, e4, e5⟩ := r
      cases e1
      constructor
      · refine S.rebind hv e (fun c => Nat.le_refl _) ⟨a, xs', rfl, e2, hfa, ha, hl⟩ (fun c o k e => hh c o (ow_ne_io k) e) hf fh (fun c o e => ?_) (fun c k1 k2 k3 => nn c k3 k2) (fun c o k k2 => ?_) (fun c ec => ?_)
        · rcases nw c o e with k | k
          · exact .inl k
          · exact .inr (S.he k)
        · show (if a = c then 1 else 0) = 0
          rw [if_neg]
          rintro rfl
          exact k2 e2
        · obtain ⟨o, ho⟩ := S.iol c ec
          by_cases hc : c = a
          · subst hc; exact ⟨_, ha⟩
          · exact ⟨o, hh c o hc ho⟩
      · intro p hp
        rw [rts_setb σ g ps _ hv S.len]
        have c1 := cnt_set (a := p) (q := (some (V.ref a), B.io l')) (rts_get ps hv e)
        have c2 : ow p (some (V.ref a), B.io l') = ow p (some (V.ref a), B.io l0) := rfl
        have := c0 p hp
        omega
theorem lst_hf (S : Stx K Z g σ ps H Hf) (h : lstOf g[i]? = some l) {a : Addr} (hv : σ[i]? = some (some (.ref a))) : Hf a = none := by
  cases e : g[i]? with
  | none => rw [e] at h; simp [lstOf] at h
  | some b =>
    rw [e] at h
    have r := S.rel _ (S.slot hv e)
    cases b with
    | un => simp [lstOf] at h
    | ob => simp [lstOf] at h
    | im d => simp [lstOf] at h
    | mu l0 => obtain ⟨a', xs, e1, e2, e3, e4, e5⟩ := r; cases e1; exact e3
    | io l0 => obtain ⟨a', xs, e1, e2, e3, e4, e5⟩ := r; cases e1; exact e3
theorem callio_core {xs : List V} {ds : List D} {Q : VK} {a : Addr} (S : Stx X.K Z g σ ps H Hf) (l1 : DpAll X.K Hf xs ds) (h : lstOf g[i]? = some l) (hv : σ[i]? = some (some (.ref a))) (q : GEnd X Wx Z σ (RP X Z σ ps Hf Q) (frIo i g (den (.io l :: ds.map .im)))) :
    spD X.K X.mg den (.ref a :: xs) H Q (fun cls d H' => Wx cls d σ H') := by
  obtain ⟨a2, ys, hv2, ha, hl⟩ := S.lst h
  have ea : a2 = a := by rw [hv] at hv2; cases hv2; rfl
  subst ea
  have hfa := lst_hf S h hv
  refine ⟨⟨H, Hf, some a2, .non⟩, .io l :: ds.map .im, rfl, ⟨by simp [dpa_len l1], S.frz, fun b o e _ => e, Same.refl _, fun b o e => .inl e, fun c e => ?_, fun p hp => ?_, fun c => ?_, fun y j m => by simp at m⟩, ?_⟩
  · cases e; exact ⟨_, ha⟩
  · unfold rts at hp
    simp only [List.map_nil, List.append_nil, List.map_cons, List.zip_cons_cons] at hp
    rcases List.mem_cons.mp hp with rfl | hp
    · exact ⟨a2, ys, rfl, rfl, hfa, ha, hl⟩
    · exact rb_ims l1 p hp
  · unfold rts
    simp only [List.map_nil, List.append_nil, List.map_cons, List.zip_cons_cons]
    show ow c (some (V.ref a2), B.io l) + cnt c ((xs.map some).zip (ds.map B.im)) ≤ 1
    rw [cnt_ims, ow_ref_io]
    split <;> omega
  · -- what the callee leaves of the lent list
    have back : ∀ {b : List (V × W)} {l' : List D} {H' Hf' : Hp}, Stx X.K ⟨H, Hf, some a2, .non⟩ (outB (some l') (.io l :: ds.map .im)) ((V.ref a2 :: xs).map some) b H' Hf' →
        Stx X.K Z (put' g i l') σ ps H' Hf' ∧ ∀ p, H p = none → cnt p (rts σ (put' g i l') ps) = 0 := fun {b l' H' Hf'} S' => by
      obtain ⟨a', zs, e1, e2, e3, e4, e5⟩ := S'.rel (some (V.ref a2), .io l') (List.mem_append_left _ (by simp [outB]))
      cases e1
      exact io_put S h hv (fun c o hc e => S'.out c o e (by simpa using Ne.symm hc)) S'.old S'.frz S'.new e4 e3 e5
    cases e : den (.io l :: ds.map B.im) with
    | no => rw [e] at q; exact q.elim
    | ok b o =>
      rw [e] at q
      cases o with
      | none => exact q.elim
      | some l' =>
        have q' : GEnd X Wx Z σ (RP X Z σ ps Hf Q) (if okB b = true then .ok (.v b) (put' g i l') else .no) := q
        by_cases c : okB b = true
        · rw [if_pos c] at q'
          intro x H' Hf' s S'
          obtain ⟨S2, c0⟩ := back S'
          have r := S'.rel (root (x, .v b)) (S'.root_mem (by simp))
          refine q' x H' Hf' s ?_
          cases b with
          | un => cases c
          | ob => cases c
          | io l => cases c
          | im d => obtain ⟨y, e1, e2⟩ := r; cases e1; exact S2.pushIm e2
          | mu l2 =>
            obtain ⟨p, zs, e1, e2, e3, e4, e5⟩ := r
            cases e1
            have e2' : H p = none := e2
            refine S2.push ⟨p, zs, rfl, S.he e2', e3, e4, e5⟩ fun a => ?_
            by_cases ep : p = a
            · subst ep
              rw [c0 p e2']
              simp [ow]
            · have : ow a (some (V.ref p), B.mu l2) = 0 := by simp [ow, ep]
              rw [this]
              exact S2.nod a
        · rw [if_neg c] at q'; exact q'.elim
    | ex exn o =>
      rw [e] at q
      cases o with
      | none => exact q.elim
      | some l' =>
        intro cls d H' Hf' s S' ie
        have q' : XEnd X Wx Z σ exn (put' g i l') := q
        exact q' cls d H' Hf' (Stx.drop (ps := []) (by simpa using (back S').1)) ie
theorem de_callio {k : Nat} {x : Str} {f : Addr} {fd : FuncData} {prs : List Str} {p pos : Pos} {e : Expr} {es : List Expr} {ta : Gm → Res (List D)} (F : Kn X.prog X.w X.K X.mg X.base k x f fd prs den) (hr : Rg k X.A) (tk : Takes X Wx) (hg : Gl X x) (hi : PE X e (tVar i)) (ha : DAe X Wx es ta) (hdb : (x == ("__debug__" : Str)) = false := by decide)
    (he : starEach (e :: es) X.env = (false, eval e X.env) :: starEach es X.env := by rfl) (hpl : (backTo pos (starEach es X.env)).any (·.1) = false := by rfl) : DE X Wx (.Call (.Name x p) (e :: es) [] pos) (eCallIo den i ta) := ⟨PE.imp (pe_callG F.ok hr hg F.gm F.kp F.bi tk (pa_cons hi ha.pa he) hdb he hpl) fun σ H Q ⟨Z, g, ps, Hf, S, q⟩ => by
  unfold eCallIo at q
  cases e0 : lstOf g[i]? with
  | none => rw [e0] at q; exact q.elim
  | some l0 =>
    rw [e0] at q
    obtain ⟨a, xs, hv, _, _⟩ := S.lst e0
    have q' : GEnd X Wx Z σ (RP X Z σ ps Hf Q) ((ta g).bind fun ds g1 => match lstOf g1[i]? with
      | none => .no
      | some l => frIo i g1 (den (.io l :: ds.map .im))) := q
    refine ⟨_, hv, ?_⟩
    refine giveAe ha S q'.bind fun ds g1 xs H1 Hf1 q1 s1 l S1 => ?_
    cases e1 : lstOf g1[i]? with
    | none => rw [e1] at q1; exact q1.elim
    | some l1 =>
      rw [e1] at q1
      exact callio_core S1 l e1 hv (GEnd.mono (r := frIo i g1 (den (.io l1 :: ds.map .im))) q1 fun w g h => h.mono s1)⟩

/-! ### slices -/
def cutD (l : List D) (lo hi : Option Int) : List D := (l.drop (HT.sIx l.length 0 lo)).take (HT.sIx l.length l.length hi - HT.sIx l.length 0 lo)
theorem dpa_cut {xs : List V} {ds : List D} (h : DpAll K H xs ds) (lo hi : Option Int) : DpAll K H (cutV xs lo hi) (cutD ds lo hi) := by
  unfold cutV cutD
  rw [dpa_len h]
  exact dpa_take _ (dpa_drop _ h)
def pNo (g : Gm) : Res (Option Int) := .ok none g
def pSo (ta : Gm → Res W) (g : Gm) : Res (Option Int) := (ta g).bind fun w g1 => match rd g1 w with
  | some (.int i) => .ok (some i) g1
  | _ => .no
def OPo (X : Cx) (Z : Zs) (σ : L2.St) (ps : List (V × W)) (Hf : Hp) (Q : Option Int → Hp → Prop) : Option Int → Gm → Prop := fun b g' => ∀ H' Hf', Same Hf Hf' → Stx X.K Z g' σ ps H' Hf' → Q b H'
structure DO (X : Cx) (Wx : WX) (e : Option Expr) (t : Gm → Res (Option Int)) : Prop where
  po : PO X e (fun σ H Q => ∃ Z g ps Hf, Stx X.K Z g σ ps H Hf ∧ GEnd X Wx Z σ (OPo X Z σ ps Hf Q) (t g))
theorem PO.imp {X : Cx} {e : Option Expr} {t t' : TO} (h : PO X e t) (i : ∀ σ H Q, t' σ H Q → t σ H Q) : PO X e t' := ⟨fun pins s σ H Q I k => h.run pins s σ H Q I (i σ H Q k)⟩
theorem do_none : DO X Wx none pNo := ⟨PO.imp po_none fun σ H Q ⟨Z, g, ps, Hf, S, q⟩ => q H Hf (Same.refl _) S⟩
theorem rdb_int {i : Int} (h : Rdb K H Hf x (.int i)) : x = .int i := by
  rcases h with h | ⟨_, _, _, _, e, _⟩
  · cases h; rfl
  · cases e
theorem do_some {e : Expr} {ta : Gm → Res W} (he : DE X Wx e ta) : DO X Wx (some e) (pSo ta) := ⟨PO.imp (po_some he.pe) fun σ H Q ⟨Z, g, ps, Hf, S, q⟩ => by
  refine giveE he S q.bind fun w g1 x H1 Hf1 q1 s1 S1 => ?_
  cases e1 : rd g1 w with
  | none => rw [e1] at q1; exact q1.elim
  | some d =>
    rw [e1] at q1
    have r := S1.rd mem_last e1
    cases d with
    | int b => exact ⟨b, rdb_int r, q1 H1 Hf1 s1 S1.drop⟩
    | _ => exact q1.elim⟩
/-- xs[lo:hi]: of a tuple a tuple, of a list a new list -/
def cutB (lo hi : Option Int) : D → Option B
  | .list l => some (.mu (cutD l lo hi))
  | .tuple l => some (.im (.tuple (cutD l lo hi)))
  | _ => none
def eSl (ta : Gm → Res W) (tl th : Gm → Res (Option Int)) (g : Gm) : Res W := (ta g).bind fun w g1 => (tl g1).bind fun lo g2 => (th g2).bind fun hi g3 => put g3 ((rd g3 w).bind (cutB lo hi))
def rSlB (K : PySem.W.Frag) : V → Option Int → Option Int → Hp → VK → Prop := fun x lo hi H Q => rSlL K x lo hi H Q ∨ rSlA K x lo hi H Q
theorem cut_all (l : List D) {lo hi : Option Int} (h : HT.sIx l.length 0 lo = 0 ∧ HT.sIx l.length l.length hi = l.length) : cutD l lo hi = l := by
  unfold cutD
  rw [h.1, h.2]
  simp
theorem cut_grow {lo hi : Option Int} {b : B} {Q : VK} (f : Same Hf H) (r : Rdb K H Hf x d) (h : cutB lo hi d = some b) (q : ∀ z H' Hf', Grow K H Hf H' Hf' z b → Q z H') : rSlB K x lo hi H Q := by
  cases d with
  | list l =>
    simp only [cutB, Option.some.injEq] at h
    subst h
    obtain ⟨a, xs, e, hs, hl⟩ : ∃ a xs, x = .ref a ∧ SqL K H a xs ∧ DpAll K Hf xs l := by
      rcases r with r | ⟨a, xs, l', e1, e2, e3, e4⟩
      · cases r with
        | lst hs hl => exact ⟨_, _, rfl, f.seq hs, hl⟩
      · cases e2; exact ⟨a, xs, e1, .inl (.inl e3), e4⟩
    subst e
    exact .inl ⟨a, xs, rfl, hs, fun p hp => q _ _ _ (Grow.lst f hp (dpa_cut hl lo hi))⟩
  | tuple l =>
    simp only [cutB, Option.some.injEq] at h
    subst h
    rcases r with r | ⟨a, xs, l', e1, e2, e3, e4⟩
    · cases r with
      | tup hs hl =>
        refine .inr ⟨_, _, rfl, same_t f hs, fun c => ?_, fun c p hp => q _ _ _ (Grow.tup f hp (dpa_cut hl lo hi))⟩
        have el := dpa_len hl
        rw [el] at c
        rw [cut_all l c] at q
        exact q _ _ _ (Grow.same f (.tup hs hl))
    · cases e2
  | _ => simp [cutB] at h
theorem de_sl {e : Expr} {lo hi : Option Expr} {pos p2 : Pos} {ta : Gm → Res W} {tl th : Gm → Res (Option Int)} (he : DE X Wx e ta) (hl : DO X Wx lo tl) (hh : DO X Wx hi th) : DE X Wx (.Subscript e (.Slice lo hi none p2) pos) (eSl ta tl th) := ⟨PE.imp (pe_slice (sl_list.or sl_tupA) he.pe hl.po hh.po) fun σ H Q ⟨Z, g, ps, Hf, S, q⟩ => by
  refine giveE he S q.bind fun w g1 x H1 Hf1 q1 s1 S1 => ?_
  refine ⟨Z, g1, _, Hf1, S1, q1.bind.mono fun o g2 q2 H2 Hf2 s2 S2 => ?_⟩
  refine ⟨Z, g2, _, Hf2, S2, q2.bind.mono fun u g3 q3 H3 Hf3 s3 S3 => ?_⟩
  obtain ⟨b, e1, q4⟩ := put_end q3
  cases e2 : rd g3 w with
  | none => rw [e2] at e1; simp at e1
  | some d =>
    rw [e2] at e1
    exact cut_grow S3.frz (S3.rd mem_last e2) e1 fun z H4 Hf4 G => q4 z H4 Hf4 (((s1.trans s2).trans s3).trans G.hf) (S3.drop.grow G)⟩

/-! ### assignments -/
/-- xs[e] = .., xs in the slot i -/
def tgI (i : Nat) (ti : Gm → Res W) (d : D) (g : Gm) : Res Unit := match lstOf g[i]? with
  | none => .no
  | some _ => (ti g).bind fun w g1 => match rd g1 w, lstOf g1[i]? with
    | some (.int k), some l => (match ixN l.length k with
      | some j => .ok () (put' g1 i (l.set j d))
      | none => .no)
    | _, _ => .no
theorem dgt_ix {o e : Expr} {ti : Gm → Res W} {pos : Pos} (hi : PE X o (tVar i)) (he : DE X Wx e ti) (h : ∀ {TI : TE}, PE X e TI → PG X (.Subscript o e pos) (gSub (tVar i) TI rSetL)) : DGt X Wx (.Subscript o e pos) (tgI i ti) := ⟨PG.imp (h he.pe) fun v σ H Q ⟨Z, g, Hf, d, S, hd, q⟩ => by
  unfold tgI at q
  cases e0 : lstOf g[i]? with
  | none => rw [e0] at q; exact q.elim
  | some l0 =>
    rw [e0] at q
    obtain ⟨a, xs, hv, _, _⟩ := S.lst e0
    refine ⟨_, hv, ?_⟩
    have q' : GEnd X Wx Z σ (fun _ g' => ∀ σ' H' Hf', Same Hf Hf' → Stx X.K Z g' σ' [] H' Hf' → Q σ' H') ((ti g).bind fun w g1 => match rd g1 w, lstOf g1[i]? with
      | some (.int k), some l => (match ixN l.length k with
        | some j => .ok () (put' g1 i (l.set j d))
        | none => .no)
      | _, _ => .no) := q
    refine giveE he S q'.bind fun w g1 y H1 Hf1 q1 s1 S1 => ?_
    cases e1 : rd g1 w with
    | none => rw [e1] at q1; exact q1.elim
    | some dk =>
      rw [e1] at q1
      have r := S1.rd mem_last e1
      cases dk with
      | int k =>
        cases e2 : lstOf g1[i]? with
        | none => rw [e2] at q1; exact q1.elim
        | some l =>
          rw [e2] at q1
          have q2 : GEnd X Wx Z σ (fun _ g' => ∀ σ' H' Hf', Same Hf Hf' → Stx X.K Z g' σ' [] H' Hf' → Q σ' H') (match ixN l.length k with
            | some j => .ok () (put' g1 i (l.set j d))
            | none => .no) := q1
          obtain ⟨a2, xs2, hv2, ha2, hl2⟩ := S1.lst e2
          have ea : a2 = a := by rw [hv] at hv2; cases hv2; rfl
          subst ea
          cases e3 : ixN l.length k with
          | none => rw [e3] at q2; exact q2.elim
          | some j =>
            rw [e3] at q2
            refine ⟨a2, xs2, k, j, rfl, rdb_int r, ha2, by rw [dpa_len hl2]; exact e3, ?_⟩
            exact q2 σ _ Hf1 s1 (Stx.put (ps := []) S1.drop e2 hv (dpa_set j hl2 (dp_mono s1 d v hd)))
      | _ => exact q1.elim⟩
def tgAll : List (D → Gm → Res Unit) → List D → Gm → Res Unit
  | [], _, g => .ok () g
  | t :: ts, d :: ds, g => (t d g).noex.bind fun _ g1 => tgAll ts ds g1
  | _ :: _, [], _ => .no
def tgT (ts : List (D → Gm → Res Unit)) (d : D) (g : Gm) : Res Unit := match d with
  | .tuple ds => if ds.length = ts.length then tgAll ts ds g else .no
  | _ => .no
structure DGts (X : Cx) (Wx : WX) (tgs : List Expr) (ts : List (D → Gm → Res Unit)) : Prop where
  pg : PGs X tgs (fun vs σ H Q => ∃ Z g Hf ds, Stx X.K Z g σ [] H Hf ∧ DpAll X.K Hf vs ds ∧ ds.length = ts.length ∧ GEnd X Wx Z σ (fun _ g' => ∀ σ' H' Hf', Same Hf Hf' → Stx X.K Z g' σ' [] H' Hf' → Q σ' H') (tgAll ts ds g))
theorem dgts_nil : DGts X Wx [] [] := ⟨PGs.imp pgs_nil fun v σ H Q ⟨Z, g, Hf, ds, S, hd, hl, q⟩ => by
  cases ds with
  | nil => cases hd; exact ⟨rfl, q σ H Hf (Same.refl _) S⟩
  | cons d ds => simp at hl⟩
theorem tgAll_ok {p : Unit → Gm → Prop} : ∀ (ts : List (D → Gm → Res Unit)) (ds : List D) (g : Gm), GEnd X Wx Z σ p (tgAll ts ds g) → ∃ g', tgAll ts ds g = .ok () g' ∧ p () g'
  | [], _, g, h => ⟨g, rfl, h⟩
  | t :: ts, d :: ds, g, h => by
    obtain ⟨a, g1, e1, h1⟩ := noex_end h.bind
    obtain ⟨g', e2, h2⟩ := tgAll_ok ts ds g1 h1
    refine ⟨g', ?_, h2⟩
    show ((t d g).noex).bind (fun _ g1 => tgAll ts ds g1) = _
    rw [e1]
    exact e2
  | _ :: _, [], g, h => h.elim
theorem dgts_cons {e : Expr} {es : List Expr} {t : D → Gm → Res Unit} {ts : List (D → Gm → Res Unit)} (h1 : DGt X Wx e t) (h2 : DGts X Wx es ts) (h : ∀ {T : TG} {U : TGs}, PG X e T → PGs X es U → PGs X (e :: es) (gCons T U)) : DGts X Wx (e :: es) (t :: ts) := ⟨PGs.imp (h h1.pg h2.pg) fun v σ H Q ⟨Z, g, Hf, ds, S, hd, hl, q⟩ => by
  cases ds with
  | nil => simp at hl
  | cons d ds =>
    cases hd with
    | cons hd1 hd2 =>
      obtain ⟨a, g1, e1, q1⟩ := noex_end q.bind
      refine ⟨_, _, rfl, Z, g, Hf, d, S, hd1, ?_⟩
      rw [e1]
      intro σ1 H1 Hf1 s1 S1
      obtain ⟨g2, e2, q2⟩ := tgAll_ok ts ds g1 q1
      refine ⟨Z, g1, Hf1, ds, S1, dpa_mono s1 _ _ hd2, by simpa using hl, ?_⟩
      rw [e2]
      exact fun σ2 H2 Hf2 s2 S2 => q2 σ2 H2 Hf2 (s1.trans s2) S2⟩
theorem dgt_tup {es : List Expr} {k : Nat} {pos : Pos} {ts : List (D → Gm → Res Unit)} {n : Nat} (hc : X.calm = true) (h : DGts X Wx es ts) (hn : ts.length = n)
    (ht : ∀ {U : TGs}, PGs X es U → PG X (.Tuple es k pos) (gTup X.K n U)) : DGt X Wx (.Tuple es k pos) (tgT ts) := ⟨PG.imp (ht h.pg) fun v σ H Q ⟨Z, g, Hf, d, S, hd, q⟩ => by
  cases d with
  | tuple ds =>
    have q' : GEnd X Wx Z σ (fun _ g' => ∀ σ' H' Hf', Same Hf Hf' → Stx X.K Z g' σ' [] H' Hf' → Q σ' H') (if ds.length = ts.length then tgAll ts ds g else .no) := q
    by_cases c : ds.length = ts.length
    · rw [if_pos c] at q'
      cases hd with
      | tup hs hl => exact ⟨_, _, rfl, same_t S.frz hs, by rw [dpa_len hl, c, hn], Z, g, Hf, ds, S, hl, c, q'⟩
    · rw [if_neg c] at q'; exact q'.elim
  | _ => exact q.elim⟩
/-- a target (no bare name) = value -/
def sAsg (t : D → Gm → Res Unit) (ta : Gm → Res W) (g : Gm) : SR := (ta g).bindS fun w g1 => match esc g1 w with
  | some (d, g2) => (t d g2).bindS fun _ g3 => .nx g3
  | none => .no
theorem ds_asg {tg e : Expr} {t : D → Gm → Res Unit} {ta : Gm → Res W} {pos : Pos} (he : DE X Wx e ta) (hg : DGt X Wx tg t) (hs : swapsWithSole [tg] e pos.line X.env = pure false := by rfl) (hw : swappedStores [tg] e X.env = pure none := by rfl)
    (h1 : (assignEach [tg] X.env).map (·.2) = [assign tg X.env] := by rfl) : DS X Wx (.Assign [tg] e pos) (sAsg t ta) := ⟨PS.imp (ps_asg he.pe hg.pg hs hw h1) fun D σ H ⟨Z, g, Hf, S, q⟩ => by
  refine giveES he S q fun w g1 y H1 Hf1 q1 S1 => ?_
  cases e1 : esc g1 w with
  | none => rw [e1] at q1; exact q1.elim
  | some r =>
    obtain ⟨d, g2⟩ := r
    rw [e1] at q1
    obtain ⟨Hf2, s2, hd, S2⟩ := S1.esc e1
    have q2 : SEnd X Wx Z Hf1 D ((t d g2).bindS fun _ g3 => .nx g3) := q1
    refine ⟨Z, g2, Hf2, d, Stx.drop (ps := []) S2, hd, (SEnd.bindS (σ := σ) (q2.mono s2)).mono fun _ g3 q3 σ' H' Hf' s S' => q3 σ' H' Hf' s S'⟩⟩
/-- names = values, side by side -/
def sPar (is : List Nat) (ta : Gm → Res (List W)) (g : Gm) : SR := (ta g).bindS fun ws g1 => match settle g1 ws with
  | some (bs, g2) => if (noIoAll g2 is && noIoB bs && decide (is.length = bs.length)) = true then .nx (setAll g2 is bs) else .no
  | none => .no
theorem par_end {D : Ends} {is : List Nat} {ws : List W} {xs : List V} (S : Stx X.K Z g σ ([] ++ xs.zip ws) H Hf) (l : xs.length = ws.length) (q : SEnd X Wx Z Hf D (match settle g ws with
  | some (bs, g2) => if (noIoAll g2 is && noIoB bs && decide (is.length = bs.length)) = true then .nx (setAll g2 is bs) else .no
  | none => .no)) : is.length = xs.length ∧ ∀ H2, (∀ c o, H c = some o → H2 c = some o) → D.nx (setAllσ σ is xs) H2 := by
  cases e : DL.settle g ws with
  | none => rw [e] at q; exact q.elim
  | some r =>
    obtain ⟨bs, g2⟩ := r
    rw [e] at q
    obtain ⟨Hf', s, l2, S2⟩ := Stx.settle (qs := []) (fun _ _ m => by simp at m) l S e
    have q' : SEnd X Wx Z Hf D (if (noIoAll g2 is && noIoB bs && decide (is.length = bs.length)) = true then .nx (setAll g2 is bs) else .no) := q
    by_cases c : (noIoAll g2 is && noIoB bs && decide (is.length = bs.length)) = true
    · rw [if_pos c] at q'
      simp only [Bool.and_eq_true, decide_eq_true_eq] at c
      have S3 := Stx.storeAll (ps := []) (is := is) (xs := xs) (bs := bs) (by omega) (by omega) (fun _ _ m => by simp at m) S2 c.1.1 c.1.2
      refine ⟨by omega, fun H2 hh => ?_⟩
      refine q' _ H2 Hf' s (S3.step hh (Same.refl _) (fun b u e => hh b u (S3.frz b u e)) fun b o e => .inl e)
    · rw [if_neg c] at q'; exact q'.elim
theorem ds_par2 {i j : Nat} {x y : Str} {a b : Expr} {ta : Gm → Res (List W)} {px py pt pos : Pos} {kt k2 pt2} (hc : X.calm = true) (hN : X.N.Nodup) (hi : X.N[i]? = some x) (hj : X.N[j]? = some y) (hij : i ≠ j)
    (hx : X.env.scope.names.lookup x = some .local) (hy : X.env.scope.names.lookup y = some .local) (ha : DA X Wx [a, b] ta)
    (hw : swappedStores [.Tuple [.Name x px, .Name y py] kt pt] (.Tuple [a, b] k2 pt2) X.env = pure (some [x, y]))
    (hs : swapsWithSole [.Tuple [.Name x px, .Name y py] kt pt] (.Tuple [a, b] k2 pt2) pos.line X.env = pure false := by rfl) :
    DS X Wx (.Assign [.Tuple [.Name x px, .Name y py] kt pt] (.Tuple [a, b] k2 pt2) pos) (sPar [i, j] ta) := ⟨PS.imp (ps_par hc hN hi hj hij hx hy ha.pa hw hs) fun D σ H ⟨Z, g, Hf, S, q⟩ => by
  refine giveA ha S q.bindS fun ws g1 xs H1 Hf1 q1 s1 l S1 => ?_
  obtain ⟨l2, k⟩ := par_end S1 l (SEnd.mono q1 s1)
  match xs, l2 with
  | [v, w], _ =>
    refine ⟨v, w, rfl, ?_⟩
    have := k H1 fun c o e => e
    rw [List.set_comm _ _ hij]
    exact this⟩
theorem ds_par3 {i j l : Nat} {x y z : Str} {a b c : Expr} {ta : Gm → Res (List W)} {px py pz pt pos : Pos} {kt k2 pt2} (hij : i ≠ j) (hil : i ≠ l) (hjl : j ≠ l) (ha : DA X Wx [a, b, c] ta)
    (h : ∀ {T : TA}, PA X [a, b, c] T → PS X (.Assign [.Tuple [.Name x px, .Name y py, .Name z pz] kt pt] (.Tuple [a, b, c] k2 pt2) pos) (tPar3 i j l T)) :
    DS X Wx (.Assign [.Tuple [.Name x px, .Name y py, .Name z pz] kt pt] (.Tuple [a, b, c] k2 pt2) pos) (sPar [i, j, l] ta) := ⟨PS.imp (h ha.pa) fun D σ H ⟨Z, g, Hf, S, q⟩ => by
  refine giveA ha S q.bindS fun ws g1 xs H1 Hf1 q1 s1 ll S1 => ?_
  obtain ⟨l2, k⟩ := par_end S1 ll (SEnd.mono q1 s1)
  match xs, l2 with
  | [u, v, w], _ =>
    refine ⟨u, v, w, rfl, ?_⟩
    have := k H1 fun c o e => e
    have e : setAllσ σ [i, j, l] [u, v, w] = ((σ.set i (some u)).set j (some v)).set l (some w) := by
      show ((σ.set l (some w)).set j (some v)).set i (some u) = _
      rw [List.set_comm (some v) (some u) hij.symm, List.set_comm (some w) (some u) hil.symm, List.set_comm (some w) (some v) hjl.symm]
    rw [e] at this
    exact this⟩
/-- .. through a tuple (more names, constants, names that blocks capture): n names of slots is -/
theorem setσ_comm (σ : L2.St) {i : Nat} {x : V} : ∀ {is : List Nat} {xs : List V}, i ∉ is → (setAllσ σ is xs).set i (some x) = setAllσ (σ.set i (some x)) is xs
  | [], xs, _ => by cases xs <;> rfl
  | j :: is, [], _ => rfl
  | j :: is, y :: xs, h => by
    simp only [List.mem_cons, not_or] at h
    show ((setAllσ σ is xs).set j (some y)).set i (some x) = (setAllσ (σ.set i (some x)) is xs).set j (some y)
    rw [List.set_comm _ _ (Ne.symm h.1), setσ_comm σ h.2]
def gNames (K : PySem.W.Frag) (is : List Nat) : TGs := fun vs σ H Q => vs.length = is.length ∧ Q (setAllσ σ is vs) H
theorem pgs_names_nil : PGs X [] (gNames X.K []) := PGs.imp pgs_nil fun vs σ H Q ⟨hl, q⟩ => by
  cases vs with
  | nil => exact ⟨rfl, q⟩
  | cons v vs => simp at hl
theorem pgs_names_cons {e : Expr} {es : List Expr} {i : Nat} {is : List Nat} (h1 : PG X e (gName i)) (h2 : PGs X es (gNames X.K is)) (nd : i ∉ is) (h : ∀ {T : TG} {U : TGs}, PG X e T → PGs X es U → PGs X (e :: es) (gCons T U)) : PGs X (e :: es) (gNames X.K (i :: is)) := PGs.imp (h h1 h2) fun vs σ H Q ⟨hl, q⟩ => by
  cases vs with
  | nil => simp at hl
  | cons v vs =>
    refine ⟨v, vs, rfl, by simpa using hl, ?_⟩
    rw [← setσ_comm σ nd]
    exact q
theorem ds_parT {es vs : List Expr} {is : List Nat} {ta : Gm → Res (List W)} {pos pt pt2 : Pos} {kt k2} {n : Nat} (ha : DA X Wx vs ta) (hn : PGs X es (gNames X.K is)) (ht : ∀ {U : TGs}, PGs X es U → PG X (.Tuple es kt pt) (gTup X.K n U)) (hl : is.length = n) (hsm : n ≤ 1000)
    (hs : swapsWithSole [.Tuple es kt pt] (.Tuple vs k2 pt2) pos.line X.env = pure false := by rfl) (hw : swappedStores [.Tuple es kt pt] (.Tuple vs k2 pt2) X.env = pure none := by rfl)
    (h1 : (assignEach [.Tuple es kt pt] X.env).map (·.2) = [assign (.Tuple es kt pt) X.env] := by rfl) : DS X Wx (.Assign [.Tuple es kt pt] (.Tuple vs k2 pt2) pos) (sPar is ta) := ⟨PS.imp (ps_asg (pe_tup ha.pa) (ht hn) hs hw h1) fun D σ H ⟨Z, g, Hf, S, q⟩ => by
  refine giveA ha S q.bindS fun ws g1 xs H1 Hf1 q1 s1 ll S1 => ?_
  obtain ⟨l2, k⟩ := par_end S1 ll (SEnd.mono q1 s1)
  refine ⟨Nat.le_trans (by omega : xs.length ≤ 1000) (by decide), fun p hp => ⟨p, xs, rfl, .inl (.inl upd_same), by omega, l2.symm, ?_⟩⟩
  exact k _ (same_new hp)⟩
/-- name op= value: as the plain one -/
def sAug (i : Nat) (f : D → D → Option B) (ta : Gm → Res W) (g : Gm) : SR := match g[i]? with
  | some (.im d) => (ta g).bindS fun w g1 => match (rd g1 w).bind (f d) with
    | some (.im d2) => if noIo g1[i]? = true then .nx (g1.set i (.im d2)) else .no
    | _ => .no
  | _ => .no
end
end DL
/-! ## DLj.lean -/
set_option Elab.async false
set_option linter.all false
set_option maxRecDepth 100000
set_option maxHeartbeats 4000000
namespace DL
open PySem PySem.Spec PyProof.Rows L2

section
variable {X : Cx} {Wx : WX} {K : PySem.W.Frag} {H Hf : Hp} {x y : V} {d : D} {l : List D}
theorem rdb_dp (f : Same Hf H) (r : Rdb K H Hf x d) : Dp K H x d := by
  rcases r with r | ⟨a, xs, l, e1, e2, e3, e4⟩
  · exact dp_mono f d x r
  · subst e1; subst e2
    exact .lst (.inl (.inl e3)) (dpa_mono f l xs e4)
theorem rdb_str {z : Str} (h : Rdb K H Hf x (.str z)) : x = .str z := by
  rcases h with h | ⟨_, _, _, _, e, _⟩
  · cases h; rfl
  · cases e
theorem rdb_non (h : Rdb K H Hf x .none) : x = .non := by
  rcases h with h | ⟨_, _, _, _, e, _⟩
  · cases h; rfl
  · cases e
theorem rdb_list (f : Same Hf H) (r : Rdb K H Hf x (.list l)) : ∃ a xs, x = .ref a ∧ SqL K H a xs ∧ DpAll K Hf xs l := by
  rcases r with r | ⟨a, xs, l', e1, e2, e3, e4⟩
  · cases r with
    | lst hs hl => exact ⟨_, _, rfl, f.seq hs, hl⟩
  · cases e2; exact ⟨a, xs, e1, .inl (.inl e3), e4⟩
theorem rdb_tup (f : Same Hf H) (r : Rdb K H Hf x (.tuple l)) : ∃ a xs, x = .ref a ∧ SqT K Hf a xs ∧ DpAll K Hf xs l := by
  rcases r with r | ⟨a, xs, l', e1, e2, e3, e4⟩
  · cases r with
    | tup hs hl => exact ⟨_, _, rfl, hs, hl⟩
  · cases e2
theorem grow_int (f : Same Hf H) (i : Int) : Grow K H Hf H Hf (.int i) (.im (.int i)) := Grow.same f (.int i)
theorem grow_bl (f : Same Hf H) (b : Bool) : Grow K H Hf H Hf (.bl b) (.im (.bool b)) := Grow.same f (.bl b)

/-! ### operators of ints -/
def fI (C : Int → Int → Bool) (g : Int → Int → Int) : D → D → Option B
  | .int i, .int j => if C i j = true then some (.im (.int (g i j))) else none
  | _, _ => none
def fB (g : Int → Int → Bool) : D → D → Option B
  | .int i, .int j => some (.im (.bool (g i j)))
  | _, _ => none
theorem op2_I {C : Int → Int → Prop} {Cb : Int → Int → Bool} {g : Int → Int → Int} (hc : ∀ i j, Cb i j = true → C i j) : Op2 K (rI C fun i j => .int (g i j)) (fI Cb g) := fun H Hf x y d e b Q f rx ry h q => by
  cases d with
  | int i =>
    cases e with
    | int j =>
      simp only [fI] at h
      by_cases c : Cb i j = true
      · rw [if_pos c] at h
        cases h
        exact ⟨i, j, rdb_int rx, rdb_int ry, hc i j c, q _ _ _ (grow_int f _)⟩
      · rw [if_neg c] at h; cases h
    | _ => simp [fI] at h
  | _ => simp [fI] at h
theorem op2_I0 {g : Int → Int → Int} : Op2 K (rI0 fun i j => .int (g i j)) (fI (fun _ _ => true) g) := fun H Hf x y d e b Q f rx ry h q => by
  cases d with
  | int i =>
    cases e with
    | int j =>
      simp [fI] at h
      subst h
      exact ⟨i, j, rdb_int rx, rdb_int ry, q _ _ _ (grow_int f _)⟩
    | _ => simp [fI] at h
  | _ => simp [fI] at h
theorem op2_B0 {g : Int → Int → Bool} : Op2 K (rI0 fun i j => .bl (g i j)) (fB g) := fun H Hf x y d e b Q f rx ry h q => by
  cases d with
  | int i =>
    cases e with
    | int j =>
      simp [fB] at h
      subst h
      exact ⟨i, j, rdb_int rx, rdb_int ry, q _ _ _ (grow_bl f _)⟩
    | _ => simp [fB] at h
  | _ => simp [fB] at h
/-- + of ints, lists, tuples -/
def fAdd : D → D → Option B
  | .int i, .int j => some (.im (.int (i + j)))
  | .list l, .list m => if small (l.length + m.length) = true then some (.mu (l ++ m)) else none
  | .tuple l, .tuple m => if small (l.length + m.length) = true then some (.im (.tuple (l ++ m))) else none
  | _, _ => none
/-- + of any two lists that may be read -/
def rCatS (K : PySem.W.Frag) : R2 := fun x y H Q => ∃ l b xs zs, x = .ref l ∧ y = .ref b ∧ SqL K H l xs ∧ SqL K H b zs ∧ xs.length + zs.length ≤ sizeLine ∧ ∀ p, H p = none → Q (.ref p) (upd H p (.lst (xs ++ zs)))
theorem op_catS : OpR X (binaryOp .Add) (rCatS X.K) := by
  intro pins s σ H x y v u Q I rx ry h
  obtain ⟨l, b, xs, zs, rfl, rfl, h1, h2, hz, q⟩ := h
  cases rx
  cases ry
  obtain ⟨its, r1, ⟨⟨c1, d1, t1, s1⟩, n1, o1, e1, f1, g1⟩, _⟩ := I.list h1
  obtain ⟨its2, r2, ⟨⟨c2, d2, t2, s2⟩, n2, o2, e2, f2, g2⟩, _⟩ := I.list h2
  dsimp only at e1 f1 g1 e2 f2 g2
  subst e1 f1 g1 e2 f2 g2
  have l1 := r1.length
  have l2 := r2.length
  refine concat_meets ⟨_, o1, rfl⟩ ⟨_, o2, rfl⟩ noFill_list_add seq_list_add PySem.F.slot_list_add PySem.F.entry_list_add (PySem.F.args_list_add_2 _ _) (list_addW l b its.toArray its2.toArray n1 n2 none none s1 s2 (by simp; omega)) ⟨o1, o2, ?_⟩
  have ea : its.toArray ++ its2.toArray = (its ++ its2).toArray := by simp
  rw [ea]
  refine ⟨.ref s.heap.objs.size, _, I.laid (t' := s.toks) (o := .lst (xs ++ zs)) (fun c o e => Heap.get?_push_of_some _ e) (Nat.le_refl _) ?_, rfl, q _ (I.hok.fresh (Nat.le_refl _))⟩
  exact ⟨by rw [List.length_append]; omega, _, 0, r1.append r2, Heap.get?_push_size _ rfl⟩
def rAddA (K : PySem.W.Frag) : R2 := fun x y H Q => rI0 (fun i j => .int (i + j)) x y H Q ∨ rCatS K x y H Q ∨ rCatA K x y H Q
theorem op_addA : OpR X (binaryOp .Add) (rAddA X.K) := op_add.or (op_catS.or op_catA)
theorem op2_add : Op2 K (rAddA K) fAdd := fun H Hf x y d e b Q f rx ry h q => by
  cases d with
  | int i =>
    cases e with
    | int j =>
      simp [fAdd] at h
      subst h
      exact .inl ⟨i, j, rdb_int rx, rdb_int ry, q _ _ _ (grow_int f _)⟩
    | _ => simp [fAdd] at h
  | list l =>
    cases e with
    | list m =>
      simp only [fAdd] at h
      by_cases c : small (l.length + m.length) = true
      · rw [if_pos c] at h
        cases h
        obtain ⟨a, xs, rfl, hs, hl⟩ := rdb_list f rx
        obtain ⟨a2, ys, rfl, hs2, hl2⟩ := rdb_list f ry
        exact .inr (.inl ⟨a, a2, xs, ys, rfl, rfl, hs, hs2, by rw [dpa_len hl, dpa_len hl2]; exact small_le c, fun p hp => q _ _ _ (Grow.lst f hp (dpa_append hl hl2))⟩)
      · rw [if_neg c] at h; cases h
    | _ => simp [fAdd] at h
  | tuple l =>
    cases e with
    | tuple m =>
      simp only [fAdd] at h
      by_cases c : small (l.length + m.length) = true
      · rw [if_pos c] at h
        cases h
        obtain ⟨a, xs, rfl, hs, hl⟩ := rdb_tup f rx
        obtain ⟨a2, ys, rfl, hs2, hl2⟩ := rdb_tup f ry
        refine .inr (.inr ⟨a, a2, xs, ys, rfl, rfl, same_t f hs, same_t f hs2, by rw [dpa_len hl, dpa_len hl2]; exact small_le c, fun e => ?_, fun _ e => ?_, fun _ _ p hp => q _ _ _ (Grow.tup f hp (dpa_append hl hl2))⟩)
        · subst e
          cases l with
          | nil => exact q _ _ _ (Grow.same f (.tup hs2 hl2))
          | cons d l => cases hl
        · subst e
          cases m with
          | nil => rw [List.append_nil] at q; exact q _ _ _ (Grow.same f (.tup hs hl))
          | cons d l => cases hl2
      · rw [if_neg c] at h; cases h
    | _ => simp [fAdd] at h
  | _ => simp [fAdd] at h
/-- - of ints and of bools -/
def b2 (b : Bool) : Int := if b = true then 1 else 0
def fSub : D → D → Option B
  | .int i, .int j => some (.im (.int (i - j)))
  | .bool p, .bool q => some (.im (.int (b2 p - b2 q)))
  | _, _ => none
def rSubB : R2 := fun x y H Q => ∃ p q, x = .bl p ∧ y = .bl q ∧ Q (.int (b2 p - b2 q)) H
theorem op_subB : OpR X (binaryOp .Sub) rSubB := by
  intro pins s σ H x y v u Q I rx ry h
  obtain ⟨p, q, rfl, rfl, k⟩ := h
  cases (show v = Value.bool p from rx)
  cases (show u = Value.bool q from ry)
  have e : ∀ b, b2i b = b2 b := fun b => by cases b <;> rfl
  refine sub_bool ⟨.int (b2 p - b2 q), H, I.tok _, ⟨s.toks, by rw [e, e]⟩, k⟩
def rSubA : R2 := fun x y H Q => rI0 (fun i j => .int (i - j)) x y H Q ∨ rSubB x y H Q
theorem op_subA : OpR X (binaryOp .Sub) rSubA := op_sub.or op_subB
theorem op2_sub : Op2 K rSubA fSub := fun H Hf x y d e b Q f rx ry h q => by
  cases d with
  | int i =>
    cases e with
    | int j =>
      simp [fSub] at h
      subst h
      exact .inl ⟨i, j, rdb_int rx, rdb_int ry, q _ _ _ (grow_int f _)⟩
    | _ => simp [fSub] at h
  | bool p =>
    cases e with
    | bool r =>
      simp [fSub] at h
      subst h
      exact .inr ⟨p, r, rdb_bool rx, rdb_bool ry, q _ _ _ (grow_int f _)⟩
    | _ => simp [fSub] at h
  | _ => simp [fSub] at h
def mulB (i j : Int) : Bool := decide (i.natAbs.log2 + j.natAbs.log2 < 1000000)
def divB (_ j : Int) : Bool := decide (j ≠ 0) && decide (j.natAbs.log2 < 9000)
def modB (_ j : Int) : Bool := decide (j ≠ 0)
def powB (i j : Int) : Bool := decide (0 ≤ j) && decide (j ≤ 1000000) && decide (i.natAbs < 2 ^ 64)
def fMul := fI mulB fun i j => i * j
def fDiv := fI divB fun i j => i.fdiv j
def fMod := fI modB fun i j => i.fmod j
def fPow := fI powB fun i j => i ^ j.toNat
theorem op2_mul : Op2 K (rI CMulW fun i j => .int (i * j)) fMul := op2_I fun i j h => by
  have h2 := of_decide_eq_true h
  exact h2
theorem op_divG : OpR X (binaryOp .FloorDiv) (rI (fun _ j => j ≠ 0 ∧ j.natAbs.log2 < 9000) fun i j => .int (i.fdiv j)) := opI fun _ _ _ _ _ _ _ hc q => floordiv_int hc.1 q (.inl (PyProof.noPylong_of_log2 hc.2))
theorem op2_div : Op2 K (rI (fun _ j => j ≠ 0 ∧ j.natAbs.log2 < 9000) fun i j => .int (i.fdiv j)) fDiv := op2_I fun i j h => by
  simp only [divB, Bool.and_eq_true, decide_eq_true_eq] at h
  exact h
theorem op2_mod : Op2 K (rI (fun _ j => j ≠ 0) fun i j => .int (i.fmod j)) fMod := op2_I fun i j h => of_decide_eq_true h
theorem op2_pow : Op2 K (rI CPow fun i j => .int (i ^ j.toNat)) fPow := op2_I fun i j h => by
  simp only [powB, Bool.and_eq_true, decide_eq_true_eq] at h
  exact ⟨h.1.1, h.1.2, h.2⟩
def fLt := fB fun i j => decide (i < j)
def fLe := fB fun i j => decide (i ≤ j)
def fGt := fB fun i j => decide (j < i)
def fGe := fB fun i j => decide (j ≤ i)
theorem op2_lt : Op2 K (rI0 fun i j => .bl (decide (i < j))) fLt := op2_B0
theorem op2_le : Op2 K (rI0 fun i j => .bl (decide (i ≤ j))) fLe := op2_B0
theorem op2_gt : Op2 K (rI0 fun i j => .bl (decide (j < i))) fGt := op2_B0
theorem op2_ge : Op2 K (rI0 fun i j => .bl (decide (j ≤ i))) fGe := op2_B0
def fNeg : D → Option B
  | .int i => some (.im (.int (-i)))
  | _ => none
theorem op1_neg : Op1 K (rU fun i => .int (-i)) fNeg := fun H Hf x d b Q f rx h q => by
  cases d with
  | int i => simp [fNeg] at h; subst h; exact ⟨i, rdb_int rx, q _ _ _ (grow_int f _)⟩
  | _ => simp [fNeg] at h

/-! ### ==, !=, is, in -/
def shp (d : D) : Bool := SeqAt.shaped d
def fEq (d e : D) : Option B := if (shp d && shp e) = true then some (.im (.bool (PyData.eqv d e))) else none
def fNe (d e : D) : Option B := if (shp d && shp e) = true then some (.im (.bool (!PyData.eqv d e))) else none
theorem op2_eq : Op2 K (rEqD K) fEq := fun H Hf x y d e b Q f rx ry h q => by
  unfold fEq at h
  by_cases c : (shp d && shp e) = true
  · rw [if_pos c] at h
    cases h
    simp only [Bool.and_eq_true] at c
    exact ⟨d, e, rdb_dp f rx, rdb_dp f ry, c.1, c.2, q _ _ _ (grow_bl f _)⟩
  · rw [if_neg c] at h; cases h
theorem op2_ne : Op2 K (rNeD K) fNe := fun H Hf x y d e b Q f rx ry h q => by
  unfold fNe at h
  by_cases c : (shp d && shp e) = true
  · rw [if_pos c] at h
    cases h
    simp only [Bool.and_eq_true] at c
    exact ⟨d, e, rdb_dp f rx, rdb_dp f ry, c.1, c.2, q _ _ _ (grow_bl f _)⟩
  · rw [if_neg c] at h; cases h
def fIs : D → D → Option B
  | .bool a, .bool b => some (.im (.bool (decide (a = b))))
  | _, _ => none
def fIsNot : D → D → Option B
  | .bool a, .bool b => some (.im (.bool (!decide (a = b))))
  | _, _ => none
theorem op2_is : Op2 K (fun x y H Q => ∃ a b, x = .bl a ∧ y = .bl b ∧ Q (.bl (decide (a = b))) H) fIs := fun H Hf x y d e b Q f rx ry h q => by
  cases d with
  | bool p =>
    cases e with
    | bool r => simp only [fIs, Option.some.injEq] at h; subst h; exact ⟨p, r, rdb_bool rx, rdb_bool ry, q _ _ _ (grow_bl f _)⟩
    | _ => simp [fIs] at h
  | _ => simp [fIs] at h
theorem op2_isnot : Op2 K (fun x y H Q => ∃ a b, x = .bl a ∧ y = .bl b ∧ Q (.bl (!decide (a = b))) H) fIsNot := fun H Hf x y d e b Q f rx ry h q => by
  cases d with
  | bool p =>
    cases e with
    | bool r => simp only [fIsNot, Option.some.injEq] at h; subst h; exact ⟨p, r, rdb_bool rx, rdb_bool ry, q _ _ _ (grow_bl f _)⟩
    | _ => simp [fIsNot] at h
  | _ => simp [fIsNot] at h

/-! ### items -/
def fIx : D → D → Option B
  | .list l, .int i => (atI l i).map B.im
  | .tuple l, .int i => (atI l i).map B.im
  | _, _ => none
theorem dpa_at {xs : List V} {ds : List D} {i : Int} {d : D} (h : DpAll K Hf xs ds) (e : atI ds i = some d) : ∃ v, atI xs i = some v ∧ Dp K Hf v d := by
  unfold atI at e ⊢
  rw [dpa_len h]
  cases q : ixN ds.length i with
  | none => rw [q] at e; cases e
  | some j =>
    rw [q] at e
    exact dpa_get h e
def rIxA (K : PySem.W.Frag) : R2 := fun x y H Q => rIxL K x y H Q ∨ rIxT K x y H Q
theorem ix_any : IxR X (rIxA X.K) := ix_list.or ix_tup
theorem op2_ix : Op2 K (rIxA K) fIx := fun H Hf x y d e b Q f rx ry h q => by
  cases d with
  | list l =>
    cases e with
    | int i =>
      simp only [fIx, Option.map_eq_some_iff] at h
      obtain ⟨d', h1, rfl⟩ := h
      obtain ⟨a, xs, rfl, hs, hl⟩ := rdb_list f rx
      obtain ⟨v, hv, hd⟩ := dpa_at hl h1
      exact .inl ⟨a, xs, i, v, rfl, rdb_int ry, hs, hv, q _ _ _ (Grow.same f hd)⟩
    | _ => simp [fIx] at h
  | tuple l =>
    cases e with
    | int i =>
      simp only [fIx, Option.map_eq_some_iff] at h
      obtain ⟨d', h1, rfl⟩ := h
      obtain ⟨a, xs, rfl, hs, hl⟩ := rdb_tup f rx
      obtain ⟨v, hv, hd⟩ := dpa_at hl h1
      exact .inr ⟨a, xs, i, v, rfl, rdb_int ry, same_t f hs, hv, q _ _ _ (Grow.same f hd)⟩
    | _ => simp [fIx] at h
  | _ => simp [fIx] at h

/-! ### built-ins -/
theorem rda1 {xs : List V} (r : RdA K H Hf xs [d]) : ∃ x, xs = [x] ∧ Rdb K H Hf x d := by
  cases r with
  | cons h1 h2 => cases h2; exact ⟨_, rfl, h1⟩
theorem rda2 {xs : List V} {e : D} (r : RdA K H Hf xs [d, e]) : ∃ x y, xs = [x, y] ∧ Rdb K H Hf x d ∧ Rdb K H Hf y e := by
  cases r with
  | cons h1 h2 =>
    cases h2 with
    | cons h2 h3 => cases h3; exact ⟨_, _, rfl, h1, h2⟩
def fLen : List D → Option B
  | [.list l] => some (.im (.int (l.length : Nat)))
  | [.tuple l] => some (.im (.int (l.length : Nat)))
  | [.str z] => if small z.length = true then some (.im (.int (z.length : Nat))) else none
  | _ => none
def rLenA (K : PySem.W.Frag) : List V → Hp → VK → Prop := fun xs H Q => ∃ x n, xs = [x] ∧ LenV K x H n ∧ Q (.int n) H
theorem opn_len : OpN K (rLenA K) fLen := fun H Hf xs ds b Q f r h q => by
  match ds, h with
  | [.list l], h =>
    simp only [fLen, Option.some.injEq] at h
    subst h
    obtain ⟨x, rfl, rx⟩ := rda1 r
    obtain ⟨a, ys, rfl, hs, hl⟩ := rdb_list f rx
    rw [← dpa_len hl] at q
    exact ⟨_, _, rfl, .inl ⟨ys, hs, rfl⟩, q _ _ _ (grow_int f _)⟩
  | [.tuple l], h =>
    simp only [fLen, Option.some.injEq] at h
    subst h
    obtain ⟨x, rfl, rx⟩ := rda1 r
    obtain ⟨a, ys, rfl, hs, hl⟩ := rdb_tup f rx
    rw [← dpa_len hl] at q
    exact ⟨_, _, rfl, .inr ⟨ys, same_t f hs, rfl⟩, q _ _ _ (grow_int f _)⟩
  | [.str z], h =>
    simp only [fLen] at h
    by_cases c : small z.length = true
    · rw [if_pos c] at h
      cases h
      obtain ⟨x, rfl, rx⟩ := rda1 r
      rw [rdb_str rx]
      exact ⟨_, z.length, rfl, ⟨small_le c, rfl⟩, q _ _ _ (grow_int f _)⟩
    · rw [if_neg c] at h; cases h
def fAbs : List D → Option B
  | [.int i] => some (.im (.int (if i < 0 then -i else i)))
  | _ => none
theorem opn_abs : OpN K (fun xs H Q => ∃ i, xs = [.int i] ∧ Q (.int (if i < 0 then -i else i)) H) fAbs := fun H Hf xs ds b Q f r h q => by
  match ds, h with
  | [.int i], h =>
    simp only [fAbs, Option.some.injEq] at h
    subst h
    obtain ⟨x, rfl, rx⟩ := rda1 r
    rw [rdb_int rx]
    exact ⟨i, rfl, q _ _ _ (grow_int f _)⟩
def fMax2 : List D → Option B
  | [.int i, .int j] => some (.im (.int (if j > i then j else i)))
  | _ => none
def fMin2 : List D → Option B
  | [.int i, .int j] => some (.im (.int (if j < i then j else i)))
  | _ => none
theorem opn_max2 : OpN K (fun xs H Q => ∃ i j, xs = [.int i, .int j] ∧ Q (.int (if j > i then j else i)) H) fMax2 := fun H Hf xs ds b Q f r h q => by
  match ds, h with
  | [.int i, .int j], h =>
    simp only [fMax2, Option.some.injEq] at h
    subst h
    obtain ⟨x, y, rfl, rx, ry⟩ := rda2 r
    rw [rdb_int rx, rdb_int ry]
    exact ⟨i, j, rfl, q _ _ _ (grow_int f _)⟩
theorem opn_min2 : OpN K (fun xs H Q => ∃ i j, xs = [.int i, .int j] ∧ Q (.int (if j < i then j else i)) H) fMin2 := fun H Hf xs ds b Q f r h q => by
  match ds, h with
  | [.int i, .int j], h =>
    simp only [fMin2, Option.some.injEq] at h
    subst h
    obtain ⟨x, y, rfl, rx, ry⟩ := rda2 r
    rw [rdb_int rx, rdb_int ry]
    exact ⟨i, j, rfl, q _ _ _ (grow_int f _)⟩
/-- the ints of a list -/
def intsOf : List D → Option (List Int)
  | [] => some []
  | .int i :: l => (intsOf l).map (i :: ·)
  | _ :: _ => none
theorem intsOf_eq : ∀ {l : List D} {ns : List Int}, intsOf l = some ns → l = ns.map PyData.int
  | [], ns, h => by simp [intsOf] at h; subst h; rfl
  | d :: l, ns, h => by
    cases d with
    | int i =>
      simp only [intsOf, Option.map_eq_some_iff] at h
      obtain ⟨m, h1, rfl⟩ := h
      rw [intsOf_eq h1]; rfl
    | _ => simp [intsOf] at h
theorem intsOf_map : ∀ ns : List Int, intsOf (ns.map PyData.int) = some ns
  | [] => rfl
  | n :: ns => by
    show (intsOf (ns.map PyData.int)).map (n :: ·) = _
    rw [intsOf_map ns]; rfl
def fSum : List D → Option B
  | [.list l] => (intsOf l).map fun ns => .im (.int ns.sum)
  | _ => none
theorem opn_sum : OpN K (rSum K) fSum := fun H Hf xs ds b Q f r h q => by
  match ds, h with
  | [.list l], h =>
    simp only [fSum, Option.map_eq_some_iff] at h
    obtain ⟨ns, h1, rfl⟩ := h
    obtain ⟨x, rfl, rx⟩ := rda1 r
    obtain ⟨a, ys, rfl, hs, hl⟩ := rdb_list f rx
    rw [intsOf_eq h1] at hl
    rw [dpa_ints hl] at hs
    exact ⟨a, ns, rfl, hs, q _ _ _ (grow_int f _)⟩
def maxL : List Int → Option Int
  | [] => none
  | n :: ns => some (ns.foldl (fun a b => if b > a then b else a) n)
theorem maxL_mem : ∀ {ns : List Int} {m : Int}, maxL ns = some m → m ∈ ns ∧ ∀ y ∈ ns, y ≤ m
  | [], m, h => by cases h
  | n :: ns, m, h => by
    have key : ∀ (ns : List Int) (a : Int), (ns.foldl (fun a b => if b > a then b else a) a = a ∨ ns.foldl (fun a b => if b > a then b else a) a ∈ ns) ∧ a ≤ ns.foldl (fun a b => if b > a then b else a) a ∧ ∀ y ∈ ns, y ≤ ns.foldl (fun a b => if b > a then b else a) a := by
      intro ns
      induction ns with
      | nil => intro a; exact ⟨.inl rfl, Int.le_refl _, fun y h => by cases h⟩
      | cons b ns ih =>
        intro a
        obtain ⟨h1, h2, h3⟩ := ih (if b > a then b else a)
        simp only [List.foldl_cons]
        refine ⟨?_, ?_, ?_⟩
        · rcases h1 with h1 | h1
          · rw [h1]
            split
            · exact .inr List.mem_cons_self
            · exact .inl rfl
          · exact .inr (List.mem_cons_of_mem _ h1)
        · refine Int.le_trans ?_ h2
          split <;> omega
        · intro y hy
          rcases List.mem_cons.mp hy with rfl | hy
          · refine Int.le_trans ?_ h2
            split <;> omega
          · exact h3 y hy
    simp only [maxL, Option.some.injEq] at h
    obtain ⟨h1, h2, h3⟩ := key ns n
    rw [h] at h1 h2 h3
    refine ⟨?_, fun y hy => ?_⟩
    · rcases h1 with h1 | h1
      · rw [h1]; exact List.mem_cons_self
      · exact List.mem_cons_of_mem _ h1
    · rcases List.mem_cons.mp hy with rfl | hy
      · exact h2
      · exact h3 y hy
def fMax1 : List D → Option B
  | [.list l] => (intsOf l).bind fun ns => (maxL ns).map fun m => .im (.int m)
  | _ => none
theorem opn_max1 : OpN K (rMax K) fMax1 := fun H Hf xs ds b Q f r h q => by
  match ds, h with
  | [.list l], h =>
    simp only [fMax1, Option.bind_eq_some_iff, Option.map_eq_some_iff] at h
    obtain ⟨ns, h1, m, h2, rfl⟩ := h
    obtain ⟨x, rfl, rx⟩ := rda1 r
    obtain ⟨a, ys, rfl, hs, hl⟩ := rdb_list f rx
    rw [intsOf_eq h1] at hl
    rw [dpa_ints hl] at hs
    obtain ⟨k1, k2⟩ := maxL_mem h2
    refine ⟨a, ns, rfl, hs, List.length_pos_of_mem k1, fun m' m1 m2 => ?_⟩
    have : m' = m := Int.le_antisymm (k2 m' m1) (m2 m k1)
    rw [this]
    exact q _ _ _ (grow_int f _)
def fInt : List D → Option B
  | [.int i] => some (.im (.int i))
  | [.bool b] => some (.im (.int (if b then 1 else 0)))
  | _ => none
theorem opn_int : OpN K (fun xs H Q => (∃ i, xs = [.int i] ∧ Q (.int i) H) ∨ ∃ k, xs = [.bl k] ∧ Q (.int (if k then 1 else 0)) H) fInt := fun H Hf xs ds b Q f r h q => by
  match ds, h with
  | [.int i], h =>
    simp only [fInt, Option.some.injEq] at h
    subst h
    obtain ⟨x, rfl, rx⟩ := rda1 r
    rw [rdb_int rx]
    exact .inl ⟨i, rfl, q _ _ _ (grow_int f _)⟩
  | [.bool i], h =>
    simp only [fInt, Option.some.injEq] at h
    subst h
    obtain ⟨x, rfl, rx⟩ := rda1 r
    rw [rdb_bool rx]
    exact .inr ⟨i, rfl, q _ _ _ (grow_int f _)⟩
def fGcd : List D → Option B
  | [.int i, .int j] => some (.im (.int ((Nat.gcd i.natAbs j.natAbs : Nat) : Int)))
  | _ => none
theorem opn_gcd : OpN K rGcd fGcd := fun H Hf xs ds b Q f r h q => by
  match ds, h with
  | [.int i, .int j], h =>
    simp only [fGcd, Option.some.injEq] at h
    subst h
    obtain ⟨x, y, rfl, rx, ry⟩ := rda2 r
    rw [rdb_int rx, rdb_int ry]
    exact ⟨i, j, rfl, q _ _ _ (grow_int f _)⟩
def fDivmod : List D → Option B
  | [.int i, .int j] => if (decide (0 < j) && decide (j.natAbs.log2 < 9000)) = true then some (.im (.tuple [.int (i / j), .int (i % j)])) else none
  | _ => none
theorem opn_divmod : OpN K (fun xs H Q => ∃ i j, xs = [.int i, .int j] ∧ CDivP i j ∧ ∀ p, H p = none → Q (.ref p) (upd H p (.tup [.int (i / j), .int (i % j)]))) fDivmod := fun H Hf xs ds b Q f r h q => by
  match ds, h with
  | [.int i, .int j], h =>
    simp only [fDivmod] at h
    by_cases c : (decide (0 < j) && decide (j.natAbs.log2 < 9000)) = true
    · rw [if_pos c] at h
      cases h
      simp only [Bool.and_eq_true, decide_eq_true_eq] at c
      obtain ⟨x, y, rfl, rx, ry⟩ := rda2 r
      rw [rdb_int rx, rdb_int ry]
      exact ⟨i, j, rfl, ⟨c.1, PyProof.noPylong_of_log2 c.2⟩, fun p hp => q _ _ _ (Grow.tup f hp (.cons (.int _) (.cons (.int _) .nil)))⟩
    · rw [if_neg c] at h; cases h
def fList : List D → Option B
  | [.list l] => some (.mu l)
  | [.tuple l] => some (.mu l)
  | _ => none
theorem opn_list : OpN K (fun xs H Q => ∃ p ys, xs = [.ref p] ∧ (SqL K H p ys ∨ SqT K H p ys) ∧ ∀ l, H l = none → Q (.ref l) (upd H l (.lst ys))) fList := fun H Hf xs ds b Q f r h q => by
  match ds, h with
  | [.list l], h =>
    simp only [fList, Option.some.injEq] at h
    subst h
    obtain ⟨x, rfl, rx⟩ := rda1 r
    obtain ⟨a, ys, rfl, hs, hl⟩ := rdb_list f rx
    exact ⟨a, ys, rfl, .inl hs, fun p hp => q _ _ _ (Grow.lst f hp hl)⟩
  | [.tuple l], h =>
    simp only [fList, Option.some.injEq] at h
    subst h
    obtain ⟨x, rfl, rx⟩ := rda1 r
    obtain ⟨a, ys, rfl, hs, hl⟩ := rdb_tup f rx
    exact ⟨a, ys, rfl, .inr (same_t f hs), fun p hp => q _ _ _ (Grow.lst f hp hl)⟩
def fTuple : List D → Option B
  | [.list l] => some (.im (.tuple l))
  | [.tuple l] => some (.im (.tuple l))
  | _ => none
theorem opn_tuple : OpN K (fun xs H Q => ∃ p ys, xs = [.ref p] ∧ ((SqL K H p ys ∧ ∀ l, H l = none → Q (.ref l) (upd H l (.tup ys))) ∨ (SqT K H p ys ∧ Q (.ref p) H))) fTuple := fun H Hf xs ds b Q f r h q => by
  match ds, h with
  | [.list l], h =>
    simp only [fTuple, Option.some.injEq] at h
    subst h
    obtain ⟨x, rfl, rx⟩ := rda1 r
    obtain ⟨a, ys, rfl, hs, hl⟩ := rdb_list f rx
    exact ⟨a, ys, rfl, .inl ⟨hs, fun p hp => q _ _ _ (Grow.tup f hp hl)⟩⟩
  | [.tuple l], h =>
    simp only [fTuple, Option.some.injEq] at h
    subst h
    obtain ⟨x, rfl, rx⟩ := rda1 r
    obtain ⟨a, ys, rfl, hs, hl⟩ := rdb_tup f rx
    exact ⟨a, ys, rfl, .inr ⟨same_t f hs, q _ _ _ (Grow.same f (.tup hs hl))⟩⟩
def boolsOf : List D → Option (List Bool)
  | [] => some []
  | .bool i :: l => (boolsOf l).map (i :: ·)
  | _ :: _ => none
theorem boolsOf_dp : ∀ {l : List D} {bs : List Bool} {xs : List V}, boolsOf l = some bs → DpAll K Hf xs l → xs = bs.map V.bl
  | [], bs, xs, h, hl => by simp [boolsOf] at h; subst h; cases hl; rfl
  | d :: l, bs, xs, h, hl => by
    cases d with
    | bool i =>
      simp only [boolsOf, Option.map_eq_some_iff] at h
      obtain ⟨m, h1, rfl⟩ := h
      cases hl with
      | cons h2 h3 => cases h2; rw [boolsOf_dp h1 h3]; rfl
    | _ => simp [boolsOf] at h
def fAll : List D → Option B
  | [.list l] => (boolsOf l).map fun bs => .im (.bool (bs.all id))
  | _ => none
theorem opn_all : OpN K (rAll K) fAll := fun H Hf xs ds b Q f r h q => by
  match ds, h with
  | [.list l], h =>
    simp only [fAll, Option.map_eq_some_iff] at h
    obtain ⟨bs, h1, rfl⟩ := h
    obtain ⟨x, rfl, rx⟩ := rda1 r
    obtain ⟨a, ys, rfl, hs, hl⟩ := rdb_list f rx
    rw [boolsOf_dp h1 hl] at hs
    exact ⟨a, bs, rfl, hs, q _ _ _ (grow_bl f _)⟩

/-! ### isinstance of a built-in class -/
def tyN : D → Option String
  | .none => some "NoneType"
  | .bool _ => some "bool"
  | .int _ => some "int"
  | .str _ => some "str"
  | .list _ => some "list"
  | .tuple _ => some "tuple"
  | .dict _ => none
theorem ty_of (f : Same Hf H) {n : String} (h : tyN d = some n) (r : Rdb K H Hf x d) : TyX K H x (.type n) := by
  cases d with
  | none => cases h; rw [rdb_non r]; exact .base .non
  | bool b => cases h; rw [rdb_bool r]; exact .base (.bl b)
  | int i => cases h; rw [rdb_int r]; exact .base (.int i)
  | str z => cases h; rw [rdb_str r]; exact .base (.str z)
  | list l =>
    cases h
    obtain ⟨a, xs, rfl, hs, _⟩ := rdb_list f r
    rcases hs with (h | ⟨o, h⟩) | ⟨o, its, n, h, hc, _⟩
    · exact .base (.lst h)
    · exact .base (.frz h)
    · exact .kList h hc
  | tuple l =>
    cases h
    obtain ⟨a, xs, rfl, hs, _⟩ := rdb_tup f r
    rcases same_t f hs with (h | ⟨o, h⟩) | ⟨o, its, n, h, hc, _⟩
    · exact .base (.tup h)
    · exact .fTuple h
    · exact .kTuple h hc
  | dict _ => cases h
/-- isinstance(.., T): the answers by the type's name -/
def isB (T : String) (d : D) : Option Bool := (tyN d).bind fun n => kitB n T
def eIsi (T : String) (ta : Gm → Res W) (g : Gm) : Res W := (ta g).bind fun w g1 => match (rd g1 w).bind (isB T) with
  | some b => .ok (.v (.im (.bool b))) g1
  | none => .no
theorem de_isi {e : Expr} {T : String} {Tx : Str} {p p2 pos : Pos} {ta : Gm → Res W} (he : DE X Wx e ta) (hg : Gl X "isinstance") (hm : X.mg "isinstance" = none) (hT : PE X (.Name Tx p2) (tC (.ty T)))
    (h1 : starEach (e :: [.Name Tx p2]) X.env = (false, eval e X.env) :: starEach [.Name Tx p2] X.env := by rfl) (h2 : starEach (.Name Tx p2 :: []) X.env = (false, eval (.Name Tx p2) X.env) :: starEach [] X.env := by rfl)
    (hpl : (backTo pos (starEach [.Name Tx p2] X.env)).any (·.1) = false := by rfl) : DE X Wx (.Call (.Name "isinstance" p) [e, .Name Tx p2] [] pos) (eIsi T ta) := ⟨PE.imp (pe_callB call_isi hg hm boot_isinstance (pa_cons he.pe (pa_cons hT pa_nil h2) h1) (by decide) (by decide) h1 hpl) fun σ H Q ⟨Z, g, ps, Hf, S, q⟩ => by
  refine giveE he S q.bind fun w g1 x H1 Hf1 q1 s1 S1 => ?_
  cases e1 : rd g1 w with
  | none => rw [e1] at q1; exact q1.elim
  | some d =>
    rw [e1] at q1
    have q1' : GEnd X Wx Z σ (RP X Z σ ps Hf Q) (match isB T d with
      | some b => .ok (.v (.im (.bool b))) g1
      | none => .no) := q1
    cases e2 : isB T d with
    | none => rw [e2] at q1'; exact q1'.elim
    | some b =>
      rw [e2] at q1'
      have e3 := e2
      unfold isB at e3
      cases e4 : tyN d with
      | none => rw [e4] at e3; cases e3
      | some n =>
        rw [e4] at e3
        refine ⟨x, .ty T, .type n, .type T, b, rfl, .ty T, ty_of S1.frz e4 (S1.rd mem_last e1), kit_ty e3, ?_⟩
        exact q1' (.bl b) H1 Hf1 s1 (S1.drop.pushIm (.bl b))⟩

/-! ### repr -/
/-- what repr can show -/
def ReprOk (d : D) : Prop := d.showable = true ∧ d.hasDict = false ∧ d.depth ≤ 60 ∧ d.shown.length ≤ sizeLine
open Classical in
noncomputable def fRepr : List D → Option B
  | [d] => if ReprOk d then some (.im (.str d.shown)) else none
  | _ => none
def rRepr (K : PySem.W.Frag) : List V → Hp → VK → Prop := fun xs H Q => ∃ x d, xs = [x] ∧ Dp K H x d ∧ ReprOk d ∧ Q (.str d.shown) H
theorem opn_repr : OpN K (rRepr K) fRepr := fun H Hf xs ds b Q f r h q => by
  match ds, h with
  | [d], h =>
    simp only [fRepr] at h
    by_cases c : ReprOk d
    · rw [if_pos c] at h
      cases h
      obtain ⟨x, rfl, rx⟩ := rda1 r
      exact ⟨x, d, rfl, rdb_dp f rx, c, q _ _ _ (Grow.same f (.str _))⟩
    · rw [if_neg c] at h; cases h
theorem callr_repr (hg : X.A.guards = some []) (hu : X.A.units + 64 < cLine) : CallR X (.builtin "repr") (rRepr X.K) := by
  intro pins s σ H xs us Q I r h
  obtain ⟨x, d, rfl, hd, ⟨c1, c2, c3, c4⟩, q⟩ := h
  obtain ⟨u, rfl, ru⟩ := vals1 r
  cases d with
  | none =>
    cases hd
    cases (show u = Value.none from ru)
    rw [PyData.shown_none] at q
    exact PySem.P.repr_of_none ⟨.str _, H, I.tok _, ⟨_, rfl⟩, q⟩
  | bool b =>
    cases hd
    cases (show u = Value.bool b from ru)
    rw [PyData.shown_bool] at q
    exact PySem.P.repr_of_bool ⟨.str _, H, I.tok _, ⟨_, rfl⟩, q⟩
  | int i =>
    cases hd
    obtain ⟨t, rfl⟩ := ru
    rw [PyData.shown_int] at q
    simp only [PyData.showable, decide_eq_true_eq] at c1
    exact PySem.P.repr_of_int c1 ⟨.str _, H, I.tok _, ⟨_, rfl⟩, q⟩
  | str z =>
    cases hd
    obtain ⟨t, rfl⟩ := ru
    rw [PyData.shown_str] at q c4
    exact PySem.P.repr_of_str ⟨.str _, H, I.tok _, ⟨_, rfl⟩, q⟩ c4
  | list l =>
    obtain ⟨as, rd⟩ := Dp.reads I _ _ _ hd ru
    cases hd with
    | lst hs hl =>
      cases ru
      refine repr_of_reads' rd c1 (fun e => by rw [c2] at e; cases e) hg (by omega) (fun _ _ e => e) (fun h' u tk hk => ?_) c4
      exact ⟨.str _, H, I.kept (t' := tk) hk, ⟨u, rfl⟩, q⟩
  | tuple l =>
    obtain ⟨as, rd⟩ := Dp.reads I _ _ _ hd ru
    cases hd with
    | tup hs hl =>
      cases ru
      refine repr_of_reads' rd c1 (fun e => by rw [c2] at e; cases e) hg (by omega) (fun _ _ e => e) (fun h' u tk hk => ?_) c4
      exact ⟨.str _, H, I.kept (t' := tk) hk, ⟨u, rfl⟩, q⟩
  | dict _ => cases hd
end
end DL
/-! ## DLk.lean -/
set_option Elab.async false
set_option linter.all false
set_option maxRecDepth 100000
set_option maxHeartbeats 4000000
/-! exceptions whose class has, of its own or from above, __init__(self, value): self.value = value (the block of the skeleton of an own error, turned to that field) -/
namespace PySem
namespace LowV
open PySem.W PySem.Calls PyProof.Rows PySem.HandSPX
def iA (p1 p2 p3 : Pos) : Arguments := { posonlyargs := [], args := [{ arg := "self", annotation := none, pos := p1 }, { arg := "value", annotation := none, pos := p2 }], vararg := none, kwonlyargs := [], kw_defaults := [], kwarg := none, defaults := [.Constant .none 0 p3] }
def iB (q1 q2 q3 q4 : Pos) : List Stmt := [.Assign [.Attribute (.Name "self" q1) "value" q2] (.Name "value" q3) q4]
def iS : Scope := { kind := .function, names := [(PySem.Str.ofString "self", .local), (PySem.Str.ofString "value", .local)], isGenerator := false, isCoroutine := false, more := [] }
/-- what the written part says of the class named x, at C, and of its __init__, at fI -/
structure VTxt (K : Frag) (mg : Str → Option Value) (x : Str) (C fI : Addr) : Prop where
  gC : mg x = some (.ref C)
  cls : ∃ nm q N bs bm sn sub ab col dd k0 k1 k2 k3 k5, K.lookup C = some (excClassObj nm q C N bs bm true sn sub ab col dd k0 k1 k2 k3 k5 "ValueError.__new__") ∧ refsVE bm = true
  sa : findIn K (.ref C) "__setattr__" = some (some (.builtin "object.__setattr__"))
  ga : findIn K (.ref C) "__getattribute__" = some (some (.builtin "BaseException.__getattribute__"))
  gg : findIn K (.ref C) "__getattr__" = some none
  noN : findIn K (.ref C) "value" = some none
  iC : findIn K (.ref C) "__init__" = some (some (.ref fI))
  tC : typeIn K (.ref fI) = some (.type "function")
  kC : keepIn K (.ref C) = true
  exC : subIn K (.ref C) (.type "BaseException") = some true
  tyC : typeIn K (.ref C) = some (.type "type")
  hdC : hasDictIn K C = true
  fn : ∃ (oc : Value) (od : Option Addr) (dV doc pm : Value) (an : Option Addr) (cdv ct : Value) (osl : Array (Option Value)) (qn : Str) (p1 p2 p3 q1 q2 q3 q4 : Pos),
    K.lookup fI = some ⟨oc, od, .func (fnOf "__init__" qn (iA p1 p2 p3) (iB q1 q2 q3 q4) iS dV .none doc pm an cdv ct), osl⟩ ∧ codeIn K cdv qn = true ∧ ∃ (t : Addr) (o : Obj) (n : Nat), dV = .ref t ∧ K.lookup t = some o ∧ o.data = .seq #[Value.none] n
theorem one_size (v : Value) : [v].length ≤ sizeLine := by
  rw [sizeLine_eq]
  exact (by decide : 1 ≤ 16777216)
theorem ldC {M : Model} {s : Shared} {name : Str} {scope : Scope} {L a : Addr} {cd : Value} {m : Str → Option Value} {x : Str} {pos : Pos} {v : Value} {Q : Value → Shared → Prop} {A : Around} {E : Value → Shared → Prop} (hn : s.heap.Ns L m) (hv : m x = some v) (h : Q v s)
    (hk : scope.kind = .function := by rfl) (hl : (envOfC name scope L a cd).kindOf x = some .local := by rfl) (hd : (x == ("__debug__" : Str)) = false := by decide) :
    wpAny M A (eval (.Name x pos) (envOfC name scope L a cd)) Q E s := wpAny_Name (wpAny_loadName_local hk hl hn hv h) hd
/-- what __init__ leaves of a fresh exception at x -/
structure InitEnd (h h' : Heap) (x C dx t1 : Addr) (v : Value) : Prop where
  keep : ∀ b o, b ≠ x → h.get? b = some o → h'.get? b = some o
  obj : h'.get? x = some { cls := .ref C, dict := some dx, data := .fields #[.ref t1, .none, .none, .none, .bool false, .none] }
  dbig : h.objs.size ≤ dx
  dne : dx ≠ x
  ns : h'.Ns1 dx (fun y => if y = "value" then some v else none)
/-- a made one -/
structure OwnMade (h h' : Heap) (e C d : Addr) (v : Value) : Prop where
  keep : ∀ b o, h.get? b = some o → h'.get? b = some o
  new : h.objs.size ≤ e
  obj : ∃ oe vs, h'.get? e = some oe ∧ oe.cls = .ref C ∧ oe.dict = some d ∧ oe.data = .fields vs ∧ vs[1]? = some .none
  dbig : h.objs.size ≤ d
  dne : d ≠ e
  ns : h'.Ns1 d (fun y => if y = "value" then some v else none)
section
variable {prog : Program} {w : World} {A : Around} {E : Value → Shared → Prop} {R : Result → Shared → Prop} {s : Shared} {K : Frag} {mg : Str → Option Value} {nx : Str} {C fI : Addr}
theorem low_init (T : VTxt K mg nx C fI) {x t0 : Addr} {v : Value} (X : K.In s.heap) (hlim : s.heap.NoLimit) (hx : s.heap.get? x = some (excO C t0)) (hnx : K.lookup x = none) (hroom : A.depth < recursionLimit)
    (hq : ∀ h' tk dx, InitEnd s.heap h' x C dx t0 v → R (.ok (.ret .none)) { s with heap := h', toks := tk }) :
    codeAny (model prog w) A (.call (.ref fI) ⟨[.ref x, v], []⟩) R s := by
  obtain ⟨oc, od, dV, doc, pm, an, cdv, ct, osl, qn, p1, p2, p3, q1, q2, q3, q4, ho, hcd, t, ot, nn, rfl, lt, dt⟩ := T.fn
  obtain ⟨nm, q, N, bs, bm, sn, sub, ab, col, dd, k0, k1, k2, k3, k5, hC, hbm⟩ := T.cls
  have hcl : clsIn K C = some { name := nm, bases := bs, mro := .ref C :: bm, ns := N, qualname := q, hasDict := true, slotNames := sn, subclasses := sub, abstract := ab, collection := col, hasDel := false } := by unfold clsIn; rw [hC] <;> rfl
  refine Att.call_fn (binds := [("self", .ref x), ("value", v)]) X hlim ho hcd hroom (L2.BindsTo.of_looks fun M => (by
    show PySem.W.Looks M s.heap (seqItems? (.ref t) >>= _) _
    exact L2.looks_items X lt dt (PySem.W.Looks.of_pure rfl))) (by first | rfl | decide | with_unfolding_all rfl) (fun s₁ IC => ?_) rfl rfl rfl
  obtain ⟨h₁, tk₁, rfl⟩ := IC.toInCall.same
  have k : ∀ b o, s.heap.get? b = some o → h₁.get? b = some o := IC.toInCall.keep
  have hn := IC.toInCall.ns
  have hxL : s.heap.objs.size ≠ x := Nat.ne_of_gt (Heap.lt_size hx)
  have X₁ : K.In h₁ := X.keeps k
  have hx₁ := k _ _ hx
  show wpAny _ _ (execs _ _) _ _ _
  refine wpAny_execs_cons (plainObj_wpAny_Assign_Attribute ?_)
  refine ldC (v := v) hn (by first | rfl | with_unfolding_all rfl | kernel_rfl) (ldC (v := .ref x) hn (by first | rfl | with_unfolding_all rfl | kernel_rfl) ?_)
  refine set_plain X₁ (ox := excO C t0) (od := none) ⟨hx₁, rfl, rfl, trivial⟩ T.sa ?_
  refine exc_osa X₁ hx₁ hcl (show refsVE (.ref C :: bm) = true from hbm) rfl T.noN (fun h₃ tk₃ dx k₃ dn dne hx₃ hn₃ => ?_)
  show wpAny _ _ (execs _ _) _ _ _
  have z : s.heap.objs.size < h₁.objs.size := hn.lt
  exact wpAny_execs_nil (hq h₃ tk₃ dx ⟨fun b o hb e => k₃ b o hb (k b o e), hx₃, Nat.le_of_lt (Nat.lt_of_lt_of_le z dn), dne, hn₃⟩)
theorem low_made (T : VTxt K mg nx C fI) {v : Value} (X : K.In s.heap) (hlim : s.heap.NoLimit) (hroom : A.depth + 1 < recursionLimit)
    (hq : ∀ h' tk e d, OwnMade s.heap h' e C d v → R (.ok (.ret (.ref e))) { s with heap := h', toks := tk }) :
    codeAny (model prog w) A (.call (.ref C) ⟨[v], []⟩) R s := by
  obtain ⟨nm, q, N, bs, bm, sn, sub, ab, col, dd, k0, k1, k2, k3, k5, hC, hbm⟩ := T.cls
  obtain ⟨hp, g, dr, tk, os⟩ := s
  have k : ∀ b o, hp.get? b = some o → ((hp.push (kdv_tup [v])).push (excO C hp.objs.size)).get? b = some o := fun b o e => Heap.get?_push_of_some _ (Heap.get?_push_of_some _ e)
  have hget : ((hp.push (kdv_tup [v])).push (excO C hp.objs.size)).get? (hp.objs.size + 1) = some (excO C hp.objs.size) := by heap_get
  have hnx : K.lookup (hp.objs.size + 1) = none := by
    cases e : K.lookup (hp.objs.size + 1) with
    | none => rfl
    | some o =>
      have z : hp.get? (hp.objs.size + 1) = some o := X _ _ e
      exact absurd (Nat.lt_of_succ_lt (Heap.lt_size z)) (Nat.lt_irrefl _)
  refine call_own F.excBase_ValueError (fun X => refsVE_contains X bm hbm) (X _ _ hC) (looks_findIn X T.iC) (fun self => bind_fn X self T.tC) (one_size v) ?_
  refine low_init (s := ⟨(hp.push (kdv_tup [v])).push (excO C hp.objs.size), g, dr, tk, os⟩) T (X.keeps k) (hlim.keeps k) hget hnx ?_ fun h' tk' dx ⟨k', hx, dn, dne, hns⟩ => ?_
  · show A.depth + 1 < recursionLimit
    exact hroom
  · have old : ∀ b o, hp.get? b = some o → h'.get? b = some o := fun b o e => k' b o (Nat.ne_of_lt (Nat.lt_succ_of_lt (Heap.lt_size e))) (k b o e)
    have z : hp.objs.size + 1 + 1 ≤ dx := by
      first
        | (simpa only [Heap.size_push] using dn)
        | exact dn
        | (have q := dn; rw [Heap.size_push, Heap.size_push] at q; exact q)
    exact ⟨rfl, hq h' tk' (hp.objs.size + 1) dx ⟨old, Nat.le_succ _, ⟨_, _, hx, rfl, rfl, rfl, rfl⟩, Nat.le_trans (Nat.le_trans (Nat.le_succ _) (Nat.le_succ _)) z, dne, hns⟩⟩
end
end LowV
end PySem
namespace DL
open PySem PySem.Spec PyProof.Rows L2
theorem relO_val {v : V} {v' : Value} (r : RelV v v') (f : Str) : RelO (List.lookup f [(("value" : Str), v)]) (if f = "value" then some v' else none) := by
  by_cases hw : f = "value"
  · subst hw
    rw [if_pos rfl]
    have q : List.lookup ("value" : Str) [(("value" : Str), v)] = some v := by simp [List.lookup]
    rw [q]
    exact r
  · rw [if_neg hw]
    have qw : (f == ("value" : Str)) = false := by simpa using hw
    have q2 : List.lookup f [(("value" : Str), v)] = none := by simp [List.lookup, qw]
    rw [q2]
    trivial
section
variable {X : Cx} {C fI : Addr} {x : Str} {Wx : WX}
theorem pmk_val {a : Expr} {ta : TA} {p pos : Pos} {k : Nat} (T : PySem.LowV.VTxt X.K X.mg x C fI) (hr : Room k X.A) (ha : PA X [a] ta) (hg : Gl X x) (hdb : (x == ("__debug__" : Str)) = false)
    (he : starEach (a :: []) X.env = (false, eval a X.env) :: starEach [] X.env) (hpl : (backTo pos (starEach [] X.env)).any (·.1) = false) :
    PMk X (.Call (.Name x p) [a] [] pos) (fun σ H Q => ta σ H fun vs H1 => ∃ v, vs = [v] ∧ ∀ d, H1 d = none → Q (.ref C) (some d) (upd H1 d (.xd [(("value" : Str), v)]))) := by
  intro pins s σ H Q I h
  refine wpAny_Call_Name_kw (ld_glob I hg T.gC ?_ hdb)
  refine PySem.W.callWith_K (h₀ := X.base) I.ok.mod.kin T.kC (thn (ha.run pos pins s σ H _ I h) fun us s1 hh => ?_) he hpl
  obtain ⟨vs, H1, I1, r1, v, ev, q1⟩ := hh
  subst ev
  refine ⟨I1.kIn, ?_⟩
  cases r1 with
  | cons rv rn =>
    rename_i v' us'
    cases rn
    show wpAny _ _ (call (.ref C) [v']) _ _ _
    have hlim := I1.nolimit
    obtain ⟨hp, g, dr, tk, os⟩ := s1
    refine wpAny_call (PySem.LowV.low_made T I1.kIn hlim (by have := hr.dp; omega) fun h' tk' e d M => ?_)
    show MkP X pins σ Q (.ref e) ⟨h', g, dr, tk', os⟩
    obtain ⟨oe, fv, hoe, hc, hd, hdat, h1⟩ := M.obj
    have hns := M.ns
    obtain ⟨G', g1, g2⟩ := restrict h' fun b => decide (b ≠ e)
    have gk : ∀ b, b ≠ e → G'.get? b = h'.get? b := fun b hb => g1 b (decide_eq_true hb)
    have ge : G'.get? e = none := g2 e (by simp)
    have old : ∀ b o, hp.get? b = some o → G'.get? b = some o := fun b o q => (gk b (Nat.ne_of_lt (Nat.lt_of_lt_of_le (Heap.lt_size q) M.new))).trans (M.keep b o q)
    have ob : ObjOk X.prog X.w (upd H1 d (.xd [(("value" : Str), v)])) G' d (.xd [(("value" : Str), v)]) :=
      ⟨_, hns.at (fun o q => (gk d M.dne).trans q), fun f => relO_val rv f⟩
    have J : Inv X pins σ (upd H1 d (.xd [(("value" : Str), v)])) ⟨G', g, dr, tk', os⟩ := I1.laid (t' := tk') old M.dbig ob
    refine ⟨e, oe, fv, ⟨G', g, dr, tk', os⟩, _, .ref C, some d, rfl, J, fun b o q => ?_, ge, hoe, ⟨hc, hd⟩, hdat, h1, ?_, rfl, I1.bare, raises_own T.exC T.tyC, q1 d (I1.hok.fresh M.dbig)⟩
    · by_cases hb : b = e
      · have q' : G'.get? b = some o := q
        rw [hb, ge] at q'; cases q'
      · exact (gk b hb).symm.trans q
    · rw [upd_ne (Ne.symm M.dne)]
      exact I1.hok.fresh M.new
/-- X(), X an own class without __init__ -/
theorem pmk_bare {bmB : List Value} {B newId initId : String} {p pos : Pos} (F : ExcBaseFacts B newId initId bmB) (q : PySem.W.excIn X.K C bmB newId = true) (gC : X.mg x = some (.ref C)) (kC : PySem.W.keepIn X.K (.ref C) = true) (r : Raises X (.ref C)) (hg : Gl X x)
    (hdb : (x == ("__debug__" : Str)) = false) : PMk X (.Call (.Name x p) [] [] pos) (fun σ H Q => Q (.ref C) none H) := by
  intro pins s σ H Q I h
  refine wpAny_Call_Name_kw (ld_glob I hg gC ?_ hdb)
  refine PySem.W.callWith_K0 I.kIn kC ?_
  show wpAny _ _ (call (.ref C) []) _ _ _
  obtain ⟨bm, N, nm, qn, bs, hdct, sn, sub, ab, col, dd, k0, k1, k2, k3, k5, mN, hC, hN, hni, T⟩ := exc_obj I.kIn q
  refine wpAny_call_exc_subT F T hC hN hni (fun h' e hm => ?_) (by decide)
  exact mk_of I hm r h (I.hok.gone hm.new)

/-! ### raise -/
def sRaise1 (c : Str) (ta : Gm → Res (List D)) (g : Gm) : SR := (ta g).bindS fun ds g1 => match ds with
  | [d] => .ex (c, [("value", d)]) g1
  | _ => .no
def sRaise0 (c : Str) (g : Gm) : SR := .ex (c, []) g
theorem ds_raise1 {k : Nat} {a : Expr} {ta : Gm → Res (List D)} {p pos pos2 : Pos} (hc : X.calm = true) (T : PySem.LowV.VTxt X.K X.mg x C fI) (hr : Rg k X.A) (tk : Takes X Wx) (ha : DAe X Wx [a] ta) (hg : Gl X x) (hdb : (x == ("__debug__" : Str)) = false := by decide)
    (he : starEach (a :: []) X.env = (false, eval a X.env) :: starEach [] X.env := by rfl) (hpl : (backTo pos (starEach [] X.env)).any (·.1) = false := by rfl) : DS X Wx (.Raise (some (.Call (.Name x p) [a] [] pos)) none pos2) (sRaise1 x ta) :=
  ⟨PS.imp (ps_raise hc tk (pmk_val T hr.rm ha.pa hg hdb he hpl)) fun D σ H ⟨Z, g, Hf, S, q⟩ => by
  refine giveAe ha S (SEnd.bindS (σ := σ) q) fun ds g1 xs H1 Hf1 q1 s1 l S1 => ?_
  match ds, l, q1 with
  | [d], l, q1 =>
    obtain ⟨y, ey, h1⟩ : ∃ y, xs = [y] ∧ Dp X.K Hf1 y d := by
      cases l with
      | cons h1 h2 => cases h2; exact ⟨_, rfl, h1⟩
    · subst ey
      refine ⟨y, rfl, fun dd hd => ?_⟩
      have q2 : ∀ σ, XEnd X Wx Z σ (x, [("value", d)]) g1 := q1
      have S2 : Stx X.K Z g1 σ [] (upd H1 dd (.xd [(("value" : Str), y)])) (upd Hf1 dd (.xd [(("value" : Str), y)])) :=
        S1.step (same_new hd) (same_new (hf_none S1.frz hd)) (same_upd2 S1.frz hd) fun b u e => by
          by_cases hb : b = dd
          · subst hb; exact .inr hd
          · rw [upd_ne hb] at e; exact .inl e
      exact q2 σ _ _ _ _ S2 ⟨C, T.gC, rfl, .inr ⟨dd, _, rfl, upd_same, .cons ⟨rfl, dp_mono (same_new (hf_none S1.frz hd)) d _ h1⟩ .nil⟩⟩
  | [], _, q1 => exact q1.elim
  | _ :: _ :: _, _, q1 => exact q1.elim⟩
theorem ds_raise0 {bmB : List Value} {B newId initId : String} {p pos pos2 : Pos} (hc : X.calm = true) (F : ExcBaseFacts B newId initId bmB) (q : PySem.W.excIn X.K C bmB newId = true) (gC : X.mg x = some (.ref C)) (kC : PySem.W.keepIn X.K (.ref C) = true) (r : Raises X (.ref C)) (tk : Takes X Wx) (hg : Gl X x)
    (hdb : (x == ("__debug__" : Str)) = false := by decide) : DS X Wx (.Raise (some (.Call (.Name x p) [] [] pos)) none pos2) (sRaise0 x) :=
  ⟨PS.imp (ps_raise hc tk (pmk_bare F q gC kC r hg hdb)) fun D σ H ⟨Z, g, Hf, S, h⟩ => by
  have q2 : ∀ σ, XEnd X Wx Z σ (x, []) g := h
  exact q2 σ _ _ _ _ S ⟨C, gC, rfl, .inl ⟨rfl, rfl⟩⟩⟩
end

/-! ### try: .. except X as e: .., several clauses -/
abbrev Clause := Value × Nat × (Addr → Value → Option Addr → TS)
/-- a clause's ends: the name is gone behind the suite -/
def gone (i : Nat) (D : Ends) : Ends := { nx := fun σ H => D.nx (σ.set i none) H, rt := D.rt, bk := fun σ H => D.bk (σ.set i none) H, ct := fun σ H => D.ct (σ.set i none) H }
def wAsM (K : PySem.W.Frag) (Wout : WX) (D : Ends) : List Clause → WX
  | [] => Wout
  | (c, i, ts) :: r => fun cls d σ H => ∃ b, PySem.W.exmOne K cls c = some b ∧ (b = true → ∀ a, H a = none → ts a cls d (gone i D) (σ.set i (some (.ref a))) H) ∧ (b = false → wAsM K Wout D r cls d σ H)
inductive ClOk (X : Cx) : List ExceptHandler → List Clause → Prop
  | nil : ClOk X [] []
  | cons {x n : Str} {c : Value} {i : Nat} {ts : Addr → Value → Option Addr → TS} {b₀ : Stmt} {suite : List Stmt} {np pos' : Pos} {hds : List ExceptHandler} {l : List Clause} (hi : X.N[i]? = some n) (hln : X.env.kindOf n = some .local) (hc : Names X x c)
      (hsu : ∀ (a : Addr) (oe : Obj) (cls : Value) (d : Option Addr) (pn : List (Addr × Obj)), Zc cls d oe → (∃ vs, oe.data = .fields vs) → PSs (X.suite a ((a, oe) :: pn)) (b₀ :: suite) (ts a cls d)) (r : ClOk X hds l) :
      ClOk X (.ExceptHandler (some (.Name x np)) (some n) (b₀ :: suite) pos' :: hds) ((c, i, ts) :: l)
section
variable {X : Cx} {body : List Stmt} {h0 : ExceptHandler} {hds : List ExceptHandler} {l : List Clause} {pos : Pos} {tb : WX → TS} {Wout : WX}
/-- what the clauses do with a flying exception -/
theorem clauses_run {pins : List (Addr × Obj)} {σ' : L2.St} {H' : Hp} {sI s' : Shared} {D : Ends} {a : Addr} {B h3 : Heap} {cls : Value} {d : Option Addr} (ok : X.Ok) (hN : X.N.Nodup) (hs : X.stack = X.env :: X.outer) (hf : X.env.frame = some X.env.locals) (tk : Takes X Wout)
    (J : Inv X pins σ' H' sI) (nb : ∀ b o, sI.heap.get? b = some o → b ∉ frs X.stack → B.get? b = some o) (up3 : sI.heap.UpToSlots h3) (na : H' a = none) (os : s'.os = sI.os) (ag : AllBare s'.gens) (fl3 : HandSPX.FlyingZ B (X.env :: X.outer) a (Zc cls d) h3)
    (nL : a ≠ X.env.locals) (nF : a ∉ X.fs) : ∀ {hds' : List ExceptHandler} {l' : List Clause}, ClOk X hds' l' → wAsM X.K Wout D l' cls d σ' H' →
      wpAny (model X.prog X.w) X.A (handleBy (.ref a) X.env hds') (SP X pins D) X.xe { s' with heap := h3 } := by
  obtain ⟨oe3, vs3, he3, hz3, hd3⟩ := fl3.there
  have J3 : Inv X pins σ' H' { s' with heap := h3 } := J.landed nb fl3.1 up3 os ag
  have S3 := J3.suite he3 hd3 na nL nF
  intro hds' l' hk
  induction hk with
  | nil =>
    intro w
    refine wpAny_handleBy_nil ?_
    obtain ⟨_, _, _, oe, vs, T, oT, ts', he, hz, hd, h1, hr⟩ := id fl3
    unfold PySem.passOn
    refine wpAny_bind (wpAny_field he hd h1 ?_)
    have nt : ¬ ((Value.ref T == Value.none) = true) := by simp
    rw [if_neg nt]
    have again : wpAny (model X.prog X.w) X.A (setFlight (.ref a) X.env.frame) (fun _ s4 => wpAny (model X.prog X.w) X.A (throw (.ref a) : Sem Flow) (SP X pins D) X.xe s4) X.xe { s' with heap := h3 } := by
      rw [hf]
      refine HandSPX.setFlight_upZ fl3 ?_
      intro h4 hh4 up4
      refine wpAny_throw (tk _ _ ⟨a, B, sI, pins, σ', H', cls, d, rfl, J, nb, up3.trans up4, .inr (.inr ?_), na, os, ag, w⟩)
      rw [hs]
      exact hh4
    first
      | exact wpAny_bind (wpAny_pure (wpAny_bind again))
      | exact wpAny_bind again
  | @cons x n c i ts b₀ suite np pos' hds2 l2 hi hln hc hsu r ih =>
    intro w
    obtain ⟨b, hb1, hyes, hno⟩ := w
    refine wpAny_handleBy_cons (codeAny_handlers_test ?_) (by intro q; cases q)
    have LT : PySem.W.Looks (model X.prog X.w) h3 (typeOf (.ref a)) cls := fun A Q E s k q => wpAny_typeOf_ref (k _ _ he3) (by rw [hz3.1]; exact q)
    have named : ∀ {Q : Value → Shared → Prop} {E : Value → Shared → Prop}, Q c { s' with heap := h3 } → wpAny (model X.prog X.w) (X.A.mark (some (.ref a))) (eval (.Name x np) X.env) Q E { s' with heap := h3 } := by
      intro Q E q
      obtain ⟨hg, hdbg, hm | ⟨hm, hv, hnn⟩⟩ := hc
      · exact ld_glob (X := X.suite a ((a, oe3) :: (X.pn ++ pins))) S3 hg hm q hdbg
      · exact ld_blt (X := X.suite a ((a, oe3) :: (X.pn ++ pins))) S3 hg hm hv q hnn hdbg
    refine named ((PySem.W.exm_one (M := model X.prog X.w) J3.kIn LT hb1).here ?_)
    cases b with
    | false => exact ih (hno rfl)
    | true =>
      refine codeAny_handlers_suite_as ?_
      refine HandSPX.lands_againZ fl3 ?_
      intro h4 fl4 up4
      have J4 : Inv X pins σ' H' { s' with heap := h4 } := J.landed nb fl4.1 (up3.trans up4) os ag
      obtain ⟨oe4, vs4, he4, hz4, hd4⟩ := fl4.there
      have S4 := J4.suite he4 hd4 na nL nF
      refine store_ok (X := X.suite a ((a, oe4) :: (X.pn ++ pins))) (v := .ref a) S4 hN hi (.inl hln) rfl ?_ (.inr hln)
      intro s5 S5
      refine wpAny_mono ((hsu a oe4 cls d (X.pn ++ pins) hz4 ⟨_, hd4⟩).run [] s5 _ H' _ S5 (hyes rfl a na)) ?_ (fun _ _ z => False.elim z)
      intro f s6 hsp
      have behind : ∀ {σ6 : L2.St} {H6 : Hp} {Q : Shared → Prop}, Inv (X.suite a ((a, oe4) :: (X.pn ++ pins))) [] σ6 H6 s6 → (∀ s7, Inv X pins (σ6.set i none) H6 s7 → Q s7) →
          wpAny (model X.prog X.w) X.A (do bindName X.env n .none; unbindBehindTheSuite X.env n pos') (fun _ s7 => Q s7) X.xe s6 := by
        intro σ6 H6 Q S6 hq
        exact gone_ok (S6.unsuite ok) hN hi hln hq
      cases f with
      | next => obtain ⟨σ6, H6, S6, q6⟩ := hsp; exact behind S6 fun s7 J7 => ⟨_, _, J7, q6⟩
      | brk => obtain ⟨σ6, H6, S6, q6⟩ := hsp; exact behind S6 fun s7 J7 => ⟨_, _, J7, q6⟩
      | cont => obtain ⟨σ6, H6, S6, q6⟩ := hsp; exact behind S6 fun s7 J7 => ⟨_, _, J7, q6⟩
      | ret u => obtain ⟨v6, σ6, H6, S6, r6, q6⟩ := hsp; exact behind S6 fun s7 J7 => ⟨_, _, _, J7, r6, q6⟩
theorem ps_tryM (hs : X.stack = X.env :: X.outer) (hf : X.env.frame = some X.env.locals) (hN : X.N.Nodup) (tk : Takes X Wout)
    (hb : ∀ (W : WX) (pn : List (Addr × Obj)) (xe : Value → Shared → Prop), Takes (X.tr pn xe) W → PassesOwn (model X.prog X.w) X.A X.env xe → PSs (X.tr pn xe) body (tb W))
    (hh : ClOk X (h0 :: hds) l) : PS X (.Try body (h0 :: hds) [] [] pos) (fun D σ H => tb (wAsM X.K Wout D l) D σ H) := by
  constructor
  intro pins s σ H D I h
  have ok := I.ok
  have hfr : X.A.frames = some (X.env :: X.outer) := by rw [ok.frames, hs]
  refine wpAny_Try_except ?_
  let caught : Value → Shared → Prop := fun e s1 => wpAny (model X.prog X.w) X.A (noteFrame e X.env) (fun _ s2 => wpAny (model X.prog X.w) X.A (setFlight e none) (fun _ s3 => wpAny (model X.prog X.w) X.A (handleBy e X.env (h0 :: hds)) (SP X pins D) X.xe s3) X.xe s2) X.xe s1
  have tk2 : Takes (X.tr (X.pn ++ pins) caught) (wAsM X.K Wout D l) := by
    intro u s' xx
    obtain ⟨a, B, sI, pins', σ', H', cls, d, rfl, J', nb, up, sky, na, os, ag, w⟩ := xx
    have J : Inv X pins σ' H' sI := J'.ofTry ok
    have sky' : Sky B (X.env :: X.outer) a (Zc cls d) X.env.locals s'.heap := by rw [← hs]; exact sky
    show wpAny (model X.prog X.w) X.A (noteFrame (.ref a) X.env) _ _ _
    refine Sky.land Zc.steady hfr hf sky' ?_
    intro h3 fl3 up3
    obtain ⟨oe3, vs3, he3, hz3, hd3⟩ := fl3.there
    have nfr : a ∉ frs (X.env :: X.outer) := by
      intro hm
      obtain ⟨_, o', e', hnf⟩ := fl3.2.2.1.mem hm
      rw [he3] at e'
      cases e'
      exact hnf _ hd3
    have nL : a ≠ X.env.locals := by
      intro z
      exact nfr (List.mem_filterMap.mpr ⟨X.env, List.mem_cons_self, by rw [hf, z]⟩)
    have nF : a ∉ X.fs := by
      intro hm
      obtain ⟨e, he, q⟩ := List.mem_filterMap.mp hm
      exact nfr (List.mem_filterMap.mpr ⟨e, List.mem_cons_of_mem _ he, q⟩)
    exact clauses_run ok hN hs hf tk J nb (up.trans up3) na os ag fl3 nL nF hh w
  refine wpAny_mono ((hb _ _ caught tk2 PassesOwn.looking).run [] s σ H D (I.toTry _) h) ?_ (fun e s1 he => he)
  intro f s1 hsp
  cases f with
  | next => obtain ⟨σ', H', J', q⟩ := hsp; exact wpAny_execs_nil ⟨σ', H', J'.ofTry ok, q⟩
  | brk => obtain ⟨σ', H', J', q⟩ := hsp; exact ⟨σ', H', J'.ofTry ok, q⟩
  | cont => obtain ⟨σ', H', J', q⟩ := hsp; exact ⟨σ', H', J'.ofTry ok, q⟩
  | ret u => obtain ⟨v, σ', H', J', r, q⟩ := hsp; exact ⟨v, σ', H', J'.ofTry ok, r, q⟩
end
end DL
/-! ## DLl.lean -/
set_option Elab.async false
set_option linter.all false
set_option maxRecDepth 100000
set_option maxHeartbeats 4000000
namespace DL
open PySem PySem.Spec PyProof.Rows L2

/-- what is known of an exception class named x, at C -/
structure EcT (K : PySem.W.Frag) (mg : Str → Option Value) (x : Str) (C : Addr) : Prop where
  gC : mg x = some (.ref C)
  cl : (PySem.W.clsIn K C).isSome = true
  ga : PySem.W.findIn K (.ref C) "__getattribute__" = some (some (.builtin "BaseException.__getattribute__"))
  gg : PySem.W.findIn K (.ref C) "__getattr__" = some none
  exC : PySem.W.subIn K (.ref C) (.type "BaseException") = some true
  hdC : PySem.W.hasDictIn K C = true
  ha : PySem.W.findIn K (.ref C) "__class__" = some (some (.builtin "object.__class__"))
  hn : PySem.W.specialIn K (.builtin "object.__class__") "__get__" = some (some (.builtin "getset_descriptor.__get__"))
  ht : PySem.W.takesIn K (.builtin "object.__class__") = some true
  hm : PySem.W.mroIn K C (.type "object") = some true
/-- isinstance(e, P), e the exception that the suite holds -/
def rIsEx (K : PySem.W.Frag) (C a : Addr) (d : Option Addr) : List V → Hp → VK → Prop := fun xs H Q => ∃ (c : V) (cv : Value) (b : Bool), xs = [.ref a, c] ∧ (∀ u, RelV c u → u = cv) ∧ PySem.W.kitOne K (.ref C) cv = some b ∧ (d = none ∨ ∃ dd fs, d = some dd ∧ H dd = some (.xd fs)) ∧ Q (.bl b) H
theorem call_isEx {X : Cx} {a C : Addr} {x : Str} {oe : Obj} {d : Option Addr} {pn : List (Addr × Obj)} (T : EcT X.K X.mg x C) (hz : Zc (.ref C) d oe) (hf : ∃ vs, oe.data = .fields vs) : CallR (X.suite a ((a, oe) :: pn)) (.builtin "isinstance") (rIsEx X.K C a d) := by
  intro pins s σ H xs us Q I r h
  obtain ⟨c, cv, b, rfl, hcv, e, hd, q⟩ := h
  obtain ⟨u1, u2, rfl, r1, r2⟩ := vals2 r
  cases (show u1 = Value.ref a from r1)
  cases hcv _ r2
  obtain ⟨hget, _⟩ := I.pin (a, oe) (List.mem_append_left _ List.mem_cons_self)
  obtain ⟨vs, hv⟩ := hf
  have J : ∃ od, PySem.W.InstAt s.heap a oe C od := by
    rcases hd with hd | ⟨dd, fs, hd, hx⟩
    · exact ⟨none, hget, hz.1, by unfold PySem.W.notCls; rw [hv] <;> rfl, by rw [hz.2, hd]; trivial⟩
    · obtain ⟨mA, hns, _⟩ := (show ObjOk X.prog X.w H s.heap dd (.xd fs) from I.hok dd _ hx)
      obtain ⟨od, ho, _⟩ := lookIn_ns hns
      exact ⟨some od, hget, hz.1, by unfold PySem.W.notCls; rw [hv] <;> rfl, by rw [hz.2, hd]; exact ho⟩
  obtain ⟨od, J⟩ := J
  exact PySem.W.kia_one (PySem.W.kitx_exc T.cl T.ga T.gg T.exC T.ha T.hn T.ht T.hm) I.kIn J e (fun z => nomatch z) fun tk => ⟨.bl b, H, I.kept (t' := tk) fun _ _ z => z, rfl, q⟩

section
variable {X : Cx} {Wx : WX}
/-- a suite that returns data of the exception's fields -/
structure DC (X : Cx) (C : Addr) (i : Nat) (suite : List Stmt) (t : List (Str × D) → Option B) : Prop where
  run : ∀ (a : Addr) (oe : Obj) (d : Option Addr) (pn : List (Addr × Obj)), Zc (.ref C) d oe → (∃ vs, oe.data = .fields vs) → ∃ ts : TS, PSs (X.suite a ((a, oe) :: pn)) suite ts ∧
    ∀ (De : Ends) (σ : L2.St) (H Hf : Hp) (fs : List (Str × D)) (b : B), Same Hf H → σ[i]? = some (some (.ref a)) → t fs = some b → (fs = [] ∧ d = none ∨ ∃ dd ys, d = some dd ∧ Hf dd = some (.xd ys) ∧ FsRep X.K Hf ys fs) →
      (∀ x H' Hf', Grow X.K H Hf H' Hf' x b → De.rt x H') → ts De σ H
theorem fs_look {K : PySem.W.Frag} {Hf : Hp} {n : Str} {d : D} : ∀ {ys : List (Str × V)} {fs : List (Str × D)}, FsRep K Hf ys fs → fs.lookup n = some d → ∃ y, ys.lookup n = some y ∧ Dp K Hf y d
  | _, [], h, e => by cases e
  | _, (m, e) :: fs, h, q => by
    cases h with
    | cons h1 h2 =>
      rename_i p ys
      obtain ⟨m', y⟩ := p
      obtain ⟨e1, e2⟩ := h1
      dsimp only at e1 e2
      subst e1
      rw [List.lookup_cons] at q
      rw [List.lookup_cons]
      split at q
      · rename_i c
        cases q
        exact ⟨y, rfl, e2⟩
      · rename_i c
        obtain ⟨y', k1, k2⟩ := fs_look h2 q
        exact ⟨y', k1, k2⟩
open Classical in
/-- [a text, repr(e.value), isinstance(e, P)] -/
noncomputable def tVal (s : Str) (fs : List (Str × D)) : Option B := match fs.lookup ("value" : Str) with
  | some d => if ReprOk d then some (.mu [.str s, .str d.shown, .bool true]) else none
  | none => none
/-- [a text, a text, isinstance(e, P)] -/
def tBare (s s2 : Str) (_ : List (Str × D)) : Option B := some (.mu [.str s, .str s2, .bool true])
variable {x P2 : Str} {C CP : Addr} {i : Nat} {k : Nat}
theorem dc_val {en : Str} {s : Str} {j : Nat} {q1 q2 q3 q4 q5 q6 q7 q8 q9 q10 q11 : Pos} (T : EcT X.K X.mg x C) (nv : PySem.W.findIn X.K (.ref C) "value" = some none) (gP : X.mg P2 = some (.ref CP)) (hk : PySem.W.kitOne X.K (.ref C) (.ref CP) = some true)
    (hN : X.N[i]? = some en) (hv : Vis X.env.scope en) (gd : X.A.guards = some []) (hu : X.A.units + 64 < cLine) (hgr : Gl X "repr") (hmr : X.mg "repr" = none) (hgi : Gl X "isinstance") (hmi : X.mg "isinstance" = none) (hgp : Gl X P2)
    (hd1 : (en == ("__debug__" : Str)) = false := by decide) (hd2 : (en == ("__classdict__" : Str)) = false := by decide) (hd3 : (P2 == ("__debug__" : Str)) = false := by decide) :
    DC X C i [.Return (some (.List [.Constant (.str s) j q1, .Call (.Name "repr" q2) [.Attribute (.Name en q3) "value" q4] [] q5, .Call (.Name "isinstance" q6) [.Name en q7, .Name P2 q8] [] q9] q10)) q11] (tVal s) := by
  refine ⟨fun a oe d pn hz hf => ?_⟩
  have pe_e : ∀ p, PE (X.suite a ((a, oe) :: pn)) (.Name en p) (tVar i) := fun p => pe_var hN hv hd1 hd2
  have T' : EcT (X.suite a ((a, oe) :: pn)).K (X.suite a ((a, oe) :: pn)).mg x C := T
  have t1 : PE (X.suite a ((a, oe) :: pn)) (.Call (.Name "repr" q2) [.Attribute (.Name en q3) "value" q4] [] q5) _ :=
    pe_callB (callr_repr (X := X.suite a ((a, oe) :: pn)) gd hu) hgr hmr (by decide +kernel) (pa_cons (pe_xf (X := X) ⟨T.ga, T.gg, T.exC, T.hdC⟩ nv hz hf (pe_e q3)) pa_nil)
  have t2 : PE (X.suite a ((a, oe) :: pn)) (.Call (.Name "isinstance" q6) [.Name en q7, .Name P2 q8] [] q9) _ :=
    pe_callB (call_isEx (X := X) T hz hf) hgi hmi boot_isinstance (pa_cons (pe_e q7) (pa_cons (pe_glob (v := .ref CP) (X := X.suite a ((a, oe) :: pn)) hgp gP rfl hd3) pa_nil))
  refine ⟨_, pss_one (ps_ret (pe_lst (pa_cons pe_str (pa_cons t1 (pa_cons t2 pa_nil))))), fun D σ H Hf fs b f hs ht hfs k => ?_⟩
  unfold tVal at ht
  cases e1 : fs.lookup ("value" : Str) with
  | none => rw [e1] at ht; cases ht
  | some dv =>
    rw [e1] at ht
    by_cases c : ReprOk dv
    · have ht' := ht
      dsimp only at ht'
      rw [if_pos c] at ht'
      cases ht'
      rcases hfs with ⟨e2, _⟩ | ⟨dd, ys, e2, e3, e4⟩
      · subst e2; cases e1
      · obtain ⟨y, hy, hd⟩ := fs_look e4 e1
        refine ⟨.ref a, hs, rfl, rfl, dd, ys, y, e2, f _ _ e3, hy, ?_⟩
        refine ⟨y, dv, rfl, dp_mono f dv y hd, c, ?_⟩
        refine ⟨.ref a, hs, ?_⟩
        refine ⟨.ref CP, .ref CP, true, rfl, fun u h => h, hk, .inr ⟨dd, ys, e2, f _ _ e3⟩, ?_⟩
        refine ⟨by show 3 ≤ sizeLine; decide, fun p hp => ?_⟩
        exact k (.ref p) _ _ (Grow.lst f hp (.cons (.str _) (.cons (.str _) (.cons (.bl _) .nil))))
    · have ht' := ht
      dsimp only at ht'
      rw [if_neg c] at ht'; cases ht'
theorem dc_bare {en : Str} {s s2 : Str} {j j2 : Nat} {q1 q2 q6 q7 q8 q9 q10 q11 : Pos} (T : EcT X.K X.mg x C) (gP : X.mg P2 = some (.ref CP)) (hk : PySem.W.kitOne X.K (.ref C) (.ref CP) = some true)
    (hN : X.N[i]? = some en) (hv : Vis X.env.scope en) (hgi : Gl X "isinstance") (hmi : X.mg "isinstance" = none) (hgp : Gl X P2)
    (hd1 : (en == ("__debug__" : Str)) = false := by decide) (hd2 : (en == ("__classdict__" : Str)) = false := by decide) (hd3 : (P2 == ("__debug__" : Str)) = false := by decide) :
    DC X C i [.Return (some (.List [.Constant (.str s) j q1, .Constant (.str s2) j2 q2, .Call (.Name "isinstance" q6) [.Name en q7, .Name P2 q8] [] q9] q10)) q11] (tBare s s2) := by
  refine ⟨fun a oe d pn hz hf => ?_⟩
  have pe_e : ∀ p, PE (X.suite a ((a, oe) :: pn)) (.Name en p) (tVar i) := fun p => pe_var hN hv hd1 hd2
  have t2 : PE (X.suite a ((a, oe) :: pn)) (.Call (.Name "isinstance" q6) [.Name en q7, .Name P2 q8] [] q9) _ :=
    pe_callB (call_isEx (X := X) T hz hf) hgi hmi boot_isinstance (pa_cons (pe_e q7) (pa_cons (pe_glob (v := .ref CP) (X := X.suite a ((a, oe) :: pn)) hgp gP rfl hd3) pa_nil))
  refine ⟨_, pss_one (ps_ret (pe_lst (pa_cons pe_str (pa_cons pe_str (pa_cons t2 pa_nil))))), fun D σ H Hf fs b f hs ht hfs k => ?_⟩
  cases ht
  refine ⟨.ref a, hs, .ref CP, .ref CP, true, rfl, fun u h => h, hk, ?_, ?_⟩
  · rcases hfs with ⟨_, e2⟩ | ⟨dd, ys, e2, e3, _⟩
    · exact .inl e2
    · exact .inr ⟨dd, ys, e2, f _ _ e3⟩
  · refine ⟨by show 3 ≤ sizeLine; decide, fun p hp => ?_⟩
    exact k (.ref p) _ _ (Grow.lst f hp (.cons (.str _) (.cons (.str _) (.cons (.bl _) .nil))))

/-! ### try .. except X as e: a return of data, several clauses -/
/-- a clause on data: the class's name, the name's slot, what is returned -/
structure Cl where
  c : Str
  i : Nat
  t : List (Str × D) → Option B
/-- the first clause that takes it: what it returns -/
def pick (sub : Str → Str → Bool) (e : Exn) : List Cl → Option (Option B)
  | [] => none
  | h :: r => if sub e.1 h.c = true then some (h.t e.2) else pick sub e r
def sTry (names : List Str) (sub : Str → Str → Bool) (t : Gm → SR) (hs : List Cl) (g : Gm) : SR := match t g with
  | .ex e g1 => if (names.contains e.1 && hs.all fun h => decide (h.i < g1.length)) = true then (match pick sub e hs with
    | some (some b) => if okB b = true then .rt b g1 else .no
    | some none => .no
    | none => .ex e g1) else .no
  | r => r
/-- the clauses of the text -/
inductive ClD (X : Cx) (names : List Str) (sub : Str → Str → Bool) : List ExceptHandler → List Cl → Prop
  | nil : ClD X names sub [] []
  | cons {c n : Str} {C : Addr} {i : Nat} {t : List (Str × D) → Option B} {b₀ : Stmt} {suite : List Stmt} {np pos' : Pos} {hds : List ExceptHandler} {l : List Cl} (hi : X.N[i]? = some n) (hln : X.env.kindOf n = some .local) (hg : Gl X c) (hdb : (c == ("__debug__" : Str)) = false) (gC : X.mg c = some (.ref C))
      (hsub : ∀ y ∈ names, ∀ Y, X.mg y = some (.ref Y) → PySem.W.exmOne X.K (.ref Y) (.ref C) = some (sub y c)) (hsame : ∀ y ∈ names, sub y c = true → y = c) (hd : DC X C i (b₀ :: suite) t) (hio : True) (r : ClD X names sub hds l) :
      ClD X names sub (.ExceptHandler (some (.Name c np)) (some n) (b₀ :: suite) pos' :: hds) (⟨c, i, t⟩ :: l)
/-- the clauses' readings: C's suite, where the exception's class is C; else nothing is known -/
theorem cl_ok {names : List Str} {sub : Str → Str → Bool} : ∀ {hds : List ExceptHandler} {l : List Cl}, ClD X names sub hds l → ∃ l' : List Clause, ClOk X hds l' ∧
    ∀ (De : Ends) (Wout : WX) (σ : L2.St) (H Hf : Hp) (e : Exn) (cls : Value) (d : Option Addr), Same Hf H → names.contains e.1 = true → IsEx X.K X.mg Hf cls d e → (∀ h ∈ l, h.i < σ.length) →
      (∀ b, pick sub e l = some (some b) → ∀ x H' Hf', Grow X.K H Hf H' Hf' x b → De.rt x H') → pick sub e l ≠ some none → (pick sub e l = none → Wout cls d σ H) → wAsM X.K Wout De l' cls d σ H
  | _, _, .nil => ⟨[], .nil, fun D Wout σ H Hf e cls d f hn ie hl h1 h2 h3 => h3 rfl⟩
  | _, _, .cons (l := l0) (c := c) (n := n) (C := C) (i := i) (t := t) (b₀ := b₀) (suite := suite) hi hln hg hdb gC hsub hsame hd hio r => by
    obtain ⟨l', hl', hr⟩ := cl_ok r
    refine ⟨(.ref C, i, fun a cls d => fun D σ H => cls = .ref C ∧ ∃ fs b Hf, Same Hf H ∧ σ[i]? = some (some (.ref a)) ∧ t fs = some b ∧ (fs = [] ∧ d = none ∨ ∃ dd ys, d = some dd ∧ Hf dd = some (.xd ys) ∧ FsRep X.K Hf ys fs) ∧ (∀ x H' Hf', Grow X.K H Hf H' Hf' x b → D.rt x H')) :: l',
      .cons hi hln ⟨hg, hdb, .inl gC⟩ (fun a oe cls d pn hz hf => ?_) hl', fun D Wout σ H Hf e cls d f hn ie hl h1 h2 h3 => ?_⟩
    · by_cases ec : cls = .ref C
      · subst ec
        obtain ⟨ts, hts, k⟩ := hd.run a oe d pn hz hf
        exact PSs.imp hts fun D σ H ⟨_, fs, b, Hf, f, hs, ht, hfs, q⟩ => k D σ H Hf fs b f hs ht hfs q
      · exact PSs.imp pss_never fun D σ H ⟨e, _⟩ => ec e
    · obtain ⟨Y, gY, ecl, hfs⟩ := ie
      have hm : e.1 ∈ names := by simpa using hn
      refine ⟨sub e.1 c, by rw [ecl]; exact hsub e.1 hm Y gY, fun hy a ha => ?_, fun hno => ?_⟩
      · have en := hsame e.1 hm hy
        rw [en] at gY
        rw [gC] at gY
        cases gY
        have ep : pick sub e (⟨c, i, t⟩ :: l0) = some (t e.2) := if_pos hy
        cases et : t e.2 with
        | none => rw [et] at ep; exact absurd ep h2
        | some b =>
          rw [et] at ep
          have il : i < σ.length := hl _ List.mem_cons_self
          refine ⟨ecl, e.2, b, Hf, f, List.getElem?_set_self il, et, ?_, fun x H' Hf' G => h1 b ep x H' Hf' G⟩
          exact hfs
      · have ep : pick sub e (⟨c, i, t⟩ :: l0) = pick sub e l0 := if_neg (by rw [hno]; decide)
        rw [ep] at h1 h2 h3
        exact hr D Wout σ H Hf e cls d f hn ⟨Y, gY, ecl, hfs⟩ (fun h m => hl h (List.mem_cons_of_mem _ m)) h1 h2 h3

theorem Stx.base {K : PySem.W.Frag} {Z : Zs} {g : Gm} {σ : L2.St} {ps : List (V × W)} {H Hf : Hp} (S : Stx K Z g σ ps H Hf) : Stx K { Z with Hf := Hf } g σ ps H Hf :=
  ⟨S.len, S.frz, S.out, Same.refl _, fun _ _ e => .inl e, S.iol, fun p hp => by have := S.rel p hp; exact this, S.nod, S.als⟩
theorem Stx.back {K : PySem.W.Frag} {Z : Zs} {g g' : Gm} {σ σ' : L2.St} {ps qs : List (V × W)} {H H' Hf Hf' : Hp} (S0 : Stx K Z g σ ps H Hf) (S : Stx K { Z with Hf := Hf } g' σ' qs H' Hf') : Stx K Z g' σ' qs H' Hf' :=
  ⟨S.len, S.frz, S.out, S0.old.trans S.old, fun b o e => (S.new b o e).elim (fun h => S0.new b o h) .inr, S.iol, fun p hp => by have := S.rel p hp; exact this, S.nod, S.als⟩
theorem ds_try {names : List Str} {sub : Str → Str → Bool} {cl : List Cl} {t : Gm → SR} {Wx : WX} {body : List Stmt} {h0 : ExceptHandler} {hds : List ExceptHandler} {pos : Pos} (hs : X.stack = X.env :: X.outer) (hf : X.env.frame = some X.env.locals) (hN : X.N.Nodup) (tk : Takes X Wx)
    (hb : ∀ (W : WX) (pn : List (Addr × Obj)) (xe : Value → Shared → Prop), Takes (X.tr pn xe) W → PassesOwn (model X.prog X.w) X.A X.env xe → DSs (X.tr pn xe) W body t) (hh : ClD X names sub (h0 :: hds) cl) :
    DS X Wx (.Try body (h0 :: hds) [] [] pos) (sTry names sub t cl) := by
  obtain ⟨l', hl', hr⟩ := cl_ok hh
  refine ⟨PS.imp (ps_tryM (tb := fun W De σ H => ∃ Z g Hf, Stx X.K Z g σ [] H Hf ∧ SEnd X W Z Hf De (t g)) hs hf hN tk (fun W pn xe h1 h2 => PSs.imp (hb W pn xe h1 h2).ps fun De σ H ⟨Z, g, Hf, S, q⟩ => ⟨Z, g, Hf, S, ?_⟩) hl') fun De σ H ⟨Z, g, Hf, S, q⟩ => ⟨{ Z with Hf := Hf }, g, Hf, S.base, ?_⟩⟩
  · cases et : t g with
    | nx g => rw [et] at q; exact q
    | rt b g => rw [et] at q; exact q
    | bk g => rw [et] at q; exact q
    | ct g => rw [et] at q; exact q
    | no => rw [et] at q; exact q
    | ex e g => rw [et] at q; exact q
  · unfold sTry at q
    cases et : t g with
    | nx g1 => rw [et] at q; intro σ1 H1 Hf1 s S1; exact q σ1 H1 Hf1 s (S.back S1)
    | rt b g1 => rw [et] at q; intro x σ1 H1 Hf1 s S1; exact q x σ1 H1 Hf1 s (S.back S1)
    | bk g1 => rw [et] at q; intro σ1 H1 Hf1 s S1; exact q σ1 H1 Hf1 s (S.back S1)
    | ct g1 => rw [et] at q; intro σ1 H1 Hf1 s S1; exact q σ1 H1 Hf1 s (S.back S1)
    | no => rw [et] at q; exact q
    | ex e g1 =>
      rw [et] at q
      intro σ1 cls d H1 Hf1 S1 ie
      dsimp only at q
      by_cases hn : (names.contains e.1 && cl.all fun h => decide (h.i < g1.length)) = true
      · rw [if_pos hn] at q
        simp only [Bool.and_eq_true, List.all_eq_true, decide_eq_true_eq] at hn
        have SB := S.back S1
        refine hr De Wx σ1 H1 Hf1 e cls d S1.frz hn.1 ie (fun h m => by rw [S1.len]; exact hn.2 h m) (fun b hb x H2 Hf2 G => ?_) (fun hb => ?_) (fun hb => ?_)
        · rw [hb] at q
          dsimp only at q
          by_cases c : okB b = true
          · rw [if_pos c] at q
            exact q x σ1 H2 Hf2 (S1.old.trans G.hf) (Stx.grow (ps := []) SB G)
          · rw [if_neg c] at q; exact q.elim
        · rw [hb] at q; exact q
        · rw [hb] at q
          exact q σ1 cls d H1 Hf1 SB ie
      · rw [if_neg hn] at q; exact q.elim
end
end DL
/-! ## DLm.lean -/
set_option Elab.async false
set_option linter.all false
set_option maxRecDepth 100000
set_option maxHeartbeats 4000000
namespace DL
open PySem PySem.Spec PyProof.Rows L2
section
variable {X : Cx} {Wx : WX} {Z : Zs} {σ : L2.St} {ps : List (V × W)} {H H' Hf Hf' : Hp} {g : Gm}
theorem de_cfn {x : Str} {id : String} {p pos : Pos} {e : Expr} {es : List Expr} {ta : Gm → Res (List W)} {r : List V → Hp → VK → Prop} {f : List D → Option B} (hc : CallR X (.builtin id) r) (hf : OpN X.K r f) (hg : Gl X x) (hm : X.mg x = some (.builtin id)) (ha : DA X Wx (e :: es) ta) (hdb : (x == ("__debug__" : Str)) = false := by decide)
    (he : starEach (e :: es) X.env = (false, eval e X.env) :: starEach es X.env := by rfl) (hpl : (backTo pos (starEach es X.env)).any (·.1) = false := by rfl) : DE X Wx (.Call (.Name x p) (e :: es) [] pos) (eOpN f ta) := ⟨PE.imp (pe_callBfun hc hg hm ha.pa hdb he hpl) fun σ H Q ⟨Z, g, ps, Hf, S, q⟩ => by
  refine giveA ha S q.bind fun ws g1 xs H1 Hf1 q1 s1 l S1 => ?_
  obtain ⟨c, e1, q3⟩ := put_end q1
  cases e2 : rdAll g1 ws with
  | none => rw [e2] at e1; simp at e1
  | some ds =>
    rw [e2] at e1
    refine hf H1 Hf1 xs ds c Q S1.frz (rdAll_ok S1 l (fun p hp => List.mem_append_right _ hp) e2) e1 fun z H3 Hf3 G => ?_
    exact q3 z H3 Hf3 (s1.trans G.hf) (S1.drop.grow G)⟩
theorem pe_tyname {x : Str} {T : String} {pos : Pos} (hg : Gl X x) (hm : X.mg x = none) (hv : bootBuiltins x = some (.type T)) (hn : x ≠ "__name__" := by decide) (hd : (x == ("__debug__" : Str)) = false := by decide) : PE X (.Name x pos) (tC (.ty T)) := pe_bltn hg hm hv rfl hn hd
theorem kbn_fun {K : PySem.W.Frag} {x qual : Str} {st : Stmt} {f : Addr} {fd : FuncData} {prs ks : List Str} {n : Nat} {is : List Nat} (F : Fun K x qual st f fd)
    (h : ∀ (kV doc pm : Value) (an : Option Addr) (cdv ct : Value) (us ws : List Value), us.length = n → ws.length = ks.length → bindArgs (PySem.W.fnOf x qual (defArgs st) (defBody st) (defScope st) .none kV doc pm an cdv ct) ⟨us, ks.zip ws⟩ = pure (prs.zip (permL is (us ++ ws)))) :
    KBn K fd prs n ks (fun us ws => permL is (us ++ ws)) (fun vs zs => permL is (vs ++ zs)) := by
  obtain ⟨oc, od, kV, doc, pm, an, cdv, ct, osl, rfl, lk, hcd⟩ := F.ex
  exact kbn_perm (h kV doc pm an cdv ct)
/-! ### a op b op c -/
def eCh (f f' : D → D → Option B) (ta tb tc : Gm → Res W) (g : Gm) : Res W := (ta g).bind fun w1 g1 => (tb g1).bind fun w2 g2 => match (rd g2 w1).bind fun d => (rd g2 w2).bind fun e => f d e with
  | some (.im (.bool true)) => (tc g2).bind fun w3 g3 => put g3 ((rd g3 w2).bind fun d => (rd g3 w3).bind fun e => f' d e)
  | some (.im (.bool false)) => .ok (.v (.im (.bool false))) g2
  | _ => .no
theorem de_chain {a b c : Expr} {ta tb tc : Gm → Res W} {op op' : CmpOp} {pos : Pos} {r r' : R2} {f f' : D → D → Option B} (ho : OpR X (compareOp op) r) (hf : Op2 X.K r f) (ho' : OpR X (compareOp op') r') (hf' : Op2 X.K r' f') (ha : DE X Wx a ta) (hb : DE X Wx b tb) (hc : DE X Wx c tc)
    (hm : lastMarks [op, op'] [b, c] = false := by with_unfolding_all rfl) : DE X Wx (.Compare a [op, op'] [b, c] pos) (eCh f f' ta tb tc) := ⟨PE.imp (pe_chain ho ho' ha.pe hb.pe hc.pe hm) fun σ H Q ⟨Z, g, ps, Hf, S, q⟩ => by
  refine giveE ha S q.bind fun w1 g1 x H1 Hf1 q1 s1 S1 => ?_
  refine giveE hb S1 q1.bind fun w2 g2 y H2 Hf2 q2 s2 S2 => ?_
  have q2' := q2
  cases e2 : rd g2 w1 with
  | none => rw [e2] at q2'; exact q2'.elim
  | some d =>
    cases e3 : rd g2 w2 with
    | none => rw [e2, e3] at q2'; exact q2'.elim
    | some d' =>
      rw [e2, e3] at q2'
      have m1 : (x, w1) ∈ (ps ++ [(x, w1)]) ++ [(y, w2)] := List.mem_append_left _ mem_last
      cases e4 : f d d' with
      | none => simp only [Option.bind_some, e4] at q2'; exact q2'.elim
      | some bb =>
        simp only [Option.bind_some, e4] at q2'
        refine hf H2 Hf2 x y d d' bb _ S2.frz (S2.rd m1 e2) (S2.rd mem_last e3) e4 fun z H3 Hf3 G => ?_
        cases bb with
        | im dd =>
          cases dd with
          | bool k =>
            have ez : z = .bl k := by
              have h : Dp X.K Hf3 z (.bool k) := G.is
              cases h; rfl
            have S3 : Stx X.K Z g2 σ ((ps ++ [(x, w1)]) ++ [(y, w2)]) H3 Hf3 := (S2.grow G).drop
            refine ⟨k, ez, ?_⟩
            cases k with
            | true =>
              rw [if_pos rfl]
              have q3 : GEnd X Wx Z σ (RP X Z σ ps Hf Q) ((tc g2).bind fun w3 g3 => put g3 ((rd g3 w2).bind fun d => (rd g3 w3).bind fun e => f' d e)) := q2'
              refine giveE hc S3 q3.bind fun w3 g3 u H4 Hf4 q4 s4 S4 => ?_
              obtain ⟨b4, e5, q5⟩ := put_end q4
              cases e6 : rd g3 w2 with
              | none => rw [e6] at e5; cases e5
              | some d2 =>
                cases e7 : rd g3 w3 with
                | none => rw [e6, e7] at e5; cases e5
                | some d3 =>
                  rw [e6, e7] at e5
                  have m2 : (y, w2) ∈ ((ps ++ [(x, w1)]) ++ [(y, w2)]) ++ [(u, w3)] := List.mem_append_left _ mem_last
                  refine hf' H4 Hf4 y u d2 d3 b4 Q S4.frz (S4.rd m2 e6) (S4.rd mem_last e7) e5 fun z5 H5 Hf5 G5 => ?_
                  rw [List.append_assoc, List.append_assoc] at S4
                  exact q5 z5 H5 Hf5 ((((s1.trans s2).trans G.hf).trans s4).trans G5.hf) (S4.drop.grow G5)
            | false =>
              rw [if_neg Bool.false_ne_true]
              have q3 : RP X Z σ ps Hf Q (.v (.im (.bool false))) g2 := q2'
              rw [List.append_assoc] at S3
              exact q3 (.bl false) H3 Hf3 ((s1.trans s2).trans G.hf) (S3.drop.pushIm (.bl false))
          | _ => exact q2'.elim
        | _ => exact q2'.elim⟩
end
/-! ### the law's end -/
theorem law_end {K : PySem.W.Frag} {mg : Str → Option Value} {den : List B → FR} {H : Hp} {a : Addr} {ns : List Int} {Q : VK} {E : XK} (hS : SqL K H a (ns.map V.int)) (h : ∃ o, den [.im (.list (ns.map PyData.int))] = .ok (.im (.bool true)) o) (hQ : ∀ H', Q (.bl true) H') : spD K mg den [.ref a] H Q E := by
  have S0 : Stx K ⟨H, H, none, .non⟩ ([] : Gm) [] [] H H := ⟨rfl, Same.refl _, fun b o e _ => e, Same.refl _, fun b o e => .inl e, (fun a e => by cases e), (fun p hp => by simp [rts] at hp), (fun a => by simp [rts, cnt]), (fun y j m => by simp at m)⟩
  refine ⟨⟨H, H, none, .non⟩, [.im (.list (ns.map PyData.int))], rfl, call_stx S0 (ds := [.list (ns.map PyData.int)]) (.cons (.lst hS (dpa_of_ints ns)) .nil), ?_⟩
  obtain ⟨o, h⟩ := h
  rw [h]
  intro x H' Hf' s S
  have r := S.rel (some x, .im (.bool true)) (by unfold rts; simp [root])
  obtain ⟨y, ey, hd⟩ := r
  cases ey
  cases hd
  exact hQ H'
end DL
/-! ## K10.lean -/
set_option Elab.async false
set_option linter.all false
set_option maxRecDepth 100000
set_option maxHeartbeats 4000000
namespace K10
open PySem PySem.Spec PyProof.Rows L2 DL
def topS (i : Nat) : Stmt := PySem.Challenge.pw_whichpaces_k10_ratios_reckoned.main.body.getD i (.Pass ⟨0, 0, 0, 0⟩)
def cNames : List Str := ["InvalidInteger", "InvalidRatio", "DividedByNought"]
def cSub (y c : Str) : Bool := (y == "InvalidInteger" && c == "InvalidInteger") || (y == "InvalidRatio" && c == "InvalidRatio") || (y == "DividedByNought" && c == "DividedByNought")
/-- what is known of the module's names -/
structure Gs (K : PySem.W.Frag) (mg : Str → Option Value) (fI c_PaceError c_StateError c_InvalidInteger c_InvalidRatio c_DividedByNought : Addr) : Prop where
  n_abs : mg "abs" = none
  n_bool : mg "bool" = none
  n_divmod : mg "divmod" = none
  n_int : mg "int" = none
  n_isinstance : mg "isinstance" = none
  n_len : mg "len" = none
  n_max : mg "max" = none
  n_range : mg "range" = none
  n_repr : mg "repr" = none
  n_sum : mg "sum" = none
  n_tuple : mg "tuple" = none
  m_gcd : mg "gcd" = some (.builtin "math.gcd")
  g_PaceError : mg "PaceError" = some (.ref c_PaceError)
  g_StateError : mg "StateError" = some (.ref c_StateError)
  g_InvalidInteger : mg "InvalidInteger" = some (.ref c_InvalidInteger)
  g_InvalidRatio : mg "InvalidRatio" = some (.ref c_InvalidRatio)
  g_DividedByNought : mg "DividedByNought" = some (.ref c_DividedByNought)
  v_InvalidInteger : PySem.LowV.VTxt K mg "InvalidInteger" c_InvalidInteger fI
  v_InvalidRatio : PySem.LowV.VTxt K mg "InvalidRatio" c_InvalidRatio fI
  x_DividedByNought : PySem.W.excIn K c_DividedByNought [.type "RuntimeError", .type "Exception", .type "BaseException", .type "object"] "RuntimeError.__new__" = true
  k_DividedByNought : PySem.W.keepIn K (.ref c_DividedByNought) = true
  e_DividedByNought : PySem.W.subIn K (.ref c_DividedByNought) (.type "BaseException") = some true
  t_DividedByNought : PySem.W.typeIn K (.ref c_DividedByNought) = some (.type "type")
  ec_InvalidRatio : EcT K mg "InvalidRatio" c_InvalidRatio
  ec_InvalidInteger : EcT K mg "InvalidInteger" c_InvalidInteger
  ec_DividedByNought : EcT K mg "DividedByNought" c_DividedByNought
  i_InvalidRatio_PaceError : PySem.W.kitOne K (.ref c_InvalidRatio) (.ref c_PaceError) = some true
  i_InvalidInteger_PaceError : PySem.W.kitOne K (.ref c_InvalidInteger) (.ref c_PaceError) = some true
  i_DividedByNought_StateError : PySem.W.kitOne K (.ref c_DividedByNought) (.ref c_StateError) = some true
  s_InvalidRatio : ∀ y ∈ cNames, ∀ Y, mg y = some (.ref Y) → PySem.W.exmOne K (.ref Y) (.ref c_InvalidRatio) = some (cSub y "InvalidRatio")
  s_InvalidInteger : ∀ y ∈ cNames, ∀ Y, mg y = some (.ref Y) → PySem.W.exmOne K (.ref Y) (.ref c_InvalidInteger) = some (cSub y "InvalidInteger")
  s_DividedByNought : ∀ y ∈ cNames, ∀ Y, mg y = some (.ref Y) → PySem.W.exmOne K (.ref Y) (.ref c_DividedByNought) = some (cSub y "DividedByNought")
/-- what is known of a def -/
def RF (K : PySem.W.Frag) (mg : Str → Option Value) (x : Str) (st : Stmt) (ps : List Str) : Prop := ∃ f fd, Fun K x x st f fd ∧ mg x = some (.ref f) ∧ PySem.W.keepIn K (.ref f) = true ∧ Binds K fd ps []
def KF (P : Program) (w : World) (K : PySem.W.Frag) (mg : Str → Option Value) (base : Heap) (k : Nat) (x : Str) (st : Stmt) (ps : List Str) (den : List B → FR) : Prop := ∃ f fd, Fun K x x st f fd ∧ Kn P w K mg base k x f fd ps den
abbrev s__law_pot : Stmt := topS 29
theorem sc__law_pot : FnScope ["script", "k", "cell", "start"] ["script", "k"] (defScope s__law_pot) := ⟨rfl, rfl, rfl, by decide +kernel, rfl, by decide +kernel, by decide +kernel⟩
abbrev s__law_draw : Stmt := topS 30
theorem sc__law_draw : FnScope ["pot", "many", "digit"] ["pot", "many"] (defScope s__law_draw) := ⟨rfl, rfl, rfl, by decide +kernel, rfl, by decide +kernel, by decide +kernel⟩
abbrev s__law_whole : Stmt := topS 31
theorem sc__law_whole : FnScope ["pot", "way", "size"] ["pot"] (defScope s__law_whole) := ⟨rfl, rfl, rfl, by decide +kernel, rfl, by decide +kernel, by decide +kernel⟩
abbrev s__law_under : Stmt := topS 32
theorem sc__law_under : FnScope ["pot", "under"] ["pot"] (defScope s__law_under) := ⟨rfl, rfl, rfl, by decide +kernel, rfl, by decide +kernel, by decide +kernel⟩
abbrev s__law_least : Stmt := topS 33
theorem sc__law_least : FnScope ["number", "under", "one", "other"] ["number", "under"] (defScope s__law_least) := ⟨rfl, rfl, rfl, by decide +kernel, rfl, by decide +kernel, by decide +kernel⟩
abbrev s__law_is : Stmt := topS 36
theorem sc__law_is : FnScope ["told", "due"] ["told", "due"] (defScope s__law_is) := ⟨rfl, rfl, rfl, by decide +kernel, rfl, by decide +kernel, by decide +kernel⟩
abbrev s_is_integer : Stmt := topS 8
theorem sc_is_integer : FnScope ["value"] ["value"] (defScope s_is_integer) := ⟨rfl, rfl, rfl, by decide +kernel, rfl, by decide +kernel, by decide +kernel⟩
abbrev s_want_integer : Stmt := topS 9
theorem sc_want_integer : FnScope ["value"] ["value"] (defScope s_want_integer) := ⟨rfl, rfl, rfl, by decide +kernel, rfl, by decide +kernel, by decide +kernel⟩
abbrev s_bare_ratio : Stmt := topS 13
theorem sc_bare_ratio : FnScope ["number", "under", "shared"] ["number", "under"] (defScope s_bare_ratio) := ⟨rfl, rfl, rfl, by decide +kernel, rfl, by decide +kernel, by decide +kernel⟩
abbrev s_ratio_made : Stmt := topS 20
theorem sc_ratio_made : FnScope ["number", "under"] ["number", "under"] (defScope s_ratio_made) := ⟨rfl, rfl, rfl, by decide +kernel, rfl, by decide +kernel, by decide +kernel⟩
abbrev s_is_ratio : Stmt := topS 11
theorem sc_is_ratio : FnScope ["value"] ["value"] (defScope s_is_ratio) := ⟨rfl, rfl, rfl, by decide +kernel, rfl, by decide +kernel, by decide +kernel⟩
abbrev s_plus_of : Stmt := topS 14
theorem sc_plus_of : FnScope ["one", "other"] ["one", "other"] (defScope s_plus_of) := ⟨rfl, rfl, rfl, by decide +kernel, rfl, by decide +kernel, by decide +kernel⟩
abbrev s_want_ratio : Stmt := topS 12
theorem sc_want_ratio : FnScope ["value"] ["value"] (defScope s_want_ratio) := ⟨rfl, rfl, rfl, by decide +kernel, rfl, by decide +kernel, by decide +kernel⟩
abbrev s_ratio_plus : Stmt := topS 21
theorem sc_ratio_plus : FnScope ["ratio", "other"] ["ratio", "other"] (defScope s_ratio_plus) := ⟨rfl, rfl, rfl, by decide +kernel, rfl, by decide +kernel, by decide +kernel⟩
abbrev s_minus_of : Stmt := topS 15
theorem sc_minus_of : FnScope ["one", "other"] ["one", "other"] (defScope s_minus_of) := ⟨rfl, rfl, rfl, by decide +kernel, rfl, by decide +kernel, by decide +kernel⟩
abbrev s_ratio_minus : Stmt := topS 22
theorem sc_ratio_minus : FnScope ["ratio", "other"] ["ratio", "other"] (defScope s_ratio_minus) := ⟨rfl, rfl, rfl, by decide +kernel, rfl, by decide +kernel, by decide +kernel⟩
abbrev s_times_of : Stmt := topS 16
theorem sc_times_of : FnScope ["one", "other"] ["one", "other"] (defScope s_times_of) := ⟨rfl, rfl, rfl, by decide +kernel, rfl, by decide +kernel, by decide +kernel⟩
abbrev s_ratio_times : Stmt := topS 23
theorem sc_ratio_times : FnScope ["ratio", "other"] ["ratio", "other"] (defScope s_ratio_times) := ⟨rfl, rfl, rfl, by decide +kernel, rfl, by decide +kernel, by decide +kernel⟩
abbrev s_over_of : Stmt := topS 17
theorem sc_over_of : FnScope ["one", "other"] ["one", "other"] (defScope s_over_of) := ⟨rfl, rfl, rfl, by decide +kernel, rfl, by decide +kernel, by decide +kernel⟩
abbrev s_ratio_over : Stmt := topS 24
theorem sc_ratio_over : FnScope ["ratio", "other"] ["ratio", "other"] (defScope s_ratio_over) := ⟨rfl, rfl, rfl, by decide +kernel, rfl, by decide +kernel, by decide +kernel⟩
abbrev s_compared_of : Stmt := topS 18
theorem sc_compared_of : FnScope ["one", "other", "apart"] ["one", "other"] (defScope s_compared_of) := ⟨rfl, rfl, rfl, by decide +kernel, rfl, by decide +kernel, by decide +kernel⟩
abbrev s_ratio_compared : Stmt := topS 25
theorem sc_ratio_compared : FnScope ["ratio", "other"] ["ratio", "other"] (defScope s_ratio_compared) := ⟨rfl, rfl, rfl, by decide +kernel, rfl, by decide +kernel, by decide +kernel⟩
abbrev s_floor_of : Stmt := topS 19
theorem sc_floor_of : FnScope ["ratio"] ["ratio"] (defScope s_floor_of) := ⟨rfl, rfl, rfl, by decide +kernel, rfl, by decide +kernel, by decide +kernel⟩
abbrev s_ratio_floor : Stmt := topS 26
theorem sc_ratio_floor : FnScope ["ratio"] ["ratio"] (defScope s_ratio_floor) := ⟨rfl, rfl, rfl, by decide +kernel, rfl, by decide +kernel, by decide +kernel⟩
abbrev s__law_told : Stmt := topS 34
theorem sc__law_told : FnScope ["word", "one", "other"] ["word", "one", "other"] (defScope s__law_told) := ⟨rfl, rfl, rfl, by decide +kernel, rfl, by decide +kernel, by decide +kernel⟩
abbrev s__law_raised : Stmt := topS 35
theorem sc__law_raised : FnScope ["word", "one", "other", "e"] ["word", "one", "other"] (defScope s__law_raised) := ⟨rfl, rfl, rfl, by decide +kernel, rfl, by decide +kernel, by decide +kernel⟩
abbrev s__law_pair_right : Stmt := topS 37
theorem sc__law_pair_right : FnScope ["a", "b", "c", "d", "one", "other", "gap", "floor"] ["a", "b", "c", "d"] (defScope s__law_pair_right) := ⟨rfl, rfl, rfl, by decide +kernel, rfl, by decide +kernel, by decide +kernel⟩
abbrev s__law_odd : Stmt := topS 28
theorem sc__law_odd : FnScope [] [] (defScope s__law_odd) := ⟨rfl, rfl, rfl, by decide +kernel, rfl, by decide +kernel, by decide +kernel⟩
abbrev s__law_refusals_right : Stmt := topS 38
theorem sc__law_refusals_right : FnScope ["pot", "one", "some", "odd", "later", "word", "strange", "under"] ["pot", "one"] (defScope s__law_refusals_right) := ⟨rfl, rfl, rfl, by decide +kernel, rfl, by decide +kernel, by decide +kernel⟩
abbrev s_law : Stmt := topS 39
theorem sc_law : FnScope ["script", "k", "pot", "a", "b", "c", "d"] ["script"] (defScope s_law) := ⟨rfl, rfl, rfl, by decide +kernel, rfl, by decide +kernel, by decide +kernel⟩
section
variable {P : Program} {w : World} {K : PySem.W.Frag} {mg : Str → Option Value} {base : Heap} {fI c_PaceError c_StateError c_InvalidInteger c_InvalidRatio c_DividedByNought : Addr}
noncomputable def b__law_pot : Gm → SR := (sSeq (sSet 2 (eIf (tOf (eOp2 fLt (eV 1) (eOpN fLen (aCons (eV 0) aNil)))) (eOpN fAbs (aCons (eOp2 fIx (eV 0) (eV 1)) aNil)) (eOp2 fAdd (eOp2 fAdd (eOp2 fMul (eC (.int 613)) (eV 1)) (eC (.int 29))) (eOp2 fMod (eOpN fSum (aCons (eSl (eV 0) pNo (pSo (eC (.int 1)))) aNil)) (eC (.int 1000003))))))
  (sSeq (sSet 3 (eOp2 fAdd (eOp2 fMod (eOp2 fAdd (eOp2 fAdd (eOp2 fMul (eOp2 fMod (eV 2) (eC (.int 2147483549))) (eC (.int 40014))) (eOp2 fMul (eC (.int 9221)) (eV 1))) (eC (.int 57))) (eC (.int 2147483563))) (eC (.int 1))))
  (sRet (eLst (aConsE (eOpN fMax2 (aCons (eC (.int 0)) (aCons (eOp2 fSub (eV 2) (eOp2 fPow (eC (.int 10)) (eC (.int 18)))) aNil))) (aConsE (eV 3) aNilE))))))
noncomputable def d__law_pot : List B → FR := fnD 2 2 b__law_pot
theorem ok__law_pot (M : Gs K mg fI c_PaceError c_StateError c_InvalidInteger c_InvalidRatio c_DividedByNought) {f : Addr} {fd : FuncData} (F : Fun K "_law_pot" "_law_pot" s__law_pot f fd) : FnG P w K mg base 3 f fd ["script", "k"] (spD K mg d__law_pot) := by
  refine fn_ok (k := 2) (m := 2) (body := b__law_pot) F sc__law_pot rfl fun cdv A outer s H E hr => ?_
  have hu : (A.deeper (envOfC "_law_pot" (defScope s__law_pot) s.heap.objs.size f cdv)).units + 64 < cLine := by have := hr.rm.un; omega
  exact (dss_cons (ds_set (i := 2) sc__law_pot.nd rfl (Or.inl rfl) (de_if (dt_cmp op_lt op2_lt (de_v 1) (de_cb call_len opn_len rfl M.n_len boot_len (da_cons (de_v 0) da_nil)) (nomark _)) (de_cb call_abs opn_abs rfl M.n_abs boot_abs (da_cons (de_ix ix_any op2_ix (de_v 0) (de_v 1)) da_nil)) (de_bin op_addA op2_add (de_bin op_addA op2_add (de_bin op_mulW op2_mul de_int (de_v 1)) de_int) (de_bin op_modN op2_mod (de_cb (cr_sum rfl) opn_sum rfl M.n_sum boot_sum (da_cons (de_sl (de_v 0) do_none (do_some de_int)) da_nil)) de_int))))
    (dss_cons (ds_set (i := 3) sc__law_pot.nd rfl (Or.inl rfl) (de_bin op_addA op2_add (de_bin op_modN op2_mod (de_bin op_addA op2_add (de_bin op_addA op2_add (de_bin op_mulW op2_mul (de_bin op_modN op2_mod (de_v 2) de_int) de_int) (de_bin op_mulW op2_mul de_int (de_v 1))) de_int) de_int) de_int))
    (dss_one (ds_ret (de_lst (dae_cons (de_cb (call_max2 rfl) opn_max2 rfl M.n_max boot_max (da_cons de_int (da_cons (de_bin op_subA op2_sub (de_v 2) (de_bin op_pow op2_pow de_int de_int)) da_nil))) (dae_cons (de_v 3) dae_nil)))))))
theorem kf__law_pot (M : Gs K mg fI c_PaceError c_StateError c_InvalidInteger c_InvalidRatio c_DividedByNought) (R : RF K mg "_law_pot" s__law_pot ["script", "k"]) : KF P w K mg base 3 "_law_pot" s__law_pot ["script", "k"] d__law_pot := by
  obtain ⟨f, fd, F, gm, kp, bi⟩ := R
  exact ⟨f, fd, F, ⟨ok__law_pot M F, gm, kp, bi⟩⟩
noncomputable def b__law_draw : Gm → SR := (sSeq (sIf (tOf (eOp2 fGt (eOp2 fIx (eV 0) (eC (.int 0))) (eC (.int 0)))) (sSeq (sAsg (tgT [(tgI 0 (eC (.int 0))), (tgN (.nm 2))]) (eOpN fDivmod (aCons (eOp2 fIx (eV 0) (eC (.int 0))) (aCons (eV 1) aNil))))
  (sRet (eV 2))) sNext)
  (sSeq (sAsg (tgI 0 (eC (.int 1))) (eOp2 fMod (eOp2 fAdd (eOp2 fMul (eOp2 fIx (eV 0) (eC (.int 1))) (eC (.int 39373))) (eC (.int 9209))) (eC (.int 2147483587))))
  (sRet (eOp2 fMod (eOp2 fDiv (eOp2 fMod (eOp2 fMul (eOp2 fIx (eV 0) (eC (.int 1))) (eOp2 fIx (eV 0) (eC (.int 1)))) (eC (.int 2147483563))) (eC (.int 17))) (eV 1)))))
noncomputable def d__law_draw : List B → FR := fnD 2 1 b__law_draw
theorem ok__law_draw (M : Gs K mg fI c_PaceError c_StateError c_InvalidInteger c_InvalidRatio c_DividedByNought) {f : Addr} {fd : FuncData} (F : Fun K "_law_draw" "_law_draw" s__law_draw f fd) : FnG P w K mg base 3 f fd ["pot", "many"] (spD K mg d__law_draw) := by
  refine fn_ok (k := 2) (m := 1) (body := b__law_draw) F sc__law_draw rfl fun cdv A outer s H E hr => ?_
  have hu : (A.deeper (envOfC "_law_draw" (defScope s__law_draw) s.heap.objs.size f cdv)).units + 64 < cLine := by have := hr.rm.un; omega
  exact (dss_cons (ds_if (dt_cmp op_gt op2_gt (de_ix ix_any op2_ix (de_v 0) de_int) de_int (nomark _)) (dss_cons (ds_asg (de_cb call_divmodW opn_divmod rfl M.n_divmod boot_divmod (da_cons (de_ix ix_any op2_ix (de_v 0) de_int) (da_cons (de_v 1) da_nil))) (dgt_tup (n := 2) rfl (dgts_cons (dgt_ix (i := 0) (pv 0) de_int (fun h => pg_sub (pv 0) h set_list)) (dgts_cons (dgt_n (dg_nm (pg_name (i := 2) sc__law_draw.nd rfl (Or.inl rfl)))) dgts_nil (fun h1 h2 => pgs_cons h1 h2)) (fun h1 h2 => pgs_cons h1 h2)) rfl (fun h => pg_tup rfl h)))
    (dss_one (ds_ret (de_v 2)))) dss_nil)
    (dss_cons (ds_asg (de_bin op_modN op2_mod (de_bin op_addA op2_add (de_bin op_mulW op2_mul (de_ix ix_any op2_ix (de_v 0) de_int) de_int) de_int) de_int) (dgt_ix (i := 0) (pv 0) de_int (fun h => pg_sub (pv 0) h set_list)))
    (dss_one (ds_ret (de_bin op_modN op2_mod (de_bin op_divG op2_div (de_bin op_modN op2_mod (de_bin op_mulW op2_mul (de_ix ix_any op2_ix (de_v 0) de_int) (de_ix ix_any op2_ix (de_v 0) de_int)) de_int) de_int) (de_v 1))))))
theorem kf__law_draw (M : Gs K mg fI c_PaceError c_StateError c_InvalidInteger c_InvalidRatio c_DividedByNought) (R : RF K mg "_law_draw" s__law_draw ["pot", "many"]) : KF P w K mg base 3 "_law_draw" s__law_draw ["pot", "many"] d__law_draw := by
  obtain ⟨f, fd, F, gm, kp, bi⟩ := R
  exact ⟨f, fd, F, ⟨ok__law_draw M F, gm, kp, bi⟩⟩
noncomputable def b__law_whole : Gm → SR := (sSeq (sSet 1 (eCallIo d__law_draw 0 (aConsE (eC (.int 4)) aNilE)))
  (sSeq (sIf (tOf (eOp2 fEq (eV 1) (eC (.int 3)))) (sSeq (sSet 2 (eOp2 fAdd (eOp2 fMul (eCallIo d__law_draw 0 (aConsE (eOp2 fPow (eC (.int 10)) (eC (.int 6))) aNilE)) (eOp2 fPow (eC (.int 10)) (eC (.int 6)))) (eCallIo d__law_draw 0 (aConsE (eOp2 fPow (eC (.int 10)) (eC (.int 6))) aNilE))))
  (sRet (eIf (tOf (eOp2 fEq (eCallIo d__law_draw 0 (aConsE (eC (.int 2)) aNilE)) (eC (.int 0)))) (eV 2) (eOp1 fNeg (eV 2))))) sNext)
  (sRet (eOp2 fSub (eCallIo d__law_draw 0 (aConsE (eC (.int 25)) aNilE)) (eC (.int 12))))))
noncomputable def d__law_whole : List B → FR := fnD 1 2 b__law_whole
theorem ok__law_whole (M : Gs K mg fI c_PaceError c_StateError c_InvalidInteger c_InvalidRatio c_DividedByNought) (H__law_draw : KF P w K mg base 3 "_law_draw" s__law_draw ["pot", "many"] d__law_draw) {f : Addr} {fd : FuncData} (F : Fun K "_law_whole" "_law_whole" s__law_whole f fd) : FnG P w K mg base 4 f fd ["pot"] (spD K mg d__law_whole) := by
  obtain ⟨f__law_draw, fd__law_draw, ⟨F__law_draw, C__law_draw⟩⟩ := H__law_draw
  refine fn_ok (k := 3) (m := 2) (body := b__law_whole) F sc__law_whole rfl fun cdv A outer s H E hr => ?_
  have hu : (A.deeper (envOfC "_law_whole" (defScope s__law_whole) s.heap.objs.size f cdv)).units + 64 < cLine := by have := hr.rm.un; omega
  exact (dss_cons (ds_set (i := 1) sc__law_whole.nd rfl (Or.inl rfl) (de_callio (i := 0) C__law_draw (hr.mono (by decide)) (takes_of rfl rfl rfl rfl) (by rfl) (pv 0) (dae_cons de_int dae_nil)))
    (dss_cons (ds_if (dt_cmp (op_eqD hu) op2_eq (de_v 1) de_int (nomark _)) (dss_cons (ds_set (i := 2) sc__law_whole.nd rfl (Or.inl rfl) (de_bin op_addA op2_add (de_bin op_mulW op2_mul (de_callio (i := 0) C__law_draw (hr.mono (by decide)) (takes_of rfl rfl rfl rfl) (by rfl) (pv 0) (dae_cons (de_bin op_pow op2_pow de_int de_int) dae_nil)) (de_bin op_pow op2_pow de_int de_int)) (de_callio (i := 0) C__law_draw (hr.mono (by decide)) (takes_of rfl rfl rfl rfl) (by rfl) (pv 0) (dae_cons (de_bin op_pow op2_pow de_int de_int) dae_nil))))
    (dss_one (ds_ret (de_if (dt_cmp (op_eqD hu) op2_eq (de_callio (i := 0) C__law_draw (hr.mono (by decide)) (takes_of rfl rfl rfl rfl) (by rfl) (pv 0) (dae_cons de_int dae_nil)) de_int (nomark _)) (de_v 2) (de_un un_neg op1_neg (de_v 2)))))) dss_nil)
    (dss_one (ds_ret (de_bin op_subA op2_sub (de_callio (i := 0) C__law_draw (hr.mono (by decide)) (takes_of rfl rfl rfl rfl) (by rfl) (pv 0) (dae_cons de_int dae_nil)) de_int)))))
theorem kf__law_whole (M : Gs K mg fI c_PaceError c_StateError c_InvalidInteger c_InvalidRatio c_DividedByNought) (H__law_draw : KF P w K mg base 3 "_law_draw" s__law_draw ["pot", "many"] d__law_draw) (R : RF K mg "_law_whole" s__law_whole ["pot"]) : KF P w K mg base 4 "_law_whole" s__law_whole ["pot"] d__law_whole := by
  obtain ⟨f, fd, F, gm, kp, bi⟩ := R
  exact ⟨f, fd, F, ⟨ok__law_whole M H__law_draw F, gm, kp, bi⟩⟩
noncomputable def b__law_under : Gm → SR := (sSeq (sSet 1 (eCallIo d__law_whole 0 aNilE))
  (sRet (eIf (tOf (eOp2 fNe (eV 1) (eC (.int 0)))) (eV 1) (eOp2 fAdd (eC (.int 1)) (eCallIo d__law_draw 0 (aConsE (eC (.int 9)) aNilE))))))
noncomputable def d__law_under : List B → FR := fnD 1 1 b__law_under
theorem ok__law_under (M : Gs K mg fI c_PaceError c_StateError c_InvalidInteger c_InvalidRatio c_DividedByNought) (H__law_whole : KF P w K mg base 4 "_law_whole" s__law_whole ["pot"] d__law_whole) (H__law_draw : KF P w K mg base 3 "_law_draw" s__law_draw ["pot", "many"] d__law_draw) {f : Addr} {fd : FuncData} (F : Fun K "_law_under" "_law_under" s__law_under f fd) : FnG P w K mg base 5 f fd ["pot"] (spD K mg d__law_under) := by
  obtain ⟨f__law_whole, fd__law_whole, ⟨F__law_whole, C__law_whole⟩⟩ := H__law_whole
  obtain ⟨f__law_draw, fd__law_draw, ⟨F__law_draw, C__law_draw⟩⟩ := H__law_draw
  refine fn_ok (k := 4) (m := 1) (body := b__law_under) F sc__law_under rfl fun cdv A outer s H E hr => ?_
  have hu : (A.deeper (envOfC "_law_under" (defScope s__law_under) s.heap.objs.size f cdv)).units + 64 < cLine := by have := hr.rm.un; omega
  exact (dss_cons (ds_set (i := 1) sc__law_under.nd rfl (Or.inl rfl) (de_callio (i := 0) C__law_whole (hr.mono (by decide)) (takes_of rfl rfl rfl rfl) (by rfl) (pv 0) dae_nil))
    (dss_one (ds_ret (de_if (dt_cmp (op_neD hu) op2_ne (de_v 1) de_int (nomark _)) (de_v 1) (de_bin op_addA op2_add de_int (de_callio (i := 0) C__law_draw (hr.mono (by decide)) (takes_of rfl rfl rfl rfl) (by rfl) (pv 0) (dae_cons de_int dae_nil)))))))
theorem kf__law_under (M : Gs K mg fI c_PaceError c_StateError c_InvalidInteger c_InvalidRatio c_DividedByNought) (H__law_whole : KF P w K mg base 4 "_law_whole" s__law_whole ["pot"] d__law_whole) (H__law_draw : KF P w K mg base 3 "_law_draw" s__law_draw ["pot", "many"] d__law_draw) (R : RF K mg "_law_under" s__law_under ["pot"]) : KF P w K mg base 5 "_law_under" s__law_under ["pot"] d__law_under := by
  obtain ⟨f, fd, F, gm, kp, bi⟩ := R
  exact ⟨f, fd, F, ⟨ok__law_under M H__law_whole H__law_draw F, gm, kp, bi⟩⟩
noncomputable def b__law_least : Gm → SR := (sSeq (sIf (tOf (eOp2 fLt (eV 1) (eC (.int 0)))) (sPar [0, 1] (aCons (eOp1 fNeg (eV 0)) (aCons (eOp1 fNeg (eV 1)) aNil))) sNext)
  (sSeq (sPar [2, 3] (aCons (eOpN fAbs (aCons (eV 0) aNil)) (aCons (eV 1) aNil)))
  (sSeq (sWhile (tOf (eOp2 fNe (eV 2) (eC (.int 0)))) (sPar [2, 3] (aCons (eOp2 fMod (eV 3) (eV 2)) (aCons (eV 2) aNil))) 1000000000000000000000000000000000000000000000000000000000000)
  (sRet (eTup (aConsE (eOp2 fDiv (eV 0) (eV 3)) (aConsE (eOp2 fDiv (eV 1) (eV 3)) aNilE)))))))
noncomputable def d__law_least : List B → FR := fnD 2 2 b__law_least
theorem ok__law_least (M : Gs K mg fI c_PaceError c_StateError c_InvalidInteger c_InvalidRatio c_DividedByNought) {f : Addr} {fd : FuncData} (F : Fun K "_law_least" "_law_least" s__law_least f fd) : FnG P w K mg base 3 f fd ["number", "under"] (spD K mg d__law_least) := by
  refine fn_ok (k := 2) (m := 2) (body := b__law_least) F sc__law_least rfl fun cdv A outer s H E hr => ?_
  have hu : (A.deeper (envOfC "_law_least" (defScope s__law_least) s.heap.objs.size f cdv)).units + 64 < cLine := by have := hr.rm.un; omega
  exact (dss_cons (ds_if (dt_cmp op_lt op2_lt (de_v 1) de_int (nomark _)) (dss_one (ds_par2 (i := 0) (j := 1) rfl sc__law_least.nd rfl rfl (by decide) rfl rfl (da_cons (de_un un_neg op1_neg (de_v 0)) (da_cons (de_un un_neg op1_neg (de_v 1)) da_nil)) rfl)) dss_nil)
    (dss_cons (ds_par2 (i := 2) (j := 3) rfl sc__law_least.nd rfl rfl (by decide) rfl rfl (da_cons (de_cb call_abs opn_abs rfl M.n_abs boot_abs (da_cons (de_v 0) da_nil)) (da_cons (de_v 1) da_nil)) rfl)
    (dss_cons (ds_while (n := 1000000000000000000000000000000000000000000000000000000000000) (passes_of rfl) (dt_cmp (op_neD hu) op2_ne (de_v 2) de_int (nomark _)) (dss_one (ds_par2 (i := 2) (j := 3) rfl sc__law_least.nd rfl rfl (by decide) rfl rfl (da_cons (de_bin op_modN op2_mod (de_v 3) (de_v 2)) (da_cons (de_v 2) da_nil)) rfl)))
    (dss_one (ds_ret (de_tup (dae_cons (de_bin op_divG op2_div (de_v 0) (de_v 3)) (dae_cons (de_bin op_divG op2_div (de_v 1) (de_v 3)) dae_nil))))))))
theorem kf__law_least (M : Gs K mg fI c_PaceError c_StateError c_InvalidInteger c_InvalidRatio c_DividedByNought) (R : RF K mg "_law_least" s__law_least ["number", "under"]) : KF P w K mg base 3 "_law_least" s__law_least ["number", "under"] d__law_least := by
  obtain ⟨f, fd, F, gm, kp, bi⟩ := R
  exact ⟨f, fd, F, ⟨ok__law_least M F, gm, kp, bi⟩⟩
noncomputable def b__law_is : Gm → SR := (sRet (eOp2 fEq (eOpN fRepr (aCons (eV 0) aNil)) (eOpN fRepr (aCons (eV 1) aNil))))
noncomputable def d__law_is : List B → FR := fnD 2 0 b__law_is
theorem ok__law_is (M : Gs K mg fI c_PaceError c_StateError c_InvalidInteger c_InvalidRatio c_DividedByNought) {f : Addr} {fd : FuncData} (F : Fun K "_law_is" "_law_is" s__law_is f fd) : FnG P w K mg base 3 f fd ["told", "due"] (spD K mg d__law_is) := by
  refine fn_ok (k := 2) (m := 0) (body := b__law_is) F sc__law_is rfl fun cdv A outer s H E hr => ?_
  have hu : (A.deeper (envOfC "_law_is" (defScope s__law_is) s.heap.objs.size f cdv)).units + 64 < cLine := by have := hr.rm.un; omega
  exact (dss_one (ds_ret (de_cmp (op_eqD hu) op2_eq (de_cb (callr_repr hr.gd hu) opn_repr rfl M.n_repr boot_repr (da_cons (de_v 0) da_nil)) (de_cb (callr_repr hr.gd hu) opn_repr rfl M.n_repr boot_repr (da_cons (de_v 1) da_nil)) (nomark _))))
theorem kf__law_is (M : Gs K mg fI c_PaceError c_StateError c_InvalidInteger c_InvalidRatio c_DividedByNought) (R : RF K mg "_law_is" s__law_is ["told", "due"]) : KF P w K mg base 3 "_law_is" s__law_is ["told", "due"] d__law_is := by
  obtain ⟨f, fd, F, gm, kp, bi⟩ := R
  exact ⟨f, fd, F, ⟨ok__law_is M F, gm, kp, bi⟩⟩
noncomputable def b_is_integer : Gm → SR := (sRet (eAnd (eIsi "int" (eV 0)) (eNot (eIsi "bool" (eV 0)))))
noncomputable def d_is_integer : List B → FR := fnD 1 0 b_is_integer
theorem ok_is_integer (M : Gs K mg fI c_PaceError c_StateError c_InvalidInteger c_InvalidRatio c_DividedByNought) {f : Addr} {fd : FuncData} (F : Fun K "is_integer" "is_integer" s_is_integer f fd) : FnG P w K mg base 3 f fd ["value"] (spD K mg d_is_integer) := by
  refine fn_ok (k := 2) (m := 0) (body := b_is_integer) F sc_is_integer rfl fun cdv A outer s H E hr => ?_
  have hu : (A.deeper (envOfC "is_integer" (defScope s_is_integer) s.heap.objs.size f cdv)).units + 64 < cLine := by have := hr.rm.un; omega
  exact (dss_one (ds_ret (de_and (de_isi (de_v 0) rfl M.n_isinstance (pe_tyname (by rfl) M.n_int (by decide +kernel))) (de_and1 (de_not (de_isi (de_v 0) rfl M.n_isinstance (pe_tyname (by rfl) M.n_bool (by decide +kernel))))))))
theorem kf_is_integer (M : Gs K mg fI c_PaceError c_StateError c_InvalidInteger c_InvalidRatio c_DividedByNought) (R : RF K mg "is_integer" s_is_integer ["value"]) : KF P w K mg base 3 "is_integer" s_is_integer ["value"] d_is_integer := by
  obtain ⟨f, fd, F, gm, kp, bi⟩ := R
  exact ⟨f, fd, F, ⟨ok_is_integer M F, gm, kp, bi⟩⟩
noncomputable def b_want_integer : Gm → SR := (sSeq (sIf (tNo (tOf (eCall d_is_integer (aConsE (eV 0) aNilE)))) (sRaise1 "InvalidInteger" (aConsE (eV 0) aNilE)) sNext)
  (sRet (eV 0)))
noncomputable def d_want_integer : List B → FR := fnD 1 0 b_want_integer
theorem ok_want_integer (M : Gs K mg fI c_PaceError c_StateError c_InvalidInteger c_InvalidRatio c_DividedByNought) (H_is_integer : KF P w K mg base 3 "is_integer" s_is_integer ["value"] d_is_integer) {f : Addr} {fd : FuncData} (F : Fun K "want_integer" "want_integer" s_want_integer f fd) : FnG P w K mg base 4 f fd ["value"] (spD K mg d_want_integer) := by
  obtain ⟨f_is_integer, fd_is_integer, ⟨F_is_integer, C_is_integer⟩⟩ := H_is_integer
  refine fn_ok (k := 3) (m := 0) (body := b_want_integer) F sc_want_integer rfl fun cdv A outer s H E hr => ?_
  have hu : (A.deeper (envOfC "want_integer" (defScope s_want_integer) s.heap.objs.size f cdv)).units + 64 < cLine := by have := hr.rm.un; omega
  exact (dss_cons (ds_if (dt_not (dt_val (de_call C_is_integer (hr.mono (by decide)) (takes_of rfl rfl rfl rfl) (by rfl) (dae_cons (de_v 0) dae_nil)))) (dss_one (ds_raise1 (k := 1) rfl M.v_InvalidInteger (hr.mono (by decide)) (takes_of rfl rfl rfl rfl) (dae_cons (de_v 0) dae_nil) rfl)) dss_nil)
    (dss_one (ds_ret (de_v 0))))
theorem kf_want_integer (M : Gs K mg fI c_PaceError c_StateError c_InvalidInteger c_InvalidRatio c_DividedByNought) (H_is_integer : KF P w K mg base 3 "is_integer" s_is_integer ["value"] d_is_integer) (R : RF K mg "want_integer" s_want_integer ["value"]) : KF P w K mg base 4 "want_integer" s_want_integer ["value"] d_want_integer := by
  obtain ⟨f, fd, F, gm, kp, bi⟩ := R
  exact ⟨f, fd, F, ⟨ok_want_integer M H_is_integer F, gm, kp, bi⟩⟩
noncomputable def b_bare_ratio : Gm → SR := (sSeq (sSet 2 (eOpN fGcd (aCons (eV 0) (aCons (eV 1) aNil))))
  (sSeq (sIf (tOf (eOp2 fLt (eV 1) (eC (.int 0)))) (sSet 2 (eOp1 fNeg (eV 2))) sNext)
  (sRet (eTup (aConsE (eOp2 fDiv (eV 0) (eV 2)) (aConsE (eOp2 fDiv (eV 1) (eV 2)) aNilE))))))
noncomputable def d_bare_ratio : List B → FR := fnD 2 1 b_bare_ratio
theorem ok_bare_ratio (M : Gs K mg fI c_PaceError c_StateError c_InvalidInteger c_InvalidRatio c_DividedByNought) {f : Addr} {fd : FuncData} (F : Fun K "bare_ratio" "bare_ratio" s_bare_ratio f fd) : FnG P w K mg base 3 f fd ["number", "under"] (spD K mg d_bare_ratio) := by
  refine fn_ok (k := 2) (m := 1) (body := b_bare_ratio) F sc_bare_ratio rfl fun cdv A outer s H E hr => ?_
  have hu : (A.deeper (envOfC "bare_ratio" (defScope s_bare_ratio) s.heap.objs.size f cdv)).units + 64 < cLine := by have := hr.rm.un; omega
  exact (dss_cons (ds_set (i := 2) sc_bare_ratio.nd rfl (Or.inl rfl) (de_cfn cr_gcd opn_gcd rfl M.m_gcd (da_cons (de_v 0) (da_cons (de_v 1) da_nil))))
    (dss_cons (ds_if (dt_cmp op_lt op2_lt (de_v 1) de_int (nomark _)) (dss_one (ds_set (i := 2) sc_bare_ratio.nd rfl (Or.inl rfl) (de_un un_neg op1_neg (de_v 2)))) dss_nil)
    (dss_one (ds_ret (de_tup (dae_cons (de_bin op_divG op2_div (de_v 0) (de_v 2)) (dae_cons (de_bin op_divG op2_div (de_v 1) (de_v 2)) dae_nil)))))))
theorem kf_bare_ratio (M : Gs K mg fI c_PaceError c_StateError c_InvalidInteger c_InvalidRatio c_DividedByNought) (R : RF K mg "bare_ratio" s_bare_ratio ["number", "under"]) : KF P w K mg base 3 "bare_ratio" s_bare_ratio ["number", "under"] d_bare_ratio := by
  obtain ⟨f, fd, F, gm, kp, bi⟩ := R
  exact ⟨f, fd, F, ⟨ok_bare_ratio M F, gm, kp, bi⟩⟩
noncomputable def b_ratio_made : Gm → SR := (sSeq (sExpr (eCall d_want_integer (aConsE (eV 0) aNilE)))
  (sSeq (sIf (tOf (eOp2 fEq (eCall d_want_integer (aConsE (eV 1) aNilE)) (eC (.int 0)))) (sRaise1 "InvalidInteger" (aConsE (eV 1) aNilE)) sNext)
  (sRet (eCall d_bare_ratio (aConsE (eV 0) (aConsE (eV 1) aNilE))))))
noncomputable def d_ratio_made : List B → FR := fnD 2 0 b_ratio_made
theorem ok_ratio_made (M : Gs K mg fI c_PaceError c_StateError c_InvalidInteger c_InvalidRatio c_DividedByNought) (H_want_integer : KF P w K mg base 4 "want_integer" s_want_integer ["value"] d_want_integer) (H_bare_ratio : KF P w K mg base 3 "bare_ratio" s_bare_ratio ["number", "under"] d_bare_ratio) {f : Addr} {fd : FuncData} (F : Fun K "ratio_made" "ratio_made" s_ratio_made f fd) : FnG P w K mg base 5 f fd ["number", "under"] (spD K mg d_ratio_made) := by
  obtain ⟨f_want_integer, fd_want_integer, ⟨F_want_integer, C_want_integer⟩⟩ := H_want_integer
  obtain ⟨f_bare_ratio, fd_bare_ratio, ⟨F_bare_ratio, C_bare_ratio⟩⟩ := H_bare_ratio
  refine fn_ok (k := 4) (m := 0) (body := b_ratio_made) F sc_ratio_made rfl fun cdv A outer s H E hr => ?_
  have hu : (A.deeper (envOfC "ratio_made" (defScope s_ratio_made) s.heap.objs.size f cdv)).units + 64 < cLine := by have := hr.rm.un; omega
  exact (dss_cons (ds_expr (de_call C_want_integer (hr.mono (by decide)) (takes_of rfl rfl rfl rfl) (by rfl) (dae_cons (de_v 0) dae_nil)))
    (dss_cons (ds_if (dt_cmp (op_eqD hu) op2_eq (de_call C_want_integer (hr.mono (by decide)) (takes_of rfl rfl rfl rfl) (by rfl) (dae_cons (de_v 1) dae_nil)) de_int (nomark _)) (dss_one (ds_raise1 (k := 1) rfl M.v_InvalidInteger (hr.mono (by decide)) (takes_of rfl rfl rfl rfl) (dae_cons (de_v 1) dae_nil) rfl)) dss_nil)
    (dss_one (ds_ret (de_call C_bare_ratio (hr.mono (by decide)) (takes_of rfl rfl rfl rfl) (by rfl) (dae_cons (de_v 0) (dae_cons (de_v 1) dae_nil)))))))
theorem kf_ratio_made (M : Gs K mg fI c_PaceError c_StateError c_InvalidInteger c_InvalidRatio c_DividedByNought) (H_want_integer : KF P w K mg base 4 "want_integer" s_want_integer ["value"] d_want_integer) (H_bare_ratio : KF P w K mg base 3 "bare_ratio" s_bare_ratio ["number", "under"] d_bare_ratio) (R : RF K mg "ratio_made" s_ratio_made ["number", "under"]) : KF P w K mg base 5 "ratio_made" s_ratio_made ["number", "under"] d_ratio_made := by
  obtain ⟨f, fd, F, gm, kp, bi⟩ := R
  exact ⟨f, fd, F, ⟨ok_ratio_made M H_want_integer H_bare_ratio F, gm, kp, bi⟩⟩
noncomputable def b_is_ratio : Gm → SR := (sSeq (sIf (tOr' (tNo (tOf (eIsi "tuple" (eV 0)))) (tOr' (tOf (eOp2 fNe (eOpN fLen (aCons (eV 0) aNil)) (eC (.int 2)))) (tOr' (tNo (tOf (eCall d_is_integer (aConsE (eOp2 fIx (eV 0) (eC (.int 0))) aNilE)))) (tNo (tOf (eCall d_is_integer (aConsE (eOp2 fIx (eV 0) (eC (.int 1))) aNilE))))))) (sRet (eC (.bool false))) sNext)
  (sRet (eAnd (eOp2 fGe (eOp2 fIx (eV 0) (eC (.int 1))) (eC (.int 1))) (eOp2 fEq (eOpN fGcd (aCons (eOp2 fIx (eV 0) (eC (.int 0))) (aCons (eOp2 fIx (eV 0) (eC (.int 1))) aNil))) (eC (.int 1))))))
noncomputable def d_is_ratio : List B → FR := fnD 1 0 b_is_ratio
theorem ok_is_ratio (M : Gs K mg fI c_PaceError c_StateError c_InvalidInteger c_InvalidRatio c_DividedByNought) (H_is_integer : KF P w K mg base 3 "is_integer" s_is_integer ["value"] d_is_integer) {f : Addr} {fd : FuncData} (F : Fun K "is_ratio" "is_ratio" s_is_ratio f fd) : FnG P w K mg base 4 f fd ["value"] (spD K mg d_is_ratio) := by
  obtain ⟨f_is_integer, fd_is_integer, ⟨F_is_integer, C_is_integer⟩⟩ := H_is_integer
  refine fn_ok (k := 3) (m := 0) (body := b_is_ratio) F sc_is_ratio rfl fun cdv A outer s H E hr => ?_
  have hu : (A.deeper (envOfC "is_ratio" (defScope s_is_ratio) s.heap.objs.size f cdv)).units + 64 < cLine := by have := hr.rm.un; omega
  exact (dss_cons (ds_if (dt_w (dw_or (dt_not (dt_val (de_isi (de_v 0) rfl M.n_isinstance (pe_tyname (by rfl) M.n_tuple (by decide +kernel))))) (dw_or (dt_cmp (op_neD hu) op2_ne (de_cb call_len opn_len rfl M.n_len boot_len (da_cons (de_v 0) da_nil)) de_int (nomark _)) (dw_or (dt_not (dt_val (de_call C_is_integer (hr.mono (by decide)) (takes_of rfl rfl rfl rfl) (by rfl) (dae_cons (de_ix ix_any op2_ix (de_v 0) de_int) dae_nil)))) (dw_or1 (dt_not (dt_val (de_call C_is_integer (hr.mono (by decide)) (takes_of rfl rfl rfl rfl) (by rfl) (dae_cons (de_ix ix_any op2_ix (de_v 0) de_int) dae_nil))))))))) (dss_one (ds_ret de_bl)) dss_nil)
    (dss_one (ds_ret (de_and (de_cmp op_ge op2_ge (de_ix ix_any op2_ix (de_v 0) de_int) de_int (nomark _)) (de_and1 (de_cmp (op_eqD hu) op2_eq (de_cfn cr_gcd opn_gcd rfl M.m_gcd (da_cons (de_ix ix_any op2_ix (de_v 0) de_int) (da_cons (de_ix ix_any op2_ix (de_v 0) de_int) da_nil))) de_int (nomark _)))))))
theorem kf_is_ratio (M : Gs K mg fI c_PaceError c_StateError c_InvalidInteger c_InvalidRatio c_DividedByNought) (H_is_integer : KF P w K mg base 3 "is_integer" s_is_integer ["value"] d_is_integer) (R : RF K mg "is_ratio" s_is_ratio ["value"]) : KF P w K mg base 4 "is_ratio" s_is_ratio ["value"] d_is_ratio := by
  obtain ⟨f, fd, F, gm, kp, bi⟩ := R
  exact ⟨f, fd, F, ⟨ok_is_ratio M H_is_integer F, gm, kp, bi⟩⟩
noncomputable def b_plus_of : Gm → SR := (sRet (eCall d_bare_ratio (aConsE (eOp2 fAdd (eOp2 fMul (eOp2 fIx (eV 0) (eC (.int 0))) (eOp2 fIx (eV 1) (eC (.int 1)))) (eOp2 fMul (eOp2 fIx (eV 1) (eC (.int 0))) (eOp2 fIx (eV 0) (eC (.int 1))))) (aConsE (eOp2 fMul (eOp2 fIx (eV 0) (eC (.int 1))) (eOp2 fIx (eV 1) (eC (.int 1)))) aNilE))))
noncomputable def d_plus_of : List B → FR := fnD 2 0 b_plus_of
theorem ok_plus_of (M : Gs K mg fI c_PaceError c_StateError c_InvalidInteger c_InvalidRatio c_DividedByNought) (H_bare_ratio : KF P w K mg base 3 "bare_ratio" s_bare_ratio ["number", "under"] d_bare_ratio) {f : Addr} {fd : FuncData} (F : Fun K "plus_of" "plus_of" s_plus_of f fd) : FnG P w K mg base 4 f fd ["one", "other"] (spD K mg d_plus_of) := by
  obtain ⟨f_bare_ratio, fd_bare_ratio, ⟨F_bare_ratio, C_bare_ratio⟩⟩ := H_bare_ratio
  refine fn_ok (k := 3) (m := 0) (body := b_plus_of) F sc_plus_of rfl fun cdv A outer s H E hr => ?_
  have hu : (A.deeper (envOfC "plus_of" (defScope s_plus_of) s.heap.objs.size f cdv)).units + 64 < cLine := by have := hr.rm.un; omega
  exact (dss_one (ds_ret (de_call C_bare_ratio (hr.mono (by decide)) (takes_of rfl rfl rfl rfl) (by rfl) (dae_cons (de_bin op_addA op2_add (de_bin op_mulW op2_mul (de_ix ix_any op2_ix (de_v 0) de_int) (de_ix ix_any op2_ix (de_v 1) de_int)) (de_bin op_mulW op2_mul (de_ix ix_any op2_ix (de_v 1) de_int) (de_ix ix_any op2_ix (de_v 0) de_int))) (dae_cons (de_bin op_mulW op2_mul (de_ix ix_any op2_ix (de_v 0) de_int) (de_ix ix_any op2_ix (de_v 1) de_int)) dae_nil)))))
theorem kf_plus_of (M : Gs K mg fI c_PaceError c_StateError c_InvalidInteger c_InvalidRatio c_DividedByNought) (H_bare_ratio : KF P w K mg base 3 "bare_ratio" s_bare_ratio ["number", "under"] d_bare_ratio) (R : RF K mg "plus_of" s_plus_of ["one", "other"]) : KF P w K mg base 4 "plus_of" s_plus_of ["one", "other"] d_plus_of := by
  obtain ⟨f, fd, F, gm, kp, bi⟩ := R
  exact ⟨f, fd, F, ⟨ok_plus_of M H_bare_ratio F, gm, kp, bi⟩⟩
noncomputable def b_want_ratio : Gm → SR := (sSeq (sIf (tNo (tOf (eCall d_is_ratio (aConsE (eV 0) aNilE)))) (sRaise1 "InvalidRatio" (aConsE (eV 0) aNilE)) sNext)
  (sRet (eV 0)))
noncomputable def d_want_ratio : List B → FR := fnD 1 0 b_want_ratio
theorem ok_want_ratio (M : Gs K mg fI c_PaceError c_StateError c_InvalidInteger c_InvalidRatio c_DividedByNought) (H_is_ratio : KF P w K mg base 4 "is_ratio" s_is_ratio ["value"] d_is_ratio) {f : Addr} {fd : FuncData} (F : Fun K "want_ratio" "want_ratio" s_want_ratio f fd) : FnG P w K mg base 5 f fd ["value"] (spD K mg d_want_ratio) := by
  obtain ⟨f_is_ratio, fd_is_ratio, ⟨F_is_ratio, C_is_ratio⟩⟩ := H_is_ratio
  refine fn_ok (k := 4) (m := 0) (body := b_want_ratio) F sc_want_ratio rfl fun cdv A outer s H E hr => ?_
  have hu : (A.deeper (envOfC "want_ratio" (defScope s_want_ratio) s.heap.objs.size f cdv)).units + 64 < cLine := by have := hr.rm.un; omega
  exact (dss_cons (ds_if (dt_not (dt_val (de_call C_is_ratio (hr.mono (by decide)) (takes_of rfl rfl rfl rfl) (by rfl) (dae_cons (de_v 0) dae_nil)))) (dss_one (ds_raise1 (k := 1) rfl M.v_InvalidRatio (hr.mono (by decide)) (takes_of rfl rfl rfl rfl) (dae_cons (de_v 0) dae_nil) rfl)) dss_nil)
    (dss_one (ds_ret (de_v 0))))
theorem kf_want_ratio (M : Gs K mg fI c_PaceError c_StateError c_InvalidInteger c_InvalidRatio c_DividedByNought) (H_is_ratio : KF P w K mg base 4 "is_ratio" s_is_ratio ["value"] d_is_ratio) (R : RF K mg "want_ratio" s_want_ratio ["value"]) : KF P w K mg base 5 "want_ratio" s_want_ratio ["value"] d_want_ratio := by
  obtain ⟨f, fd, F, gm, kp, bi⟩ := R
  exact ⟨f, fd, F, ⟨ok_want_ratio M H_is_ratio F, gm, kp, bi⟩⟩
noncomputable def b_ratio_plus : Gm → SR := (sRet (eCall d_plus_of (aConsE (eCall d_want_ratio (aConsE (eV 0) aNilE)) (aConsE (eCall d_want_ratio (aConsE (eV 1) aNilE)) aNilE))))
noncomputable def d_ratio_plus : List B → FR := fnD 2 0 b_ratio_plus
theorem ok_ratio_plus (M : Gs K mg fI c_PaceError c_StateError c_InvalidInteger c_InvalidRatio c_DividedByNought) (H_plus_of : KF P w K mg base 4 "plus_of" s_plus_of ["one", "other"] d_plus_of) (H_want_ratio : KF P w K mg base 5 "want_ratio" s_want_ratio ["value"] d_want_ratio) {f : Addr} {fd : FuncData} (F : Fun K "ratio_plus" "ratio_plus" s_ratio_plus f fd) : FnG P w K mg base 6 f fd ["ratio", "other"] (spD K mg d_ratio_plus) := by
  obtain ⟨f_plus_of, fd_plus_of, ⟨F_plus_of, C_plus_of⟩⟩ := H_plus_of
  obtain ⟨f_want_ratio, fd_want_ratio, ⟨F_want_ratio, C_want_ratio⟩⟩ := H_want_ratio
  refine fn_ok (k := 5) (m := 0) (body := b_ratio_plus) F sc_ratio_plus rfl fun cdv A outer s H E hr => ?_
  have hu : (A.deeper (envOfC "ratio_plus" (defScope s_ratio_plus) s.heap.objs.size f cdv)).units + 64 < cLine := by have := hr.rm.un; omega
  exact (dss_one (ds_ret (de_call C_plus_of (hr.mono (by decide)) (takes_of rfl rfl rfl rfl) (by rfl) (dae_cons (de_call C_want_ratio (hr.mono (by decide)) (takes_of rfl rfl rfl rfl) (by rfl) (dae_cons (de_v 0) dae_nil)) (dae_cons (de_call C_want_ratio (hr.mono (by decide)) (takes_of rfl rfl rfl rfl) (by rfl) (dae_cons (de_v 1) dae_nil)) dae_nil)))))
theorem kf_ratio_plus (M : Gs K mg fI c_PaceError c_StateError c_InvalidInteger c_InvalidRatio c_DividedByNought) (H_plus_of : KF P w K mg base 4 "plus_of" s_plus_of ["one", "other"] d_plus_of) (H_want_ratio : KF P w K mg base 5 "want_ratio" s_want_ratio ["value"] d_want_ratio) (R : RF K mg "ratio_plus" s_ratio_plus ["ratio", "other"]) : KF P w K mg base 6 "ratio_plus" s_ratio_plus ["ratio", "other"] d_ratio_plus := by
  obtain ⟨f, fd, F, gm, kp, bi⟩ := R
  exact ⟨f, fd, F, ⟨ok_ratio_plus M H_plus_of H_want_ratio F, gm, kp, bi⟩⟩
noncomputable def b_minus_of : Gm → SR := (sRet (eCall d_bare_ratio (aConsE (eOp2 fSub (eOp2 fMul (eOp2 fIx (eV 0) (eC (.int 0))) (eOp2 fIx (eV 1) (eC (.int 1)))) (eOp2 fMul (eOp2 fIx (eV 1) (eC (.int 0))) (eOp2 fIx (eV 0) (eC (.int 1))))) (aConsE (eOp2 fMul (eOp2 fIx (eV 0) (eC (.int 1))) (eOp2 fIx (eV 1) (eC (.int 1)))) aNilE))))
noncomputable def d_minus_of : List B → FR := fnD 2 0 b_minus_of
theorem ok_minus_of (M : Gs K mg fI c_PaceError c_StateError c_InvalidInteger c_InvalidRatio c_DividedByNought) (H_bare_ratio : KF P w K mg base 3 "bare_ratio" s_bare_ratio ["number", "under"] d_bare_ratio) {f : Addr} {fd : FuncData} (F : Fun K "minus_of" "minus_of" s_minus_of f fd) : FnG P w K mg base 4 f fd ["one", "other"] (spD K mg d_minus_of) := by
  obtain ⟨f_bare_ratio, fd_bare_ratio, ⟨F_bare_ratio, C_bare_ratio⟩⟩ := H_bare_ratio
  refine fn_ok (k := 3) (m := 0) (body := b_minus_of) F sc_minus_of rfl fun cdv A outer s H E hr => ?_
  have hu : (A.deeper (envOfC "minus_of" (defScope s_minus_of) s.heap.objs.size f cdv)).units + 64 < cLine := by have := hr.rm.un; omega
  exact (dss_one (ds_ret (de_call C_bare_ratio (hr.mono (by decide)) (takes_of rfl rfl rfl rfl) (by rfl) (dae_cons (de_bin op_subA op2_sub (de_bin op_mulW op2_mul (de_ix ix_any op2_ix (de_v 0) de_int) (de_ix ix_any op2_ix (de_v 1) de_int)) (de_bin op_mulW op2_mul (de_ix ix_any op2_ix (de_v 1) de_int) (de_ix ix_any op2_ix (de_v 0) de_int))) (dae_cons (de_bin op_mulW op2_mul (de_ix ix_any op2_ix (de_v 0) de_int) (de_ix ix_any op2_ix (de_v 1) de_int)) dae_nil)))))
theorem kf_minus_of (M : Gs K mg fI c_PaceError c_StateError c_InvalidInteger c_InvalidRatio c_DividedByNought) (H_bare_ratio : KF P w K mg base 3 "bare_ratio" s_bare_ratio ["number", "under"] d_bare_ratio) (R : RF K mg "minus_of" s_minus_of ["one", "other"]) : KF P w K mg base 4 "minus_of" s_minus_of ["one", "other"] d_minus_of := by
  obtain ⟨f, fd, F, gm, kp, bi⟩ := R
  exact ⟨f, fd, F, ⟨ok_minus_of M H_bare_ratio F, gm, kp, bi⟩⟩
noncomputable def b_ratio_minus : Gm → SR := (sRet (eCall d_minus_of (aConsE (eCall d_want_ratio (aConsE (eV 0) aNilE)) (aConsE (eCall d_want_ratio (aConsE (eV 1) aNilE)) aNilE))))
noncomputable def d_ratio_minus : List B → FR := fnD 2 0 b_ratio_minus
theorem ok_ratio_minus (M : Gs K mg fI c_PaceError c_StateError c_InvalidInteger c_InvalidRatio c_DividedByNought) (H_minus_of : KF P w K mg base 4 "minus_of" s_minus_of ["one", "other"] d_minus_of) (H_want_ratio : KF P w K mg base 5 "want_ratio" s_want_ratio ["value"] d_want_ratio) {f : Addr} {fd : FuncData} (F : Fun K "ratio_minus" "ratio_minus" s_ratio_minus f fd) : FnG P w K mg base 6 f fd ["ratio", "other"] (spD K mg d_ratio_minus) := by
  obtain ⟨f_minus_of, fd_minus_of, ⟨F_minus_of, C_minus_of⟩⟩ := H_minus_of
  obtain ⟨f_want_ratio, fd_want_ratio, ⟨F_want_ratio, C_want_ratio⟩⟩ := H_want_ratio
  refine fn_ok (k := 5) (m := 0) (body := b_ratio_minus) F sc_ratio_minus rfl fun cdv A outer s H E hr => ?_
  have hu : (A.deeper (envOfC "ratio_minus" (defScope s_ratio_minus) s.heap.objs.size f cdv)).units + 64 < cLine := by have := hr.rm.un; omega
  exact (dss_one (ds_ret (de_call C_minus_of (hr.mono (by decide)) (takes_of rfl rfl rfl rfl) (by rfl) (dae_cons (de_call C_want_ratio (hr.mono (by decide)) (takes_of rfl rfl rfl rfl) (by rfl) (dae_cons (de_v 0) dae_nil)) (dae_cons (de_call C_want_ratio (hr.mono (by decide)) (takes_of rfl rfl rfl rfl) (by rfl) (dae_cons (de_v 1) dae_nil)) dae_nil)))))
theorem kf_ratio_minus (M : Gs K mg fI c_PaceError c_StateError c_InvalidInteger c_InvalidRatio c_DividedByNought) (H_minus_of : KF P w K mg base 4 "minus_of" s_minus_of ["one", "other"] d_minus_of) (H_want_ratio : KF P w K mg base 5 "want_ratio" s_want_ratio ["value"] d_want_ratio) (R : RF K mg "ratio_minus" s_ratio_minus ["ratio", "other"]) : KF P w K mg base 6 "ratio_minus" s_ratio_minus ["ratio", "other"] d_ratio_minus := by
  obtain ⟨f, fd, F, gm, kp, bi⟩ := R
  exact ⟨f, fd, F, ⟨ok_ratio_minus M H_minus_of H_want_ratio F, gm, kp, bi⟩⟩
noncomputable def b_times_of : Gm → SR := (sRet (eCall d_bare_ratio (aConsE (eOp2 fMul (eOp2 fIx (eV 0) (eC (.int 0))) (eOp2 fIx (eV 1) (eC (.int 0)))) (aConsE (eOp2 fMul (eOp2 fIx (eV 0) (eC (.int 1))) (eOp2 fIx (eV 1) (eC (.int 1)))) aNilE))))
noncomputable def d_times_of : List B → FR := fnD 2 0 b_times_of
theorem ok_times_of (M : Gs K mg fI c_PaceError c_StateError c_InvalidInteger c_InvalidRatio c_DividedByNought) (H_bare_ratio : KF P w K mg base 3 "bare_ratio" s_bare_ratio ["number", "under"] d_bare_ratio) {f : Addr} {fd : FuncData} (F : Fun K "times_of" "times_of" s_times_of f fd) : FnG P w K mg base 4 f fd ["one", "other"] (spD K mg d_times_of) := by
  obtain ⟨f_bare_ratio, fd_bare_ratio, ⟨F_bare_ratio, C_bare_ratio⟩⟩ := H_bare_ratio
  refine fn_ok (k := 3) (m := 0) (body := b_times_of) F sc_times_of rfl fun cdv A outer s H E hr => ?_
  have hu : (A.deeper (envOfC "times_of" (defScope s_times_of) s.heap.objs.size f cdv)).units + 64 < cLine := by have := hr.rm.un; omega
  exact (dss_one (ds_ret (de_call C_bare_ratio (hr.mono (by decide)) (takes_of rfl rfl rfl rfl) (by rfl) (dae_cons (de_bin op_mulW op2_mul (de_ix ix_any op2_ix (de_v 0) de_int) (de_ix ix_any op2_ix (de_v 1) de_int)) (dae_cons (de_bin op_mulW op2_mul (de_ix ix_any op2_ix (de_v 0) de_int) (de_ix ix_any op2_ix (de_v 1) de_int)) dae_nil)))))
theorem kf_times_of (M : Gs K mg fI c_PaceError c_StateError c_InvalidInteger c_InvalidRatio c_DividedByNought) (H_bare_ratio : KF P w K mg base 3 "bare_ratio" s_bare_ratio ["number", "under"] d_bare_ratio) (R : RF K mg "times_of" s_times_of ["one", "other"]) : KF P w K mg base 4 "times_of" s_times_of ["one", "other"] d_times_of := by
  obtain ⟨f, fd, F, gm, kp, bi⟩ := R
  exact ⟨f, fd, F, ⟨ok_times_of M H_bare_ratio F, gm, kp, bi⟩⟩
noncomputable def b_ratio_times : Gm → SR := (sRet (eCall d_times_of (aConsE (eCall d_want_ratio (aConsE (eV 0) aNilE)) (aConsE (eCall d_want_ratio (aConsE (eV 1) aNilE)) aNilE))))
noncomputable def d_ratio_times : List B → FR := fnD 2 0 b_ratio_times
theorem ok_ratio_times (M : Gs K mg fI c_PaceError c_StateError c_InvalidInteger c_InvalidRatio c_DividedByNought) (H_times_of : KF P w K mg base 4 "times_of" s_times_of ["one", "other"] d_times_of) (H_want_ratio : KF P w K mg base 5 "want_ratio" s_want_ratio ["value"] d_want_ratio) {f : Addr} {fd : FuncData} (F : Fun K "ratio_times" "ratio_times" s_ratio_times f fd) : FnG P w K mg base 6 f fd ["ratio", "other"] (spD K mg d_ratio_times) := by
  obtain ⟨f_times_of, fd_times_of, ⟨F_times_of, C_times_of⟩⟩ := H_times_of
  obtain ⟨f_want_ratio, fd_want_ratio, ⟨F_want_ratio, C_want_ratio⟩⟩ := H_want_ratio
  refine fn_ok (k := 5) (m := 0) (body := b_ratio_times) F sc_ratio_times rfl fun cdv A outer s H E hr => ?_
  have hu : (A.deeper (envOfC "ratio_times" (defScope s_ratio_times) s.heap.objs.size f cdv)).units + 64 < cLine := by have := hr.rm.un; omega
  exact (dss_one (ds_ret (de_call C_times_of (hr.mono (by decide)) (takes_of rfl rfl rfl rfl) (by rfl) (dae_cons (de_call C_want_ratio (hr.mono (by decide)) (takes_of rfl rfl rfl rfl) (by rfl) (dae_cons (de_v 0) dae_nil)) (dae_cons (de_call C_want_ratio (hr.mono (by decide)) (takes_of rfl rfl rfl rfl) (by rfl) (dae_cons (de_v 1) dae_nil)) dae_nil)))))
theorem kf_ratio_times (M : Gs K mg fI c_PaceError c_StateError c_InvalidInteger c_InvalidRatio c_DividedByNought) (H_times_of : KF P w K mg base 4 "times_of" s_times_of ["one", "other"] d_times_of) (H_want_ratio : KF P w K mg base 5 "want_ratio" s_want_ratio ["value"] d_want_ratio) (R : RF K mg "ratio_times" s_ratio_times ["ratio", "other"]) : KF P w K mg base 6 "ratio_times" s_ratio_times ["ratio", "other"] d_ratio_times := by
  obtain ⟨f, fd, F, gm, kp, bi⟩ := R
  exact ⟨f, fd, F, ⟨ok_ratio_times M H_times_of H_want_ratio F, gm, kp, bi⟩⟩
noncomputable def b_over_of : Gm → SR := (sRet (eCall d_bare_ratio (aConsE (eOp2 fMul (eOp2 fIx (eV 0) (eC (.int 0))) (eOp2 fIx (eV 1) (eC (.int 1)))) (aConsE (eOp2 fMul (eOp2 fIx (eV 0) (eC (.int 1))) (eOp2 fIx (eV 1) (eC (.int 0)))) aNilE))))
noncomputable def d_over_of : List B → FR := fnD 2 0 b_over_of
theorem ok_over_of (M : Gs K mg fI c_PaceError c_StateError c_InvalidInteger c_InvalidRatio c_DividedByNought) (H_bare_ratio : KF P w K mg base 3 "bare_ratio" s_bare_ratio ["number", "under"] d_bare_ratio) {f : Addr} {fd : FuncData} (F : Fun K "over_of" "over_of" s_over_of f fd) : FnG P w K mg base 4 f fd ["one", "other"] (spD K mg d_over_of) := by
  obtain ⟨f_bare_ratio, fd_bare_ratio, ⟨F_bare_ratio, C_bare_ratio⟩⟩ := H_bare_ratio
  refine fn_ok (k := 3) (m := 0) (body := b_over_of) F sc_over_of rfl fun cdv A outer s H E hr => ?_
  have hu : (A.deeper (envOfC "over_of" (defScope s_over_of) s.heap.objs.size f cdv)).units + 64 < cLine := by have := hr.rm.un; omega
  exact (dss_one (ds_ret (de_call C_bare_ratio (hr.mono (by decide)) (takes_of rfl rfl rfl rfl) (by rfl) (dae_cons (de_bin op_mulW op2_mul (de_ix ix_any op2_ix (de_v 0) de_int) (de_ix ix_any op2_ix (de_v 1) de_int)) (dae_cons (de_bin op_mulW op2_mul (de_ix ix_any op2_ix (de_v 0) de_int) (de_ix ix_any op2_ix (de_v 1) de_int)) dae_nil)))))
theorem kf_over_of (M : Gs K mg fI c_PaceError c_StateError c_InvalidInteger c_InvalidRatio c_DividedByNought) (H_bare_ratio : KF P w K mg base 3 "bare_ratio" s_bare_ratio ["number", "under"] d_bare_ratio) (R : RF K mg "over_of" s_over_of ["one", "other"]) : KF P w K mg base 4 "over_of" s_over_of ["one", "other"] d_over_of := by
  obtain ⟨f, fd, F, gm, kp, bi⟩ := R
  exact ⟨f, fd, F, ⟨ok_over_of M H_bare_ratio F, gm, kp, bi⟩⟩
noncomputable def b_ratio_over : Gm → SR := (sSeq (sExpr (eCall d_want_ratio (aConsE (eV 0) aNilE)))
  (sSeq (sIf (tOf (eOp2 fEq (eOp2 fIx (eCall d_want_ratio (aConsE (eV 1) aNilE)) (eC (.int 0))) (eC (.int 0)))) (sRaise0 "DividedByNought") sNext)
  (sRet (eCall d_over_of (aConsE (eV 0) (aConsE (eV 1) aNilE))))))
noncomputable def d_ratio_over : List B → FR := fnD 2 0 b_ratio_over
theorem ok_ratio_over (M : Gs K mg fI c_PaceError c_StateError c_InvalidInteger c_InvalidRatio c_DividedByNought) (H_want_ratio : KF P w K mg base 5 "want_ratio" s_want_ratio ["value"] d_want_ratio) (H_over_of : KF P w K mg base 4 "over_of" s_over_of ["one", "other"] d_over_of) {f : Addr} {fd : FuncData} (F : Fun K "ratio_over" "ratio_over" s_ratio_over f fd) : FnG P w K mg base 6 f fd ["ratio", "other"] (spD K mg d_ratio_over) := by
  obtain ⟨f_want_ratio, fd_want_ratio, ⟨F_want_ratio, C_want_ratio⟩⟩ := H_want_ratio
  obtain ⟨f_over_of, fd_over_of, ⟨F_over_of, C_over_of⟩⟩ := H_over_of
  refine fn_ok (k := 5) (m := 0) (body := b_ratio_over) F sc_ratio_over rfl fun cdv A outer s H E hr => ?_
  have hu : (A.deeper (envOfC "ratio_over" (defScope s_ratio_over) s.heap.objs.size f cdv)).units + 64 < cLine := by have := hr.rm.un; omega
  exact (dss_cons (ds_expr (de_call C_want_ratio (hr.mono (by decide)) (takes_of rfl rfl rfl rfl) (by rfl) (dae_cons (de_v 0) dae_nil)))
    (dss_cons (ds_if (dt_cmp (op_eqD hu) op2_eq (de_ix ix_any op2_ix (de_call C_want_ratio (hr.mono (by decide)) (takes_of rfl rfl rfl rfl) (by rfl) (dae_cons (de_v 1) dae_nil)) de_int) de_int (nomark _)) (dss_one (ds_raise0 rfl PySem.F.excBase_RuntimeError M.x_DividedByNought M.g_DividedByNought M.k_DividedByNought (raises_own M.e_DividedByNought M.t_DividedByNought) (takes_of rfl rfl rfl rfl) (by rfl))) dss_nil)
    (dss_one (ds_ret (de_call C_over_of (hr.mono (by decide)) (takes_of rfl rfl rfl rfl) (by rfl) (dae_cons (de_v 0) (dae_cons (de_v 1) dae_nil)))))))
theorem kf_ratio_over (M : Gs K mg fI c_PaceError c_StateError c_InvalidInteger c_InvalidRatio c_DividedByNought) (H_want_ratio : KF P w K mg base 5 "want_ratio" s_want_ratio ["value"] d_want_ratio) (H_over_of : KF P w K mg base 4 "over_of" s_over_of ["one", "other"] d_over_of) (R : RF K mg "ratio_over" s_ratio_over ["ratio", "other"]) : KF P w K mg base 6 "ratio_over" s_ratio_over ["ratio", "other"] d_ratio_over := by
  obtain ⟨f, fd, F, gm, kp, bi⟩ := R
  exact ⟨f, fd, F, ⟨ok_ratio_over M H_want_ratio H_over_of F, gm, kp, bi⟩⟩
noncomputable def b_compared_of : Gm → SR := (sSeq (sSet 2 (eOp2 fSub (eOp2 fMul (eOp2 fIx (eV 0) (eC (.int 0))) (eOp2 fIx (eV 1) (eC (.int 1)))) (eOp2 fMul (eOp2 fIx (eV 1) (eC (.int 0))) (eOp2 fIx (eV 0) (eC (.int 1))))))
  (sRet (eOp2 fSub (eOp2 fGt (eV 2) (eC (.int 0))) (eOp2 fLt (eV 2) (eC (.int 0))))))
noncomputable def d_compared_of : List B → FR := fnD 2 1 b_compared_of
theorem ok_compared_of (M : Gs K mg fI c_PaceError c_StateError c_InvalidInteger c_InvalidRatio c_DividedByNought) {f : Addr} {fd : FuncData} (F : Fun K "compared_of" "compared_of" s_compared_of f fd) : FnG P w K mg base 3 f fd ["one", "other"] (spD K mg d_compared_of) := by
  refine fn_ok (k := 2) (m := 1) (body := b_compared_of) F sc_compared_of rfl fun cdv A outer s H E hr => ?_
  have hu : (A.deeper (envOfC "compared_of" (defScope s_compared_of) s.heap.objs.size f cdv)).units + 64 < cLine := by have := hr.rm.un; omega
  exact (dss_cons (ds_set (i := 2) sc_compared_of.nd rfl (Or.inl rfl) (de_bin op_subA op2_sub (de_bin op_mulW op2_mul (de_ix ix_any op2_ix (de_v 0) de_int) (de_ix ix_any op2_ix (de_v 1) de_int)) (de_bin op_mulW op2_mul (de_ix ix_any op2_ix (de_v 1) de_int) (de_ix ix_any op2_ix (de_v 0) de_int))))
    (dss_one (ds_ret (de_bin op_subA op2_sub (de_cmp op_gt op2_gt (de_v 2) de_int (nomark _)) (de_cmp op_lt op2_lt (de_v 2) de_int (nomark _))))))
theorem kf_compared_of (M : Gs K mg fI c_PaceError c_StateError c_InvalidInteger c_InvalidRatio c_DividedByNought) (R : RF K mg "compared_of" s_compared_of ["one", "other"]) : KF P w K mg base 3 "compared_of" s_compared_of ["one", "other"] d_compared_of := by
  obtain ⟨f, fd, F, gm, kp, bi⟩ := R
  exact ⟨f, fd, F, ⟨ok_compared_of M F, gm, kp, bi⟩⟩
noncomputable def b_ratio_compared : Gm → SR := (sRet (eCall d_compared_of (aConsE (eCall d_want_ratio (aConsE (eV 0) aNilE)) (aConsE (eCall d_want_ratio (aConsE (eV 1) aNilE)) aNilE))))
noncomputable def d_ratio_compared : List B → FR := fnD 2 0 b_ratio_compared
theorem ok_ratio_compared (M : Gs K mg fI c_PaceError c_StateError c_InvalidInteger c_InvalidRatio c_DividedByNought) (H_compared_of : KF P w K mg base 3 "compared_of" s_compared_of ["one", "other"] d_compared_of) (H_want_ratio : KF P w K mg base 5 "want_ratio" s_want_ratio ["value"] d_want_ratio) {f : Addr} {fd : FuncData} (F : Fun K "ratio_compared" "ratio_compared" s_ratio_compared f fd) : FnG P w K mg base 6 f fd ["ratio", "other"] (spD K mg d_ratio_compared) := by
  obtain ⟨f_compared_of, fd_compared_of, ⟨F_compared_of, C_compared_of⟩⟩ := H_compared_of
  obtain ⟨f_want_ratio, fd_want_ratio, ⟨F_want_ratio, C_want_ratio⟩⟩ := H_want_ratio
  refine fn_ok (k := 5) (m := 0) (body := b_ratio_compared) F sc_ratio_compared rfl fun cdv A outer s H E hr => ?_
  have hu : (A.deeper (envOfC "ratio_compared" (defScope s_ratio_compared) s.heap.objs.size f cdv)).units + 64 < cLine := by have := hr.rm.un; omega
  exact (dss_one (ds_ret (de_call C_compared_of (hr.mono (by decide)) (takes_of rfl rfl rfl rfl) (by rfl) (dae_cons (de_call C_want_ratio (hr.mono (by decide)) (takes_of rfl rfl rfl rfl) (by rfl) (dae_cons (de_v 0) dae_nil)) (dae_cons (de_call C_want_ratio (hr.mono (by decide)) (takes_of rfl rfl rfl rfl) (by rfl) (dae_cons (de_v 1) dae_nil)) dae_nil)))))
theorem kf_ratio_compared (M : Gs K mg fI c_PaceError c_StateError c_InvalidInteger c_InvalidRatio c_DividedByNought) (H_compared_of : KF P w K mg base 3 "compared_of" s_compared_of ["one", "other"] d_compared_of) (H_want_ratio : KF P w K mg base 5 "want_ratio" s_want_ratio ["value"] d_want_ratio) (R : RF K mg "ratio_compared" s_ratio_compared ["ratio", "other"]) : KF P w K mg base 6 "ratio_compared" s_ratio_compared ["ratio", "other"] d_ratio_compared := by
  obtain ⟨f, fd, F, gm, kp, bi⟩ := R
  exact ⟨f, fd, F, ⟨ok_ratio_compared M H_compared_of H_want_ratio F, gm, kp, bi⟩⟩
noncomputable def b_floor_of : Gm → SR := (sRet (eOp2 fDiv (eOp2 fIx (eV 0) (eC (.int 0))) (eOp2 fIx (eV 0) (eC (.int 1)))))
noncomputable def d_floor_of : List B → FR := fnD 1 0 b_floor_of
theorem ok_floor_of (M : Gs K mg fI c_PaceError c_StateError c_InvalidInteger c_InvalidRatio c_DividedByNought) {f : Addr} {fd : FuncData} (F : Fun K "floor_of" "floor_of" s_floor_of f fd) : FnG P w K mg base 3 f fd ["ratio"] (spD K mg d_floor_of) := by
  refine fn_ok (k := 2) (m := 0) (body := b_floor_of) F sc_floor_of rfl fun cdv A outer s H E hr => ?_
  have hu : (A.deeper (envOfC "floor_of" (defScope s_floor_of) s.heap.objs.size f cdv)).units + 64 < cLine := by have := hr.rm.un; omega
  exact (dss_one (ds_ret (de_bin op_divG op2_div (de_ix ix_any op2_ix (de_v 0) de_int) (de_ix ix_any op2_ix (de_v 0) de_int))))
theorem kf_floor_of (M : Gs K mg fI c_PaceError c_StateError c_InvalidInteger c_InvalidRatio c_DividedByNought) (R : RF K mg "floor_of" s_floor_of ["ratio"]) : KF P w K mg base 3 "floor_of" s_floor_of ["ratio"] d_floor_of := by
  obtain ⟨f, fd, F, gm, kp, bi⟩ := R
  exact ⟨f, fd, F, ⟨ok_floor_of M F, gm, kp, bi⟩⟩
noncomputable def b_ratio_floor : Gm → SR := (sRet (eCall d_floor_of (aConsE (eCall d_want_ratio (aConsE (eV 0) aNilE)) aNilE)))
noncomputable def d_ratio_floor : List B → FR := fnD 1 0 b_ratio_floor
theorem ok_ratio_floor (M : Gs K mg fI c_PaceError c_StateError c_InvalidInteger c_InvalidRatio c_DividedByNought) (H_floor_of : KF P w K mg base 3 "floor_of" s_floor_of ["ratio"] d_floor_of) (H_want_ratio : KF P w K mg base 5 "want_ratio" s_want_ratio ["value"] d_want_ratio) {f : Addr} {fd : FuncData} (F : Fun K "ratio_floor" "ratio_floor" s_ratio_floor f fd) : FnG P w K mg base 6 f fd ["ratio"] (spD K mg d_ratio_floor) := by
  obtain ⟨f_floor_of, fd_floor_of, ⟨F_floor_of, C_floor_of⟩⟩ := H_floor_of
  obtain ⟨f_want_ratio, fd_want_ratio, ⟨F_want_ratio, C_want_ratio⟩⟩ := H_want_ratio
  refine fn_ok (k := 5) (m := 0) (body := b_ratio_floor) F sc_ratio_floor rfl fun cdv A outer s H E hr => ?_
  have hu : (A.deeper (envOfC "ratio_floor" (defScope s_ratio_floor) s.heap.objs.size f cdv)).units + 64 < cLine := by have := hr.rm.un; omega
  exact (dss_one (ds_ret (de_call C_floor_of (hr.mono (by decide)) (takes_of rfl rfl rfl rfl) (by rfl) (dae_cons (de_call C_want_ratio (hr.mono (by decide)) (takes_of rfl rfl rfl rfl) (by rfl) (dae_cons (de_v 0) dae_nil)) dae_nil))))
theorem kf_ratio_floor (M : Gs K mg fI c_PaceError c_StateError c_InvalidInteger c_InvalidRatio c_DividedByNought) (H_floor_of : KF P w K mg base 3 "floor_of" s_floor_of ["ratio"] d_floor_of) (H_want_ratio : KF P w K mg base 5 "want_ratio" s_want_ratio ["value"] d_want_ratio) (R : RF K mg "ratio_floor" s_ratio_floor ["ratio"]) : KF P w K mg base 6 "ratio_floor" s_ratio_floor ["ratio"] d_ratio_floor := by
  obtain ⟨f, fd, F, gm, kp, bi⟩ := R
  exact ⟨f, fd, F, ⟨ok_ratio_floor M H_floor_of H_want_ratio F, gm, kp, bi⟩⟩
noncomputable def b__law_told : Gm → SR := (sSeq (sIf (tOf (eOp2 fEq (eV 0) (eC (.str "made")))) (sRet (eCall d_ratio_made (aConsE (eV 1) (aConsE (eV 2) aNilE)))) sNext)
  (sSeq (sIf (tOf (eOp2 fEq (eV 0) (eC (.str "plus")))) (sRet (eCall d_ratio_plus (aConsE (eV 1) (aConsE (eV 2) aNilE)))) sNext)
  (sSeq (sIf (tOf (eOp2 fEq (eV 0) (eC (.str "minus")))) (sRet (eCall d_ratio_minus (aConsE (eV 1) (aConsE (eV 2) aNilE)))) sNext)
  (sSeq (sIf (tOf (eOp2 fEq (eV 0) (eC (.str "times")))) (sRet (eCall d_ratio_times (aConsE (eV 1) (aConsE (eV 2) aNilE)))) sNext)
  (sSeq (sIf (tOf (eOp2 fEq (eV 0) (eC (.str "over")))) (sRet (eCall d_ratio_over (aConsE (eV 1) (aConsE (eV 2) aNilE)))) sNext)
  (sRet (eIf (tOf (eOp2 fEq (eV 0) (eC (.str "compared")))) (eCall d_ratio_compared (aConsE (eV 1) (aConsE (eV 2) aNilE))) (eCall d_ratio_floor (aConsE (eV 1) aNilE)))))))))
noncomputable def d__law_told : List B → FR := fnD 3 0 b__law_told
theorem ok__law_told (M : Gs K mg fI c_PaceError c_StateError c_InvalidInteger c_InvalidRatio c_DividedByNought) (H_ratio_made : KF P w K mg base 5 "ratio_made" s_ratio_made ["number", "under"] d_ratio_made) (H_ratio_plus : KF P w K mg base 6 "ratio_plus" s_ratio_plus ["ratio", "other"] d_ratio_plus) (H_ratio_minus : KF P w K mg base 6 "ratio_minus" s_ratio_minus ["ratio", "other"] d_ratio_minus) (H_ratio_times : KF P w K mg base 6 "ratio_times" s_ratio_times ["ratio", "other"] d_ratio_times) (H_ratio_over : KF P w K mg base 6 "ratio_over" s_ratio_over ["ratio", "other"] d_ratio_over) (H_ratio_compared : KF P w K mg base 6 "ratio_compared" s_ratio_compared ["ratio", "other"] d_ratio_compared) (H_ratio_floor : KF P w K mg base 6 "ratio_floor" s_ratio_floor ["ratio"] d_ratio_floor) {f : Addr} {fd : FuncData} (F : Fun K "_law_told" "_law_told" s__law_told f fd) : FnG P w K mg base 7 f fd ["word", "one", "other"] (spD K mg d__law_told) := by
  obtain ⟨f_ratio_made, fd_ratio_made, ⟨F_ratio_made, C_ratio_made⟩⟩ := H_ratio_made
  obtain ⟨f_ratio_plus, fd_ratio_plus, ⟨F_ratio_plus, C_ratio_plus⟩⟩ := H_ratio_plus
  obtain ⟨f_ratio_minus, fd_ratio_minus, ⟨F_ratio_minus, C_ratio_minus⟩⟩ := H_ratio_minus
  obtain ⟨f_ratio_times, fd_ratio_times, ⟨F_ratio_times, C_ratio_times⟩⟩ := H_ratio_times
  obtain ⟨f_ratio_over, fd_ratio_over, ⟨F_ratio_over, C_ratio_over⟩⟩ := H_ratio_over
  obtain ⟨f_ratio_compared, fd_ratio_compared, ⟨F_ratio_compared, C_ratio_compared⟩⟩ := H_ratio_compared
  obtain ⟨f_ratio_floor, fd_ratio_floor, ⟨F_ratio_floor, C_ratio_floor⟩⟩ := H_ratio_floor
  refine fn_ok (k := 6) (m := 0) (body := b__law_told) F sc__law_told rfl fun cdv A outer s H E hr => ?_
  have hu : (A.deeper (envOfC "_law_told" (defScope s__law_told) s.heap.objs.size f cdv)).units + 64 < cLine := by have := hr.rm.un; omega
  exact (dss_cons (ds_if (dt_cmp (op_eqD hu) op2_eq (de_v 0) de_str (nomark _)) (dss_one (ds_ret (de_call C_ratio_made (hr.mono (by decide)) (takes_of rfl rfl rfl rfl) (by rfl) (dae_cons (de_v 1) (dae_cons (de_v 2) dae_nil))))) dss_nil)
    (dss_cons (ds_if (dt_cmp (op_eqD hu) op2_eq (de_v 0) de_str (nomark _)) (dss_one (ds_ret (de_call C_ratio_plus (hr.mono (by decide)) (takes_of rfl rfl rfl rfl) (by rfl) (dae_cons (de_v 1) (dae_cons (de_v 2) dae_nil))))) dss_nil)
    (dss_cons (ds_if (dt_cmp (op_eqD hu) op2_eq (de_v 0) de_str (nomark _)) (dss_one (ds_ret (de_call C_ratio_minus (hr.mono (by decide)) (takes_of rfl rfl rfl rfl) (by rfl) (dae_cons (de_v 1) (dae_cons (de_v 2) dae_nil))))) dss_nil)
    (dss_cons (ds_if (dt_cmp (op_eqD hu) op2_eq (de_v 0) de_str (nomark _)) (dss_one (ds_ret (de_call C_ratio_times (hr.mono (by decide)) (takes_of rfl rfl rfl rfl) (by rfl) (dae_cons (de_v 1) (dae_cons (de_v 2) dae_nil))))) dss_nil)
    (dss_cons (ds_if (dt_cmp (op_eqD hu) op2_eq (de_v 0) de_str (nomark _)) (dss_one (ds_ret (de_call C_ratio_over (hr.mono (by decide)) (takes_of rfl rfl rfl rfl) (by rfl) (dae_cons (de_v 1) (dae_cons (de_v 2) dae_nil))))) dss_nil)
    (dss_one (ds_ret (de_if (dt_cmp (op_eqD hu) op2_eq (de_v 0) de_str (nomark _)) (de_call C_ratio_compared (hr.mono (by decide)) (takes_of rfl rfl rfl rfl) (by rfl) (dae_cons (de_v 1) (dae_cons (de_v 2) dae_nil))) (de_call C_ratio_floor (hr.mono (by decide)) (takes_of rfl rfl rfl rfl) (by rfl) (dae_cons (de_v 1) dae_nil))))))))))
theorem kf__law_told (M : Gs K mg fI c_PaceError c_StateError c_InvalidInteger c_InvalidRatio c_DividedByNought) (H_ratio_made : KF P w K mg base 5 "ratio_made" s_ratio_made ["number", "under"] d_ratio_made) (H_ratio_plus : KF P w K mg base 6 "ratio_plus" s_ratio_plus ["ratio", "other"] d_ratio_plus) (H_ratio_minus : KF P w K mg base 6 "ratio_minus" s_ratio_minus ["ratio", "other"] d_ratio_minus) (H_ratio_times : KF P w K mg base 6 "ratio_times" s_ratio_times ["ratio", "other"] d_ratio_times) (H_ratio_over : KF P w K mg base 6 "ratio_over" s_ratio_over ["ratio", "other"] d_ratio_over) (H_ratio_compared : KF P w K mg base 6 "ratio_compared" s_ratio_compared ["ratio", "other"] d_ratio_compared) (H_ratio_floor : KF P w K mg base 6 "ratio_floor" s_ratio_floor ["ratio"] d_ratio_floor) (R : RF K mg "_law_told" s__law_told ["word", "one", "other"]) : KF P w K mg base 7 "_law_told" s__law_told ["word", "one", "other"] d__law_told := by
  obtain ⟨f, fd, F, gm, kp, bi⟩ := R
  exact ⟨f, fd, F, ⟨ok__law_told M H_ratio_made H_ratio_plus H_ratio_minus H_ratio_times H_ratio_over H_ratio_compared H_ratio_floor F, gm, kp, bi⟩⟩
noncomputable def b__law_raised : Gm → SR := (sSeq (sTry cNames cSub (sExpr (eCall d__law_told (aConsE (eV 0) (aConsE (eV 1) (aConsE (eV 2) aNilE))))) [⟨"InvalidRatio", 3, tVal "InvalidRatio"⟩, ⟨"InvalidInteger", 3, tVal "InvalidInteger"⟩, ⟨"DividedByNought", 3, tBare "DividedByNought" ""⟩])
  (sRet (eLst aNilE)))
noncomputable def d__law_raised : List B → FR := fnD 3 1 b__law_raised
theorem ok__law_raised (M : Gs K mg fI c_PaceError c_StateError c_InvalidInteger c_InvalidRatio c_DividedByNought) (H__law_told : KF P w K mg base 7 "_law_told" s__law_told ["word", "one", "other"] d__law_told) {f : Addr} {fd : FuncData} (F : Fun K "_law_raised" "_law_raised" s__law_raised f fd) : FnG P w K mg base 8 f fd ["word", "one", "other"] (spD K mg d__law_raised) := by
  obtain ⟨f__law_told, fd__law_told, ⟨F__law_told, C__law_told⟩⟩ := H__law_told
  refine fn_ok (k := 7) (m := 1) (body := b__law_raised) F sc__law_raised rfl fun cdv A outer s H E hr => ?_
  have hu : (A.deeper (envOfC "_law_raised" (defScope s__law_raised) s.heap.objs.size f cdv)).units + 64 < cLine := by have := hr.rm.un; omega
  exact (dss_cons (ds_try rfl rfl sc__law_raised.nd (takes_of rfl rfl rfl rfl) (fun W pn xe tk pas => (dss_one (ds_expr (de_call C__law_told (hr.mono (by decide)) tk (by rfl) (dae_cons (de_v 0) (dae_cons (de_v 1) (dae_cons (de_v 2) dae_nil))))))) (ClD.cons rfl rfl rfl (by decide) M.g_InvalidRatio M.s_InvalidRatio (by decide) (dc_val M.ec_InvalidRatio M.v_InvalidRatio.noN M.g_PaceError M.i_InvalidRatio_PaceError rfl (by first | exact Or.inl rfl | exact Or.inr (Or.inl rfl) | exact Or.inr (Or.inr rfl)) hr.gd hu rfl M.n_repr rfl M.n_isinstance rfl) trivial (ClD.cons rfl rfl rfl (by decide) M.g_InvalidInteger M.s_InvalidInteger (by decide) (dc_val M.ec_InvalidInteger M.v_InvalidInteger.noN M.g_PaceError M.i_InvalidInteger_PaceError rfl (by first | exact Or.inl rfl | exact Or.inr (Or.inl rfl) | exact Or.inr (Or.inr rfl)) hr.gd hu rfl M.n_repr rfl M.n_isinstance rfl) trivial (ClD.cons rfl rfl rfl (by decide) M.g_DividedByNought M.s_DividedByNought (by decide) (dc_bare M.ec_DividedByNought M.g_StateError M.i_DividedByNought_StateError rfl (by first | exact Or.inl rfl | exact Or.inr (Or.inl rfl) | exact Or.inr (Or.inr rfl)) rfl M.n_isinstance rfl) trivial ClD.nil))))
    (dss_one (ds_ret (de_lst dae_nil))))
theorem kf__law_raised (M : Gs K mg fI c_PaceError c_StateError c_InvalidInteger c_InvalidRatio c_DividedByNought) (H__law_told : KF P w K mg base 7 "_law_told" s__law_told ["word", "one", "other"] d__law_told) (R : RF K mg "_law_raised" s__law_raised ["word", "one", "other"]) : KF P w K mg base 8 "_law_raised" s__law_raised ["word", "one", "other"] d__law_raised := by
  obtain ⟨f, fd, F, gm, kp, bi⟩ := R
  exact ⟨f, fd, F, ⟨ok__law_raised M H__law_told F, gm, kp, bi⟩⟩
noncomputable def b__law_pair_right : Gm → SR := (sSeq (sPar [4, 5] (aCons (eCall d__law_least (aConsE (eV 0) (aConsE (eV 1) aNilE))) (aCons (eCall d__law_least (aConsE (eV 2) (aConsE (eV 3) aNilE))) aNil)))
  (sSeq (sIf (tOr' (tNo (tOf (eCall d__law_is (aConsE (eCall d_ratio_made (aConsE (eV 0) (aConsE (eV 1) aNilE))) (aConsE (eV 4) aNilE))))) (tNo (tOf (eCall d__law_is (aConsE (eCallK d_ratio_made 0 2 (permL [1, 0]) aNilE (aConsE (eV 3) (aConsE (eV 2) aNilE))) (aConsE (eV 5) aNilE)))))) (sRet (eC (.bool false))) sNext)
  (sSeq (sIf (tOr' (tOf (eOp2 fIsNot (eCall d_is_ratio (aConsE (eV 4) aNilE)) (eC (.bool true)))) (tOf (eOp2 fIsNot (eCallK d_is_ratio 0 1 (permL [0]) aNilE (aConsE (eV 5) aNilE)) (eC (.bool true))))) (sRet (eC (.bool false))) sNext)
  (sSeq (sIf (tNo (tOf (eCall d__law_is (aConsE (eCall d_ratio_plus (aConsE (eV 4) (aConsE (eV 5) aNilE))) (aConsE (eCall d__law_least (aConsE (eOp2 fAdd (eOp2 fMul (eV 0) (eV 3)) (eOp2 fMul (eV 2) (eV 1))) (aConsE (eOp2 fMul (eV 1) (eV 3)) aNilE))) aNilE))))) (sRet (eC (.bool false))) sNext)
  (sSeq (sIf (tNo (tOf (eCall d__law_is (aConsE (eCallK d_ratio_minus 0 2 (permL [0, 1]) aNilE (aConsE (eV 4) (aConsE (eV 5) aNilE))) (aConsE (eCall d__law_least (aConsE (eOp2 fSub (eOp2 fMul (eV 0) (eV 3)) (eOp2 fMul (eV 2) (eV 1))) (aConsE (eOp2 fMul (eV 1) (eV 3)) aNilE))) aNilE))))) (sRet (eC (.bool false))) sNext)
  (sSeq (sIf (tNo (tOf (eCall d__law_is (aConsE (eCall d_ratio_times (aConsE (eV 4) (aConsE (eV 5) aNilE))) (aConsE (eCall d__law_least (aConsE (eOp2 fMul (eV 0) (eV 2)) (aConsE (eOp2 fMul (eV 1) (eV 3)) aNilE))) aNilE))))) (sRet (eC (.bool false))) sNext)
  (sSeq (sIf (tOf (eOp2 fEq (eV 2) (eC (.int 0)))) (sIf (tOf (eOp2 fNe (eCall d__law_raised (aConsE (eC (.str "over")) (aConsE (eV 4) (aConsE (eV 5) aNilE)))) (eLst (aConsE (eC (.str "DividedByNought")) (aConsE (eC (.str "")) (aConsE (eC (.bool true)) aNilE)))))) (sRet (eC (.bool false))) sNext) (sIf (tNo (tOf (eCall d__law_is (aConsE (eCall d_ratio_over (aConsE (eV 4) (aConsE (eV 5) aNilE))) (aConsE (eCall d__law_least (aConsE (eOp2 fMul (eV 0) (eV 3)) (aConsE (eOp2 fMul (eV 1) (eV 2)) aNilE))) aNilE))))) (sRet (eC (.bool false))) sNext))
  (sSeq (sSet 6 (eOp2 fSub (eOp2 fMul (eOp2 fIx (eV 4) (eC (.int 0))) (eOp2 fIx (eV 5) (eC (.int 1)))) (eOp2 fMul (eOp2 fIx (eV 5) (eC (.int 0))) (eOp2 fIx (eV 4) (eC (.int 1))))))
  (sSeq (sIf (tOf (eOp2 fNe (eCall d_ratio_compared (aConsE (eV 4) (aConsE (eV 5) aNilE))) (eOp2 fSub (eOp2 fGt (eV 6) (eC (.int 0))) (eOp2 fLt (eV 6) (eC (.int 0)))))) (sRet (eC (.bool false))) sNext)
  (sSeq (sSet 7 (eCallK d_ratio_floor 0 1 (permL [0]) aNilE (aConsE (eV 4) aNilE)))
  (sSeq (sIf (tOr' (tOf (eIsi "bool" (eV 7))) (tNo (tOf (eIsi "int" (eV 7))))) (sRet (eC (.bool false))) sNext)
  (sRet (eCh fLe fLt (eOp2 fMul (eV 7) (eOp2 fIx (eV 4) (eC (.int 1)))) (eOp2 fIx (eV 4) (eC (.int 0))) (eOp2 fMul (eOp2 fAdd (eV 7) (eC (.int 1))) (eOp2 fIx (eV 4) (eC (.int 1)))))))))))))))))
noncomputable def d__law_pair_right : List B → FR := fnD 4 4 b__law_pair_right
theorem ok__law_pair_right (M : Gs K mg fI c_PaceError c_StateError c_InvalidInteger c_InvalidRatio c_DividedByNought) (H__law_least : KF P w K mg base 3 "_law_least" s__law_least ["number", "under"] d__law_least) (H__law_is : KF P w K mg base 3 "_law_is" s__law_is ["told", "due"] d__law_is) (H_ratio_made : KF P w K mg base 5 "ratio_made" s_ratio_made ["number", "under"] d_ratio_made) (H_is_ratio : KF P w K mg base 4 "is_ratio" s_is_ratio ["value"] d_is_ratio) (H_ratio_plus : KF P w K mg base 6 "ratio_plus" s_ratio_plus ["ratio", "other"] d_ratio_plus) (H_ratio_minus : KF P w K mg base 6 "ratio_minus" s_ratio_minus ["ratio", "other"] d_ratio_minus) (H_ratio_times : KF P w K mg base 6 "ratio_times" s_ratio_times ["ratio", "other"] d_ratio_times) (H__law_raised : KF P w K mg base 8 "_law_raised" s__law_raised ["word", "one", "other"] d__law_raised) (H_ratio_over : KF P w K mg base 6 "ratio_over" s_ratio_over ["ratio", "other"] d_ratio_over) (H_ratio_compared : KF P w K mg base 6 "ratio_compared" s_ratio_compared ["ratio", "other"] d_ratio_compared) (H_ratio_floor : KF P w K mg base 6 "ratio_floor" s_ratio_floor ["ratio"] d_ratio_floor) {f : Addr} {fd : FuncData} (F : Fun K "_law_pair_right" "_law_pair_right" s__law_pair_right f fd) : FnG P w K mg base 9 f fd ["a", "b", "c", "d"] (spD K mg d__law_pair_right) := by
  obtain ⟨f__law_least, fd__law_least, ⟨F__law_least, C__law_least⟩⟩ := H__law_least
  obtain ⟨f__law_is, fd__law_is, ⟨F__law_is, C__law_is⟩⟩ := H__law_is
  obtain ⟨f_ratio_made, fd_ratio_made, ⟨F_ratio_made, C_ratio_made⟩⟩ := H_ratio_made
  obtain ⟨f_is_ratio, fd_is_ratio, ⟨F_is_ratio, C_is_ratio⟩⟩ := H_is_ratio
  obtain ⟨f_ratio_plus, fd_ratio_plus, ⟨F_ratio_plus, C_ratio_plus⟩⟩ := H_ratio_plus
  obtain ⟨f_ratio_minus, fd_ratio_minus, ⟨F_ratio_minus, C_ratio_minus⟩⟩ := H_ratio_minus
  obtain ⟨f_ratio_times, fd_ratio_times, ⟨F_ratio_times, C_ratio_times⟩⟩ := H_ratio_times
  obtain ⟨f__law_raised, fd__law_raised, ⟨F__law_raised, C__law_raised⟩⟩ := H__law_raised
  obtain ⟨f_ratio_over, fd_ratio_over, ⟨F_ratio_over, C_ratio_over⟩⟩ := H_ratio_over
  obtain ⟨f_ratio_compared, fd_ratio_compared, ⟨F_ratio_compared, C_ratio_compared⟩⟩ := H_ratio_compared
  obtain ⟨f_ratio_floor, fd_ratio_floor, ⟨F_ratio_floor, C_ratio_floor⟩⟩ := H_ratio_floor
  refine fn_ok (k := 8) (m := 4) (body := b__law_pair_right) F sc__law_pair_right rfl fun cdv A outer s H E hr => ?_
  have hu : (A.deeper (envOfC "_law_pair_right" (defScope s__law_pair_right) s.heap.objs.size f cdv)).units + 64 < cLine := by have := hr.rm.un; omega
  exact (dss_cons (ds_par2 (i := 4) (j := 5) rfl sc__law_pair_right.nd rfl rfl (by decide) rfl rfl (da_cons (de_call C__law_least (hr.mono (by decide)) (takes_of rfl rfl rfl rfl) (by rfl) (dae_cons (de_v 0) (dae_cons (de_v 1) dae_nil))) (da_cons (de_call C__law_least (hr.mono (by decide)) (takes_of rfl rfl rfl rfl) (by rfl) (dae_cons (de_v 2) (dae_cons (de_v 3) dae_nil))) da_nil)) rfl)
    (dss_cons (ds_if (dt_w (dw_or (dt_not (dt_val (de_call C__law_is (hr.mono (by decide)) (takes_of rfl rfl rfl rfl) (by rfl) (dae_cons (de_call C_ratio_made (hr.mono (by decide)) (takes_of rfl rfl rfl rfl) (by rfl) (dae_cons (de_v 0) (dae_cons (de_v 1) dae_nil))) (dae_cons (de_v 4) dae_nil))))) (dw_or1 (dt_not (dt_val (de_call C__law_is (hr.mono (by decide)) (takes_of rfl rfl rfl rfl) (by rfl) (dae_cons (de_callk0 C_ratio_made (hr.mono (by decide)) (takes_of rfl rfl rfl rfl) (by rfl) (kbn_fun F_ratio_made (ks := ["under", "number"]) (n := 0) (is := [1, 0]) fun _ _ _ _ _ _ us ws h1 h2 => match us, ws, h1, h2 with | [], [_, _], _, _ => rfl) (dk_cons (de_v 3) (dk_cons (de_v 2) dk_nil))) (dae_cons (de_v 5) dae_nil)))))))) (dss_one (ds_ret de_bl)) dss_nil)
    (dss_cons (ds_if (dt_w (dw_or (dt_cmp op_isnot_bl op2_isnot (de_call C_is_ratio (hr.mono (by decide)) (takes_of rfl rfl rfl rfl) (by rfl) (dae_cons (de_v 4) dae_nil)) de_bl (nomark _)) (dw_or1 (dt_cmp op_isnot_bl op2_isnot (de_callk0 C_is_ratio (hr.mono (by decide)) (takes_of rfl rfl rfl rfl) (by rfl) (kbn_fun F_is_ratio (ks := ["value"]) (n := 0) (is := [0]) fun _ _ _ _ _ _ us ws h1 h2 => match us, ws, h1, h2 with | [], [_], _, _ => rfl) (dk_cons (de_v 5) dk_nil)) de_bl (nomark _))))) (dss_one (ds_ret de_bl)) dss_nil)
    (dss_cons (ds_if (dt_not (dt_val (de_call C__law_is (hr.mono (by decide)) (takes_of rfl rfl rfl rfl) (by rfl) (dae_cons (de_call C_ratio_plus (hr.mono (by decide)) (takes_of rfl rfl rfl rfl) (by rfl) (dae_cons (de_v 4) (dae_cons (de_v 5) dae_nil))) (dae_cons (de_call C__law_least (hr.mono (by decide)) (takes_of rfl rfl rfl rfl) (by rfl) (dae_cons (de_bin op_addA op2_add (de_bin op_mulW op2_mul (de_v 0) (de_v 3)) (de_bin op_mulW op2_mul (de_v 2) (de_v 1))) (dae_cons (de_bin op_mulW op2_mul (de_v 1) (de_v 3)) dae_nil))) dae_nil))))) (dss_one (ds_ret de_bl)) dss_nil)
    (dss_cons (ds_if (dt_not (dt_val (de_call C__law_is (hr.mono (by decide)) (takes_of rfl rfl rfl rfl) (by rfl) (dae_cons (de_callk0 C_ratio_minus (hr.mono (by decide)) (takes_of rfl rfl rfl rfl) (by rfl) (kbn_fun F_ratio_minus (ks := ["ratio", "other"]) (n := 0) (is := [0, 1]) fun _ _ _ _ _ _ us ws h1 h2 => match us, ws, h1, h2 with | [], [_, _], _, _ => rfl) (dk_cons (de_v 4) (dk_cons (de_v 5) dk_nil))) (dae_cons (de_call C__law_least (hr.mono (by decide)) (takes_of rfl rfl rfl rfl) (by rfl) (dae_cons (de_bin op_subA op2_sub (de_bin op_mulW op2_mul (de_v 0) (de_v 3)) (de_bin op_mulW op2_mul (de_v 2) (de_v 1))) (dae_cons (de_bin op_mulW op2_mul (de_v 1) (de_v 3)) dae_nil))) dae_nil))))) (dss_one (ds_ret de_bl)) dss_nil)
    (dss_cons (ds_if (dt_not (dt_val (de_call C__law_is (hr.mono (by decide)) (takes_of rfl rfl rfl rfl) (by rfl) (dae_cons (de_call C_ratio_times (hr.mono (by decide)) (takes_of rfl rfl rfl rfl) (by rfl) (dae_cons (de_v 4) (dae_cons (de_v 5) dae_nil))) (dae_cons (de_call C__law_least (hr.mono (by decide)) (takes_of rfl rfl rfl rfl) (by rfl) (dae_cons (de_bin op_mulW op2_mul (de_v 0) (de_v 2)) (dae_cons (de_bin op_mulW op2_mul (de_v 1) (de_v 3)) dae_nil))) dae_nil))))) (dss_one (ds_ret de_bl)) dss_nil)
    (dss_cons (ds_if (dt_cmp (op_eqD hu) op2_eq (de_v 2) de_int (nomark _)) (dss_one (ds_if (dt_cmp (op_neD hu) op2_ne (de_call C__law_raised (hr.mono (by decide)) (takes_of rfl rfl rfl rfl) (by rfl) (dae_cons de_str (dae_cons (de_v 4) (dae_cons (de_v 5) dae_nil)))) (de_lst (dae_cons de_str (dae_cons de_str (dae_cons de_bl dae_nil)))) (nomark _)) (dss_one (ds_ret de_bl)) dss_nil)) (dss_one (ds_if (dt_not (dt_val (de_call C__law_is (hr.mono (by decide)) (takes_of rfl rfl rfl rfl) (by rfl) (dae_cons (de_call C_ratio_over (hr.mono (by decide)) (takes_of rfl rfl rfl rfl) (by rfl) (dae_cons (de_v 4) (dae_cons (de_v 5) dae_nil))) (dae_cons (de_call C__law_least (hr.mono (by decide)) (takes_of rfl rfl rfl rfl) (by rfl) (dae_cons (de_bin op_mulW op2_mul (de_v 0) (de_v 3)) (dae_cons (de_bin op_mulW op2_mul (de_v 1) (de_v 2)) dae_nil))) dae_nil))))) (dss_one (ds_ret de_bl)) dss_nil)))
    (dss_cons (ds_set (i := 6) sc__law_pair_right.nd rfl (Or.inl rfl) (de_bin op_subA op2_sub (de_bin op_mulW op2_mul (de_ix ix_any op2_ix (de_v 4) de_int) (de_ix ix_any op2_ix (de_v 5) de_int)) (de_bin op_mulW op2_mul (de_ix ix_any op2_ix (de_v 5) de_int) (de_ix ix_any op2_ix (de_v 4) de_int))))
    (dss_cons (ds_if (dt_cmp (op_neD hu) op2_ne (de_call C_ratio_compared (hr.mono (by decide)) (takes_of rfl rfl rfl rfl) (by rfl) (dae_cons (de_v 4) (dae_cons (de_v 5) dae_nil))) (de_bin op_subA op2_sub (de_cmp op_gt op2_gt (de_v 6) de_int (nomark _)) (de_cmp op_lt op2_lt (de_v 6) de_int (nomark _))) (nomark _)) (dss_one (ds_ret de_bl)) dss_nil)
    (dss_cons (ds_set (i := 7) sc__law_pair_right.nd rfl (Or.inl rfl) (de_callk0 C_ratio_floor (hr.mono (by decide)) (takes_of rfl rfl rfl rfl) (by rfl) (kbn_fun F_ratio_floor (ks := ["ratio"]) (n := 0) (is := [0]) fun _ _ _ _ _ _ us ws h1 h2 => match us, ws, h1, h2 with | [], [_], _, _ => rfl) (dk_cons (de_v 4) dk_nil)))
    (dss_cons (ds_if (dt_w (dw_or (dt_val (de_isi (de_v 7) rfl M.n_isinstance (pe_tyname (by rfl) M.n_bool (by decide +kernel)))) (dw_or1 (dt_not (dt_val (de_isi (de_v 7) rfl M.n_isinstance (pe_tyname (by rfl) M.n_int (by decide +kernel)))))))) (dss_one (ds_ret de_bl)) dss_nil)
    (dss_one (ds_ret (de_chain op_le op2_le op_lt op2_lt (de_bin op_mulW op2_mul (de_v 7) (de_ix ix_any op2_ix (de_v 4) de_int)) (de_ix ix_any op2_ix (de_v 4) de_int) (de_bin op_mulW op2_mul (de_bin op_addA op2_add (de_v 7) de_int) (de_ix ix_any op2_ix (de_v 4) de_int))))))))))))))))
theorem kf__law_pair_right (M : Gs K mg fI c_PaceError c_StateError c_InvalidInteger c_InvalidRatio c_DividedByNought) (H__law_least : KF P w K mg base 3 "_law_least" s__law_least ["number", "under"] d__law_least) (H__law_is : KF P w K mg base 3 "_law_is" s__law_is ["told", "due"] d__law_is) (H_ratio_made : KF P w K mg base 5 "ratio_made" s_ratio_made ["number", "under"] d_ratio_made) (H_is_ratio : KF P w K mg base 4 "is_ratio" s_is_ratio ["value"] d_is_ratio) (H_ratio_plus : KF P w K mg base 6 "ratio_plus" s_ratio_plus ["ratio", "other"] d_ratio_plus) (H_ratio_minus : KF P w K mg base 6 "ratio_minus" s_ratio_minus ["ratio", "other"] d_ratio_minus) (H_ratio_times : KF P w K mg base 6 "ratio_times" s_ratio_times ["ratio", "other"] d_ratio_times) (H__law_raised : KF P w K mg base 8 "_law_raised" s__law_raised ["word", "one", "other"] d__law_raised) (H_ratio_over : KF P w K mg base 6 "ratio_over" s_ratio_over ["ratio", "other"] d_ratio_over) (H_ratio_compared : KF P w K mg base 6 "ratio_compared" s_ratio_compared ["ratio", "other"] d_ratio_compared) (H_ratio_floor : KF P w K mg base 6 "ratio_floor" s_ratio_floor ["ratio"] d_ratio_floor) (R : RF K mg "_law_pair_right" s__law_pair_right ["a", "b", "c", "d"]) : KF P w K mg base 9 "_law_pair_right" s__law_pair_right ["a", "b", "c", "d"] d__law_pair_right := by
  obtain ⟨f, fd, F, gm, kp, bi⟩ := R
  exact ⟨f, fd, F, ⟨ok__law_pair_right M H__law_least H__law_is H_ratio_made H_is_ratio H_ratio_plus H_ratio_minus H_ratio_times H__law_raised H_ratio_over H_ratio_compared H_ratio_floor F, gm, kp, bi⟩⟩
noncomputable def b__law_odd : Gm → SR := (sRet (eLst (aConsE (eTup (aConsE (eC (.int 2)) (aConsE (eC (.int 4)) aNilE))) (aConsE (eTup (aConsE (eC (.int 1)) (aConsE (eC (.int 0)) aNilE))) (aConsE (eTup (aConsE (eC (.int 1)) (aConsE (eOp1 fNeg (eC (.int 2))) aNilE))) (aConsE (eTup (aConsE (eC (.int 0)) (aConsE (eC (.int 2)) aNilE))) (aConsE (eLst (aConsE (eC (.int 1)) (aConsE (eC (.int 2)) aNilE))) (aConsE (eTup (aConsE (eC (.int 1)) aNilE)) (aConsE (eTup (aConsE (eC (.int 1)) (aConsE (eC (.int 2)) (aConsE (eC (.int 3)) aNilE)))) (aConsE (eTup (aConsE (eC (.bool true)) (aConsE (eC (.int 1)) aNilE))) (aConsE (eTup (aConsE (eC (.int 1)) (aConsE (eC (.bool true)) aNilE))) (aConsE (eTup (aConsE (eC (.int 0)) (aConsE (eC (.bool false)) aNilE))) (aConsE (eTup (aConsE (eC (.str "1")) (aConsE (eC (.int 2)) aNilE))) (aConsE (eTup (aConsE (eC (.int 1)) (aConsE (eC (.str "2")) aNilE))) (aConsE (eTup (aConsE (eC .none) (aConsE (eC (.int 1)) aNilE))) (aConsE (eC .none) (aConsE (eC (.str "1/2")) (aConsE (eC (.int 1)) (aConsE (eTup aNilE) (aConsE (eTup (aConsE (eTup (aConsE (eC (.int 1)) (aConsE (eC (.int 2)) aNilE))) (aConsE (eC (.int 1)) aNilE))) (aConsE (eTup (aConsE (eC (.int 1)) (aConsE (eTup (aConsE (eC (.int 2)) aNilE)) aNilE))) (aConsE (eLst (aConsE (eLst (aConsE (eC (.int 1)) aNilE)) (aConsE (eC (.int 2)) aNilE))) aNilE))))))))))))))))))))))
noncomputable def d__law_odd : List B → FR := fnD 0 0 b__law_odd
theorem ok__law_odd (M : Gs K mg fI c_PaceError c_StateError c_InvalidInteger c_InvalidRatio c_DividedByNought) {f : Addr} {fd : FuncData} (F : Fun K "_law_odd" "_law_odd" s__law_odd f fd) : FnG P w K mg base 3 f fd [] (spD K mg d__law_odd) := by
  refine fn_ok (k := 2) (m := 0) (body := b__law_odd) F sc__law_odd rfl fun cdv A outer s H E hr => ?_
  have hu : (A.deeper (envOfC "_law_odd" (defScope s__law_odd) s.heap.objs.size f cdv)).units + 64 < cLine := by have := hr.rm.un; omega
  exact (dss_one (ds_ret (de_lst (dae_cons (de_tup (dae_cons de_int (dae_cons de_int dae_nil))) (dae_cons (de_tup (dae_cons de_int (dae_cons de_int dae_nil))) (dae_cons (de_tup (dae_cons de_int (dae_cons (de_un un_neg op1_neg de_int) dae_nil))) (dae_cons (de_tup (dae_cons de_int (dae_cons de_int dae_nil))) (dae_cons (de_lst (dae_cons de_int (dae_cons de_int dae_nil))) (dae_cons (de_tup (dae_cons de_int dae_nil)) (dae_cons (de_tup (dae_cons de_int (dae_cons de_int (dae_cons de_int dae_nil)))) (dae_cons (de_tup (dae_cons de_bl (dae_cons de_int dae_nil))) (dae_cons (de_tup (dae_cons de_int (dae_cons de_bl dae_nil))) (dae_cons (de_tup (dae_cons de_int (dae_cons de_bl dae_nil))) (dae_cons (de_tup (dae_cons de_str (dae_cons de_int dae_nil))) (dae_cons (de_tup (dae_cons de_int (dae_cons de_str dae_nil))) (dae_cons (de_tup (dae_cons de_non (dae_cons de_int dae_nil))) (dae_cons de_non (dae_cons de_str (dae_cons de_int (dae_cons (de_tup dae_nil) (dae_cons (de_tup (dae_cons (de_tup (dae_cons de_int (dae_cons de_int dae_nil))) (dae_cons de_int dae_nil))) (dae_cons (de_tup (dae_cons de_int (dae_cons (de_tup (dae_cons de_int dae_nil)) dae_nil))) (dae_cons (de_lst (dae_cons (de_lst (dae_cons de_int dae_nil)) (dae_cons de_int dae_nil))) dae_nil)))))))))))))))))))))))
theorem kf__law_odd (M : Gs K mg fI c_PaceError c_StateError c_InvalidInteger c_InvalidRatio c_DividedByNought) (R : RF K mg "_law_odd" s__law_odd []) : KF P w K mg base 3 "_law_odd" s__law_odd [] d__law_odd := by
  obtain ⟨f, fd, F, gm, kp, bi⟩ := R
  exact ⟨f, fd, F, ⟨ok__law_odd M F, gm, kp, bi⟩⟩
noncomputable def b__law_refusals_right : Gm → SR := (sSeq (sSet 2 (eCall0 d__law_odd))
  (sSeq (sPar [3, 4] (aCons (eOp2 fIx (eV 2) (eCallIo d__law_draw 0 (aConsE (eOpN fLen (aCons (eV 2) aNil)) aNilE))) (aCons (eOp2 fIx (eV 2) (eCallIo d__law_draw 0 (aConsE (eOpN fLen (aCons (eV 2) aNil)) aNilE))) aNil)))
  (sSeq (sIf (tOf (eOp2 fIsNot (eCall d_is_ratio (aConsE (eV 3) aNilE)) (eC (.bool false)))) (sRet (eC (.bool false))) sNext)
  (sSeq (sFor (itE (eLst (aConsE (eC (.str "plus")) (aConsE (eC (.str "minus")) (aConsE (eC (.str "times")) (aConsE (eC (.str "over")) (aConsE (eC (.str "compared")) aNilE))))))) (tgN (.nm 5))
  (sSeq (sIf (tOf (eOp2 fNe (eCall d__law_raised (aConsE (eV 5) (aConsE (eV 3) (aConsE (eV 4) aNilE)))) (eLst (aConsE (eC (.str "InvalidRatio")) (aConsE (eOpN fRepr (aCons (eV 3) aNil)) (aConsE (eC (.bool true)) aNilE)))))) (sRet (eC (.bool false))) sNext)
  (sIf (tOf (eOp2 fNe (eCall d__law_raised (aConsE (eV 5) (aConsE (eV 1) (aConsE (eV 3) aNilE)))) (eLst (aConsE (eC (.str "InvalidRatio")) (aConsE (eOpN fRepr (aCons (eV 3) aNil)) (aConsE (eC (.bool true)) aNilE)))))) (sRet (eC (.bool false))) sNext)))
  (sSeq (sIf (tOf (eOp2 fNe (eCall d__law_raised (aConsE (eC (.str "floor")) (aConsE (eV 3) (aConsE (eC .none) aNilE)))) (eLst (aConsE (eC (.str "InvalidRatio")) (aConsE (eOpN fRepr (aCons (eV 3) aNil)) (aConsE (eC (.bool true)) aNilE)))))) (sRet (eC (.bool false))) sNext)
  (sSeq (sSet 6 (eOp2 fIx (eLst (aConsE (eC (.bool true)) (aConsE (eC (.bool false)) (aConsE (eC .none) (aConsE (eC (.str "1")) (aConsE (eTup (aConsE (eC (.int 1)) (aConsE (eC (.int 2)) aNilE))) (aConsE (eLst (aConsE (eC (.int 3)) aNilE)) (aConsE (eC (.str "")) (aConsE (eTup aNilE) aNilE))))))))) (eCallIo d__law_draw 0 (aConsE (eC (.int 8)) aNilE))))
  (sSeq (sIf (tOf (eOp2 fNe (eCall d__law_raised (aConsE (eC (.str "made")) (aConsE (eV 6) (aConsE (eC (.int 0)) aNilE)))) (eLst (aConsE (eC (.str "InvalidInteger")) (aConsE (eOpN fRepr (aCons (eV 6) aNil)) (aConsE (eC (.bool true)) aNilE)))))) (sRet (eC (.bool false))) sNext)
  (sSeq (sFor (itE (eLst (aConsE (eV 6) (aConsE (eC (.int 0)) aNilE)))) (tgN (.nm 7))
  (sIf (tOf (eOp2 fNe (eCall d__law_raised (aConsE (eC (.str "made")) (aConsE (eOp2 fIx (eV 1) (eC (.int 0))) (aConsE (eV 7) aNilE)))) (eLst (aConsE (eC (.str "InvalidInteger")) (aConsE (eOpN fRepr (aCons (eV 7) aNil)) (aConsE (eC (.bool true)) aNilE)))))) (sRet (eC (.bool false))) sNext))
  (sRet (eC (.bool true)))))))))))
noncomputable def d__law_refusals_right : List B → FR := fnD 2 6 b__law_refusals_right
theorem ok__law_refusals_right (M : Gs K mg fI c_PaceError c_StateError c_InvalidInteger c_InvalidRatio c_DividedByNought) (H__law_odd : KF P w K mg base 3 "_law_odd" s__law_odd [] d__law_odd) (H__law_draw : KF P w K mg base 3 "_law_draw" s__law_draw ["pot", "many"] d__law_draw) (H_is_ratio : KF P w K mg base 4 "is_ratio" s_is_ratio ["value"] d_is_ratio) (H__law_raised : KF P w K mg base 8 "_law_raised" s__law_raised ["word", "one", "other"] d__law_raised) {f : Addr} {fd : FuncData} (F : Fun K "_law_refusals_right" "_law_refusals_right" s__law_refusals_right f fd) : FnG P w K mg base 9 f fd ["pot", "one"] (spD K mg d__law_refusals_right) := by
  obtain ⟨f__law_odd, fd__law_odd, ⟨F__law_odd, C__law_odd⟩⟩ := H__law_odd
  obtain ⟨f__law_draw, fd__law_draw, ⟨F__law_draw, C__law_draw⟩⟩ := H__law_draw
  obtain ⟨f_is_ratio, fd_is_ratio, ⟨F_is_ratio, C_is_ratio⟩⟩ := H_is_ratio
  obtain ⟨f__law_raised, fd__law_raised, ⟨F__law_raised, C__law_raised⟩⟩ := H__law_raised
  refine fn_ok (k := 8) (m := 6) (body := b__law_refusals_right) F sc__law_refusals_right rfl fun cdv A outer s H E hr => ?_
  have hu : (A.deeper (envOfC "_law_refusals_right" (defScope s__law_refusals_right) s.heap.objs.size f cdv)).units + 64 < cLine := by have := hr.rm.un; omega
  exact (dss_cons (ds_set (i := 2) sc__law_refusals_right.nd rfl (Or.inl rfl) (de_call0 C__law_odd (hr.mono (by decide)) (takes_of rfl rfl rfl rfl) (by rfl)))
    (dss_cons (ds_par2 (i := 3) (j := 4) rfl sc__law_refusals_right.nd rfl rfl (by decide) rfl rfl (da_cons (de_ix ix_any op2_ix (de_v 2) (de_callio (i := 0) C__law_draw (hr.mono (by decide)) (takes_of rfl rfl rfl rfl) (by rfl) (pv 0) (dae_cons (de_cb call_len opn_len rfl M.n_len boot_len (da_cons (de_v 2) da_nil)) dae_nil))) (da_cons (de_ix ix_any op2_ix (de_v 2) (de_callio (i := 0) C__law_draw (hr.mono (by decide)) (takes_of rfl rfl rfl rfl) (by rfl) (pv 0) (dae_cons (de_cb call_len opn_len rfl M.n_len boot_len (da_cons (de_v 2) da_nil)) dae_nil))) da_nil)) rfl)
    (dss_cons (ds_if (dt_cmp op_isnot_bl op2_isnot (de_call C_is_ratio (hr.mono (by decide)) (takes_of rfl rfl rfl rfl) (by rfl) (dae_cons (de_v 3) dae_nil)) de_bl (nomark _)) (dss_one (ds_ret de_bl)) dss_nil)
    (dss_cons (ds_for (passes_of rfl) rfl (di_e (de_lst (dae_cons de_str (dae_cons de_str (dae_cons de_str (dae_cons de_str (dae_cons de_str dae_nil))))))) (dgt_n (dg_nm (pg_name (i := 5) sc__law_refusals_right.nd rfl (Or.inl rfl))))
    (dss_cons (ds_if (dt_cmp (op_neD hu) op2_ne (de_call C__law_raised (hr.mono (by decide)) (takes_of rfl rfl rfl rfl) (by rfl) (dae_cons (de_v 5) (dae_cons (de_v 3) (dae_cons (de_v 4) dae_nil)))) (de_lst (dae_cons de_str (dae_cons (de_cb (callr_repr hr.gd hu) opn_repr rfl M.n_repr boot_repr (da_cons (de_v 3) da_nil)) (dae_cons de_bl dae_nil)))) (nomark _)) (dss_one (ds_ret de_bl)) dss_nil)
    (dss_one (ds_if (dt_cmp (op_neD hu) op2_ne (de_call C__law_raised (hr.mono (by decide)) (takes_of rfl rfl rfl rfl) (by rfl) (dae_cons (de_v 5) (dae_cons (de_v 1) (dae_cons (de_v 3) dae_nil)))) (de_lst (dae_cons de_str (dae_cons (de_cb (callr_repr hr.gd hu) opn_repr rfl M.n_repr boot_repr (da_cons (de_v 3) da_nil)) (dae_cons de_bl dae_nil)))) (nomark _)) (dss_one (ds_ret de_bl)) dss_nil))))
    (dss_cons (ds_if (dt_cmp (op_neD hu) op2_ne (de_call C__law_raised (hr.mono (by decide)) (takes_of rfl rfl rfl rfl) (by rfl) (dae_cons de_str (dae_cons (de_v 3) (dae_cons de_non dae_nil)))) (de_lst (dae_cons de_str (dae_cons (de_cb (callr_repr hr.gd hu) opn_repr rfl M.n_repr boot_repr (da_cons (de_v 3) da_nil)) (dae_cons de_bl dae_nil)))) (nomark _)) (dss_one (ds_ret de_bl)) dss_nil)
    (dss_cons (ds_set (i := 6) sc__law_refusals_right.nd rfl (Or.inl rfl) (de_ix ix_any op2_ix (de_lst (dae_cons de_bl (dae_cons de_bl (dae_cons de_non (dae_cons de_str (dae_cons (de_tup (dae_cons de_int (dae_cons de_int dae_nil))) (dae_cons (de_lst (dae_cons de_int dae_nil)) (dae_cons de_str (dae_cons (de_tup dae_nil) dae_nil))))))))) (de_callio (i := 0) C__law_draw (hr.mono (by decide)) (takes_of rfl rfl rfl rfl) (by rfl) (pv 0) (dae_cons de_int dae_nil))))
    (dss_cons (ds_if (dt_cmp (op_neD hu) op2_ne (de_call C__law_raised (hr.mono (by decide)) (takes_of rfl rfl rfl rfl) (by rfl) (dae_cons de_str (dae_cons (de_v 6) (dae_cons de_int dae_nil)))) (de_lst (dae_cons de_str (dae_cons (de_cb (callr_repr hr.gd hu) opn_repr rfl M.n_repr boot_repr (da_cons (de_v 6) da_nil)) (dae_cons de_bl dae_nil)))) (nomark _)) (dss_one (ds_ret de_bl)) dss_nil)
    (dss_cons (ds_for (passes_of rfl) rfl (di_e (de_lst (dae_cons (de_v 6) (dae_cons de_int dae_nil)))) (dgt_n (dg_nm (pg_name (i := 7) sc__law_refusals_right.nd rfl (Or.inl rfl))))
    (dss_one (ds_if (dt_cmp (op_neD hu) op2_ne (de_call C__law_raised (hr.mono (by decide)) (takes_of rfl rfl rfl rfl) (by rfl) (dae_cons de_str (dae_cons (de_ix ix_any op2_ix (de_v 1) de_int) (dae_cons (de_v 7) dae_nil)))) (de_lst (dae_cons de_str (dae_cons (de_cb (callr_repr hr.gd hu) opn_repr rfl M.n_repr boot_repr (da_cons (de_v 7) da_nil)) (dae_cons de_bl dae_nil)))) (nomark _)) (dss_one (ds_ret de_bl)) dss_nil)))
    (dss_one (ds_ret de_bl))))))))))
theorem kf__law_refusals_right (M : Gs K mg fI c_PaceError c_StateError c_InvalidInteger c_InvalidRatio c_DividedByNought) (H__law_odd : KF P w K mg base 3 "_law_odd" s__law_odd [] d__law_odd) (H__law_draw : KF P w K mg base 3 "_law_draw" s__law_draw ["pot", "many"] d__law_draw) (H_is_ratio : KF P w K mg base 4 "is_ratio" s_is_ratio ["value"] d_is_ratio) (H__law_raised : KF P w K mg base 8 "_law_raised" s__law_raised ["word", "one", "other"] d__law_raised) (R : RF K mg "_law_refusals_right" s__law_refusals_right ["pot", "one"]) : KF P w K mg base 9 "_law_refusals_right" s__law_refusals_right ["pot", "one"] d__law_refusals_right := by
  obtain ⟨f, fd, F, gm, kp, bi⟩ := R
  exact ⟨f, fd, F, ⟨ok__law_refusals_right M H__law_odd H__law_draw H_is_ratio H__law_raised F, gm, kp, bi⟩⟩
noncomputable def b_law : Gm → SR := (sSeq (sFor (itR (aConsE (eC (.int 2)) aNilE)) (tgN (.nm 1))
  (sSeq (sSet 2 (eCall d__law_pot (aConsE (eV 0) (aConsE (eV 1) aNilE))))
  (sSeq (sPar [3, 4, 5, 6] (aCons (eCallIo d__law_whole 2 aNilE) (aCons (eCallIo d__law_under 2 aNilE) (aCons (eCallIo d__law_whole 2 aNilE) (aCons (eCallIo d__law_under 2 aNilE) aNil)))))
  (sSeq (sIf (tOr' (tNo (tOf (eCall d__law_pair_right (aConsE (eV 3) (aConsE (eV 4) (aConsE (eV 5) (aConsE (eV 6) aNilE))))))) (tNo (tOf (eCall d__law_pair_right (aConsE (eV 5) (aConsE (eV 6) (aConsE (eV 3) (aConsE (eV 4) aNilE)))))))) (sRet (eC (.bool false))) sNext)
  (sSeq (sIf (tOr' (tNo (tOf (eCall d__law_pair_right (aConsE (eV 3) (aConsE (eV 4) (aConsE (eOp2 fMul (eV 3) (eC (.int 3))) (aConsE (eOp2 fMul (eV 4) (eC (.int 3))) aNilE))))))) (tNo (tOf (eCall d__law_pair_right (aConsE (eV 3) (aConsE (eV 4) (aConsE (eC (.int 0)) (aConsE (eV 6) aNilE)))))))) (sRet (eC (.bool false))) sNext)
  (sIf (tNo (tOf (eCallIo d__law_refusals_right 2 (aConsE (eCall d__law_least (aConsE (eV 3) (aConsE (eV 4) aNilE))) aNilE)))) (sRet (eC (.bool false))) sNext))))))
  (sRet (eC (.bool true))))
noncomputable def d_law : List B → FR := fnD 1 6 b_law
theorem ok_law (M : Gs K mg fI c_PaceError c_StateError c_InvalidInteger c_InvalidRatio c_DividedByNought) (H__law_pot : KF P w K mg base 3 "_law_pot" s__law_pot ["script", "k"] d__law_pot) (H__law_under : KF P w K mg base 5 "_law_under" s__law_under ["pot"] d__law_under) (H__law_whole : KF P w K mg base 4 "_law_whole" s__law_whole ["pot"] d__law_whole) (H__law_pair_right : KF P w K mg base 9 "_law_pair_right" s__law_pair_right ["a", "b", "c", "d"] d__law_pair_right) (H__law_refusals_right : KF P w K mg base 9 "_law_refusals_right" s__law_refusals_right ["pot", "one"] d__law_refusals_right) (H__law_least : KF P w K mg base 3 "_law_least" s__law_least ["number", "under"] d__law_least) {f : Addr} {fd : FuncData} (F : Fun K "law" "law" s_law f fd) : FnG P w K mg base 10 f fd ["script"] (spD K mg d_law) := by
  obtain ⟨f__law_pot, fd__law_pot, ⟨F__law_pot, C__law_pot⟩⟩ := H__law_pot
  obtain ⟨f__law_under, fd__law_under, ⟨F__law_under, C__law_under⟩⟩ := H__law_under
  obtain ⟨f__law_whole, fd__law_whole, ⟨F__law_whole, C__law_whole⟩⟩ := H__law_whole
  obtain ⟨f__law_pair_right, fd__law_pair_right, ⟨F__law_pair_right, C__law_pair_right⟩⟩ := H__law_pair_right
  obtain ⟨f__law_refusals_right, fd__law_refusals_right, ⟨F__law_refusals_right, C__law_refusals_right⟩⟩ := H__law_refusals_right
  obtain ⟨f__law_least, fd__law_least, ⟨F__law_least, C__law_least⟩⟩ := H__law_least
  refine fn_ok (k := 9) (m := 6) (body := b_law) F sc_law rfl fun cdv A outer s H E hr => ?_
  have hu : (A.deeper (envOfC "law" (defScope s_law) s.heap.objs.size f cdv)).units + 64 < cLine := by have := hr.rm.un; omega
  exact (dss_cons (ds_for (passes_of rfl) rfl (di_range1 (dae_cons de_int dae_nil) (fun h => pi_range1 rfl M.n_range h) len1) (dgt_n (dg_nm (pg_name (i := 1) sc_law.nd rfl (Or.inl rfl))))
    (dss_cons (ds_set (i := 2) sc_law.nd rfl (Or.inl rfl) (de_call C__law_pot (hr.mono (by decide)) (takes_of rfl rfl rfl rfl) (by rfl) (dae_cons (de_v 0) (dae_cons (de_v 1) dae_nil))))
    (dss_cons (ds_parT (n := 4) (da_cons (de_callio (i := 2) C__law_whole (hr.mono (by decide)) (takes_of rfl rfl rfl rfl) (by rfl) (pv 2) dae_nil) (da_cons (de_callio (i := 2) C__law_under (hr.mono (by decide)) (takes_of rfl rfl rfl rfl) (by rfl) (pv 2) dae_nil) (da_cons (de_callio (i := 2) C__law_whole (hr.mono (by decide)) (takes_of rfl rfl rfl rfl) (by rfl) (pv 2) dae_nil) (da_cons (de_callio (i := 2) C__law_under (hr.mono (by decide)) (takes_of rfl rfl rfl rfl) (by rfl) (pv 2) dae_nil) da_nil)))) (pgs_names_cons (pg_name (i := 3) sc_law.nd rfl (Or.inl rfl)) (pgs_names_cons (pg_name (i := 4) sc_law.nd rfl (Or.inl rfl)) (pgs_names_cons (pg_name (i := 5) sc_law.nd rfl (Or.inl rfl)) (pgs_names_cons (pg_name (i := 6) sc_law.nd rfl (Or.inl rfl)) pgs_names_nil (by decide) (fun h1 h2 => pgs_cons h1 h2)) (by decide) (fun h1 h2 => pgs_cons h1 h2)) (by decide) (fun h1 h2 => pgs_cons h1 h2)) (by decide) (fun h1 h2 => pgs_cons h1 h2)) (fun h => pg_tup rfl h) rfl (by decide))
    (dss_cons (ds_if (dt_w (dw_or (dt_not (dt_val (de_call C__law_pair_right (hr.mono (by decide)) (takes_of rfl rfl rfl rfl) (by rfl) (dae_cons (de_v 3) (dae_cons (de_v 4) (dae_cons (de_v 5) (dae_cons (de_v 6) dae_nil))))))) (dw_or1 (dt_not (dt_val (de_call C__law_pair_right (hr.mono (by decide)) (takes_of rfl rfl rfl rfl) (by rfl) (dae_cons (de_v 5) (dae_cons (de_v 6) (dae_cons (de_v 3) (dae_cons (de_v 4) dae_nil)))))))))) (dss_one (ds_ret de_bl)) dss_nil)
    (dss_cons (ds_if (dt_w (dw_or (dt_not (dt_val (de_call C__law_pair_right (hr.mono (by decide)) (takes_of rfl rfl rfl rfl) (by rfl) (dae_cons (de_v 3) (dae_cons (de_v 4) (dae_cons (de_bin op_mulW op2_mul (de_v 3) de_int) (dae_cons (de_bin op_mulW op2_mul (de_v 4) de_int) dae_nil))))))) (dw_or1 (dt_not (dt_val (de_call C__law_pair_right (hr.mono (by decide)) (takes_of rfl rfl rfl rfl) (by rfl) (dae_cons (de_v 3) (dae_cons (de_v 4) (dae_cons de_int (dae_cons (de_v 6) dae_nil)))))))))) (dss_one (ds_ret de_bl)) dss_nil)
    (dss_one (ds_if (dt_not (dt_val (de_callio (i := 2) C__law_refusals_right (hr.mono (by decide)) (takes_of rfl rfl rfl rfl) (by rfl) (pv 2) (dae_cons (de_call C__law_least (hr.mono (by decide)) (takes_of rfl rfl rfl rfl) (by rfl) (dae_cons (de_v 3) (dae_cons (de_v 4) dae_nil))) dae_nil)))) (dss_one (ds_ret de_bl)) dss_nil)))))))
    (dss_one (ds_ret de_bl)))
theorem kf_law (M : Gs K mg fI c_PaceError c_StateError c_InvalidInteger c_InvalidRatio c_DividedByNought) (H__law_pot : KF P w K mg base 3 "_law_pot" s__law_pot ["script", "k"] d__law_pot) (H__law_under : KF P w K mg base 5 "_law_under" s__law_under ["pot"] d__law_under) (H__law_whole : KF P w K mg base 4 "_law_whole" s__law_whole ["pot"] d__law_whole) (H__law_pair_right : KF P w K mg base 9 "_law_pair_right" s__law_pair_right ["a", "b", "c", "d"] d__law_pair_right) (H__law_refusals_right : KF P w K mg base 9 "_law_refusals_right" s__law_refusals_right ["pot", "one"] d__law_refusals_right) (H__law_least : KF P w K mg base 3 "_law_least" s__law_least ["number", "under"] d__law_least) (R : RF K mg "law" s_law ["script"]) : KF P w K mg base 10 "law" s_law ["script"] d_law := by
  obtain ⟨f, fd, F, gm, kp, bi⟩ := R
  exact ⟨f, fd, F, ⟨ok_law M H__law_pot H__law_under H__law_whole H__law_pair_right H__law_refusals_right H__law_least F, gm, kp, bi⟩⟩
end
/-! ### what the top has written -/
theorem rf_mk {K : PySem.W.Frag} {h : Heap} {mg : Str → Option Value} {x : Str} {st : Stmt} {ps : List Str} {f : Addr} {od an : Option Addr} {sl : Array (Option Value)} {oc kV dc pm cd ct : Value} (X : K.In h) (G : h.Ns mainGlobals mg) (a : PySem.W.nsIn K mainGlobals x = some (some (.ref f))) (l : K.lookup f = some ⟨oc, od, .func (PySem.W.fnOf x x (defArgs st) (defBody st) (defScope st) .none kV dc pm an cd ct), sl⟩) (c : PySem.W.codeIn K cd x = true) (k : PySem.W.keepIn K (.ref f) = true)
    (b : ∀ (kV doc pm : Value) (an : Option Addr) (cdv ct : Value) (us : List Value), us.length = ps.length → bindArgs (PySem.W.fnOf x x (defArgs st) (defBody st) (defScope st) .none kV doc pm an cdv ct) ⟨us, []⟩ = pure (ps.zip us)) : RF K mg x st ps :=
  ⟨f, _, fun_mk (st := st) l c k, PySem.W.mg_of X G a, k, (fun_mk (st := st) l c k).binds b⟩
theorem gs_mk {K : PySem.W.Frag} {h : Heap} {mg : Str → Option Value} (X : K.In h) (G : h.Ns mainGlobals mg)
    {fI c_PaceError c_StateError c_InvalidInteger c_InvalidRatio c_DividedByNought : Addr}
    (a_PaceError : PySem.W.nsIn K mainGlobals "PaceError" = some (some (.ref c_PaceError)))
    (a_StateError : PySem.W.nsIn K mainGlobals "StateError" = some (some (.ref c_StateError)))
    (a_InvalidInteger : PySem.W.nsIn K mainGlobals "InvalidInteger" = some (some (.ref c_InvalidInteger)))
    (a_InvalidRatio : PySem.W.nsIn K mainGlobals "InvalidRatio" = some (some (.ref c_InvalidRatio)))
    (a_DividedByNought : PySem.W.nsIn K mainGlobals "DividedByNought" = some (some (.ref c_DividedByNought)))
    (n_abs : PySem.W.nsIn K mainGlobals "abs" = some none)
    (n_bool : PySem.W.nsIn K mainGlobals "bool" = some none)
    (n_divmod : PySem.W.nsIn K mainGlobals "divmod" = some none)
    (n_int : PySem.W.nsIn K mainGlobals "int" = some none)
    (n_isinstance : PySem.W.nsIn K mainGlobals "isinstance" = some none)
    (n_len : PySem.W.nsIn K mainGlobals "len" = some none)
    (n_max : PySem.W.nsIn K mainGlobals "max" = some none)
    (n_range : PySem.W.nsIn K mainGlobals "range" = some none)
    (n_repr : PySem.W.nsIn K mainGlobals "repr" = some none)
    (n_sum : PySem.W.nsIn K mainGlobals "sum" = some none)
    (n_tuple : PySem.W.nsIn K mainGlobals "tuple" = some none)
    (m_gcd : PySem.W.nsIn K mainGlobals "gcd" = some (some (.builtin "math.gcd")))
    {nm_InvalidInteger q_InvalidInteger : Str} {N_InvalidInteger : Addr} {bs_InvalidInteger sub_InvalidInteger : List Value} {sn_InvalidInteger : List Str} {ab_InvalidInteger : Bool} {col_InvalidInteger : Option Bool} {dd_InvalidInteger : Option Addr} {m0_InvalidInteger m1_InvalidInteger m2_InvalidInteger m3_InvalidInteger m5_InvalidInteger : Option Value}
    (x_InvalidInteger : K.lookup c_InvalidInteger = some (excClassObj nm_InvalidInteger q_InvalidInteger c_InvalidInteger N_InvalidInteger bs_InvalidInteger [.ref c_PaceError, .type "ValueError", .type "Exception", .type "BaseException", .type "object"] true sn_InvalidInteger sub_InvalidInteger ab_InvalidInteger col_InvalidInteger dd_InvalidInteger m0_InvalidInteger m1_InvalidInteger m2_InvalidInteger m3_InvalidInteger m5_InvalidInteger "ValueError.__new__"))
    (sa_InvalidInteger : PySem.W.findIn K (.ref c_InvalidInteger) "__setattr__" = some (some (.builtin "object.__setattr__")))
    (nv_InvalidInteger : PySem.W.findIn K (.ref c_InvalidInteger) "value" = some none)
    (in_InvalidInteger : PySem.W.findIn K (.ref c_InvalidInteger) "__init__" = some (some (.ref fI)))
    {nm_InvalidRatio q_InvalidRatio : Str} {N_InvalidRatio : Addr} {bs_InvalidRatio sub_InvalidRatio : List Value} {sn_InvalidRatio : List Str} {ab_InvalidRatio : Bool} {col_InvalidRatio : Option Bool} {dd_InvalidRatio : Option Addr} {m0_InvalidRatio m1_InvalidRatio m2_InvalidRatio m3_InvalidRatio m5_InvalidRatio : Option Value}
    (x_InvalidRatio : K.lookup c_InvalidRatio = some (excClassObj nm_InvalidRatio q_InvalidRatio c_InvalidRatio N_InvalidRatio bs_InvalidRatio [.ref c_PaceError, .type "ValueError", .type "Exception", .type "BaseException", .type "object"] true sn_InvalidRatio sub_InvalidRatio ab_InvalidRatio col_InvalidRatio dd_InvalidRatio m0_InvalidRatio m1_InvalidRatio m2_InvalidRatio m3_InvalidRatio m5_InvalidRatio "ValueError.__new__"))
    (sa_InvalidRatio : PySem.W.findIn K (.ref c_InvalidRatio) "__setattr__" = some (some (.builtin "object.__setattr__")))
    (nv_InvalidRatio : PySem.W.findIn K (.ref c_InvalidRatio) "value" = some none)
    (in_InvalidRatio : PySem.W.findIn K (.ref c_InvalidRatio) "__init__" = some (some (.ref fI)))
    (ga_InvalidInteger : PySem.W.findIn K (.ref c_InvalidInteger) "__getattribute__" = some (some (.builtin "BaseException.__getattribute__")))
    (gg_InvalidInteger : PySem.W.findIn K (.ref c_InvalidInteger) "__getattr__" = some none)
    (k_InvalidInteger : PySem.W.keepIn K (.ref c_InvalidInteger) = true)
    (e_InvalidInteger : PySem.W.subIn K (.ref c_InvalidInteger) (.type "BaseException") = some true)
    (t_InvalidInteger : PySem.W.typeIn K (.ref c_InvalidInteger) = some (.type "type"))
    (hd_InvalidInteger : PySem.W.hasDictIn K c_InvalidInteger = true)
    (ga_InvalidRatio : PySem.W.findIn K (.ref c_InvalidRatio) "__getattribute__" = some (some (.builtin "BaseException.__getattribute__")))
    (gg_InvalidRatio : PySem.W.findIn K (.ref c_InvalidRatio) "__getattr__" = some none)
    (k_InvalidRatio : PySem.W.keepIn K (.ref c_InvalidRatio) = true)
    (e_InvalidRatio : PySem.W.subIn K (.ref c_InvalidRatio) (.type "BaseException") = some true)
    (t_InvalidRatio : PySem.W.typeIn K (.ref c_InvalidRatio) = some (.type "type"))
    (hd_InvalidRatio : PySem.W.hasDictIn K c_InvalidRatio = true)
    (ga_DividedByNought : PySem.W.findIn K (.ref c_DividedByNought) "__getattribute__" = some (some (.builtin "BaseException.__getattribute__")))
    (gg_DividedByNought : PySem.W.findIn K (.ref c_DividedByNought) "__getattr__" = some none)
    (k_DividedByNought : PySem.W.keepIn K (.ref c_DividedByNought) = true)
    (e_DividedByNought : PySem.W.subIn K (.ref c_DividedByNought) (.type "BaseException") = some true)
    (t_DividedByNought : PySem.W.typeIn K (.ref c_DividedByNought) = some (.type "type"))
    (hd_DividedByNought : PySem.W.hasDictIn K c_DividedByNought = true)
    {odI anI odT : Option Addr} {slI slT : Array (Option Value)} {ocI dcI pmI cdI ctI ocT : Value} {tD : Addr} {nT : Nat}
    (tI : PySem.W.typeIn K (.ref fI) = some (.type "function"))
    (lI : K.lookup fI = some ⟨ocI, odI, .func (PySem.W.fnOf "__init__" "PaceError.__init__" (PySem.LowV.iA ⟨5, 17, 5, 21⟩ ⟨5, 23, 5, 28⟩ ⟨5, 29, 5, 33⟩) (PySem.LowV.iB ⟨6, 8, 6, 12⟩ ⟨6, 8, 6, 18⟩ ⟨6, 21, 6, 26⟩ ⟨6, 8, 6, 26⟩) PySem.LowV.iS (.ref tD) .none dcI pmI anI cdI ctI), slI⟩)
    (cI : PySem.W.codeIn K cdI "PaceError.__init__" = true)
    (lT : K.lookup tD = some ⟨ocT, odT, .seq #[Value.none] nT, slT⟩)
    (xi_DividedByNought : PySem.W.excIn K c_DividedByNought [.type "RuntimeError", .type "Exception", .type "BaseException", .type "object"] "RuntimeError.__new__" = true)
    (ic_InvalidRatio : (PySem.W.clsIn K c_InvalidRatio).isSome = true)
    (ha_InvalidRatio : PySem.W.findIn K (.ref c_InvalidRatio) "__class__" = some (some (.builtin "object.__class__")))
    (hm_InvalidRatio : PySem.W.mroIn K c_InvalidRatio (.type "object") = some true)
    (ic_InvalidInteger : (PySem.W.clsIn K c_InvalidInteger).isSome = true)
    (ha_InvalidInteger : PySem.W.findIn K (.ref c_InvalidInteger) "__class__" = some (some (.builtin "object.__class__")))
    (hm_InvalidInteger : PySem.W.mroIn K c_InvalidInteger (.type "object") = some true)
    (ic_DividedByNought : (PySem.W.clsIn K c_DividedByNought).isSome = true)
    (ha_DividedByNought : PySem.W.findIn K (.ref c_DividedByNought) "__class__" = some (some (.builtin "object.__class__")))
    (hm_DividedByNought : PySem.W.mroIn K c_DividedByNought (.type "object") = some true)
    (hn : PySem.W.specialIn K (.builtin "object.__class__") "__get__" = some (some (.builtin "getset_descriptor.__get__")))
    (ht : PySem.W.takesIn K (.builtin "object.__class__") = some true)
    (i_InvalidRatio_PaceError : PySem.W.kitOne K (.ref c_InvalidRatio) (.ref c_PaceError) = some true)
    (i_InvalidInteger_PaceError : PySem.W.kitOne K (.ref c_InvalidInteger) (.ref c_PaceError) = some true)
    (i_DividedByNought_StateError : PySem.W.kitOne K (.ref c_DividedByNought) (.ref c_StateError) = some true)
    (s_InvalidInteger_InvalidRatio : PySem.W.exmOne K (.ref c_InvalidInteger) (.ref c_InvalidRatio) = some false)
    (s_InvalidRatio_InvalidRatio : PySem.W.exmOne K (.ref c_InvalidRatio) (.ref c_InvalidRatio) = some true)
    (s_DividedByNought_InvalidRatio : PySem.W.exmOne K (.ref c_DividedByNought) (.ref c_InvalidRatio) = some false)
    (s_InvalidInteger_InvalidInteger : PySem.W.exmOne K (.ref c_InvalidInteger) (.ref c_InvalidInteger) = some true)
    (s_InvalidRatio_InvalidInteger : PySem.W.exmOne K (.ref c_InvalidRatio) (.ref c_InvalidInteger) = some false)
    (s_DividedByNought_InvalidInteger : PySem.W.exmOne K (.ref c_DividedByNought) (.ref c_InvalidInteger) = some false)
    (s_InvalidInteger_DividedByNought : PySem.W.exmOne K (.ref c_InvalidInteger) (.ref c_DividedByNought) = some false)
    (s_InvalidRatio_DividedByNought : PySem.W.exmOne K (.ref c_InvalidRatio) (.ref c_DividedByNought) = some false)
    (s_DividedByNought_DividedByNought : PySem.W.exmOne K (.ref c_DividedByNought) (.ref c_DividedByNought) = some true)
    : Gs K mg fI c_PaceError c_StateError c_InvalidInteger c_InvalidRatio c_DividedByNought :=
  {
    n_abs := PySem.W.mg_none_of X G n_abs
    n_bool := PySem.W.mg_none_of X G n_bool
    n_divmod := PySem.W.mg_none_of X G n_divmod
    n_int := PySem.W.mg_none_of X G n_int
    n_isinstance := PySem.W.mg_none_of X G n_isinstance
    n_len := PySem.W.mg_none_of X G n_len
    n_max := PySem.W.mg_none_of X G n_max
    n_range := PySem.W.mg_none_of X G n_range
    n_repr := PySem.W.mg_none_of X G n_repr
    n_sum := PySem.W.mg_none_of X G n_sum
    n_tuple := PySem.W.mg_none_of X G n_tuple
    m_gcd := PySem.W.mg_of X G m_gcd
    g_PaceError := PySem.W.mg_of X G a_PaceError
    g_StateError := PySem.W.mg_of X G a_StateError
    g_InvalidInteger := PySem.W.mg_of X G a_InvalidInteger
    g_InvalidRatio := PySem.W.mg_of X G a_InvalidRatio
    g_DividedByNought := PySem.W.mg_of X G a_DividedByNought
    v_InvalidInteger := { gC := PySem.W.mg_of X G a_InvalidInteger, cls := ⟨_, _, _, _, _, _, _, _, _, _, _, _, _, _, _, x_InvalidInteger, by rfl⟩, sa := sa_InvalidInteger, ga := ga_InvalidInteger, gg := gg_InvalidInteger, noN := nv_InvalidInteger, iC := in_InvalidInteger, tC := tI, kC := k_InvalidInteger, exC := e_InvalidInteger, tyC := t_InvalidInteger, hdC := hd_InvalidInteger, fn := ⟨_, _, _, _, _, _, _, _, _, _, _, _, _, _, _, _, _, lI, cI, _, _, _, rfl, lT, rfl⟩ }
    v_InvalidRatio := { gC := PySem.W.mg_of X G a_InvalidRatio, cls := ⟨_, _, _, _, _, _, _, _, _, _, _, _, _, _, _, x_InvalidRatio, by rfl⟩, sa := sa_InvalidRatio, ga := ga_InvalidRatio, gg := gg_InvalidRatio, noN := nv_InvalidRatio, iC := in_InvalidRatio, tC := tI, kC := k_InvalidRatio, exC := e_InvalidRatio, tyC := t_InvalidRatio, hdC := hd_InvalidRatio, fn := ⟨_, _, _, _, _, _, _, _, _, _, _, _, _, _, _, _, _, lI, cI, _, _, _, rfl, lT, rfl⟩ }
    x_DividedByNought := xi_DividedByNought
    k_DividedByNought := k_DividedByNought
    e_DividedByNought := e_DividedByNought
    t_DividedByNought := t_DividedByNought
    ec_InvalidRatio := { gC := PySem.W.mg_of X G a_InvalidRatio, cl := ic_InvalidRatio, ga := ga_InvalidRatio, gg := gg_InvalidRatio, exC := e_InvalidRatio, hdC := hd_InvalidRatio, ha := ha_InvalidRatio, hn := hn, ht := ht, hm := hm_InvalidRatio }
    ec_InvalidInteger := { gC := PySem.W.mg_of X G a_InvalidInteger, cl := ic_InvalidInteger, ga := ga_InvalidInteger, gg := gg_InvalidInteger, exC := e_InvalidInteger, hdC := hd_InvalidInteger, ha := ha_InvalidInteger, hn := hn, ht := ht, hm := hm_InvalidInteger }
    ec_DividedByNought := { gC := PySem.W.mg_of X G a_DividedByNought, cl := ic_DividedByNought, ga := ga_DividedByNought, gg := gg_DividedByNought, exC := e_DividedByNought, hdC := hd_DividedByNought, ha := ha_DividedByNought, hn := hn, ht := ht, hm := hm_DividedByNought }
    i_InvalidRatio_PaceError := i_InvalidRatio_PaceError
    i_InvalidInteger_PaceError := i_InvalidInteger_PaceError
    i_DividedByNought_StateError := i_DividedByNought_StateError
    s_InvalidRatio := by
      intro y hy Y e
      simp only [cNames, List.mem_cons, List.not_mem_nil, or_false] at hy
      rcases hy with rfl | rfl | rfl
      · rw [PySem.W.mg_of X G a_InvalidInteger] at e; cases e; exact s_InvalidInteger_InvalidRatio
      · rw [PySem.W.mg_of X G a_InvalidRatio] at e; cases e; exact s_InvalidRatio_InvalidRatio
      · rw [PySem.W.mg_of X G a_DividedByNought] at e; cases e; exact s_DividedByNought_InvalidRatio
    s_InvalidInteger := by
      intro y hy Y e
      simp only [cNames, List.mem_cons, List.not_mem_nil, or_false] at hy
      rcases hy with rfl | rfl | rfl
      · rw [PySem.W.mg_of X G a_InvalidInteger] at e; cases e; exact s_InvalidInteger_InvalidInteger
      · rw [PySem.W.mg_of X G a_InvalidRatio] at e; cases e; exact s_InvalidRatio_InvalidInteger
      · rw [PySem.W.mg_of X G a_DividedByNought] at e; cases e; exact s_DividedByNought_InvalidInteger
    s_DividedByNought := by
      intro y hy Y e
      simp only [cNames, List.mem_cons, List.not_mem_nil, or_false] at hy
      rcases hy with rfl | rfl | rfl
      · rw [PySem.W.mg_of X G a_InvalidInteger] at e; cases e; exact s_InvalidInteger_DividedByNought
      · rw [PySem.W.mg_of X G a_InvalidRatio] at e; cases e; exact s_InvalidRatio_DividedByNought
      · rw [PySem.W.mg_of X G a_DividedByNought] at e; cases e; exact s_DividedByNought_DividedByNought
  }
theorem all_mk {P : Program} {w : World} {K : PySem.W.Frag} {h : Heap} {mg : Str → Option Value} {fa : Addr} {fI c_PaceError c_StateError c_InvalidInteger c_InvalidRatio c_DividedByNought : Addr} (X : K.In h) (G : h.Ns mainGlobals mg) (hfa : mg "law" = some (.ref fa)) (M : Gs K mg fI c_PaceError c_StateError c_InvalidInteger c_InvalidRatio c_DividedByNought)
    (R__law_pot : RF K mg "_law_pot" s__law_pot ["script", "k"])
    (R__law_draw : RF K mg "_law_draw" s__law_draw ["pot", "many"])
    (R__law_whole : RF K mg "_law_whole" s__law_whole ["pot"])
    (R__law_under : RF K mg "_law_under" s__law_under ["pot"])
    (R__law_least : RF K mg "_law_least" s__law_least ["number", "under"])
    (R__law_is : RF K mg "_law_is" s__law_is ["told", "due"])
    (R_is_integer : RF K mg "is_integer" s_is_integer ["value"])
    (R_want_integer : RF K mg "want_integer" s_want_integer ["value"])
    (R_bare_ratio : RF K mg "bare_ratio" s_bare_ratio ["number", "under"])
    (R_ratio_made : RF K mg "ratio_made" s_ratio_made ["number", "under"])
    (R_is_ratio : RF K mg "is_ratio" s_is_ratio ["value"])
    (R_plus_of : RF K mg "plus_of" s_plus_of ["one", "other"])
    (R_want_ratio : RF K mg "want_ratio" s_want_ratio ["value"])
    (R_ratio_plus : RF K mg "ratio_plus" s_ratio_plus ["ratio", "other"])
    (R_minus_of : RF K mg "minus_of" s_minus_of ["one", "other"])
    (R_ratio_minus : RF K mg "ratio_minus" s_ratio_minus ["ratio", "other"])
    (R_times_of : RF K mg "times_of" s_times_of ["one", "other"])
    (R_ratio_times : RF K mg "ratio_times" s_ratio_times ["ratio", "other"])
    (R_over_of : RF K mg "over_of" s_over_of ["one", "other"])
    (R_ratio_over : RF K mg "ratio_over" s_ratio_over ["ratio", "other"])
    (R_compared_of : RF K mg "compared_of" s_compared_of ["one", "other"])
    (R_ratio_compared : RF K mg "ratio_compared" s_ratio_compared ["ratio", "other"])
    (R_floor_of : RF K mg "floor_of" s_floor_of ["ratio"])
    (R_ratio_floor : RF K mg "ratio_floor" s_ratio_floor ["ratio"])
    (R__law_told : RF K mg "_law_told" s__law_told ["word", "one", "other"])
    (R__law_raised : RF K mg "_law_raised" s__law_raised ["word", "one", "other"])
    (R__law_pair_right : RF K mg "_law_pair_right" s__law_pair_right ["a", "b", "c", "d"])
    (R__law_odd : RF K mg "_law_odd" s__law_odd [])
    (R__law_refusals_right : RF K mg "_law_refusals_right" s__law_refusals_right ["pot", "one"])
    (R_law : RF K mg "law" s_law ["script"])
    : ∃ fd : FuncData, (∀ (s : Shared) (v : Value), BindsTo s fd ⟨[v], []⟩ [("script", v)]) ∧ ∀ base : Heap, K.In base → base.Ns mainGlobals mg → FnG P w K mg base 10 fa fd ["script"] (spD K mg d_law) := by
  obtain ⟨f, fd, F, gm, kp, bi⟩ := R_law
  have e := hfa.symm.trans gm
  cases e
  refine ⟨fd, fun s v => ?_, fun base _ _ => ?_⟩
  · obtain ⟨oc, od, kV, doc, pm, an, cdv, ct, osl, rfl, lk, hcd⟩ := F.ex
    exact .of_eq rfl
  have H__law_pot : KF P w K mg base 3 "_law_pot" s__law_pot ["script", "k"] d__law_pot := kf__law_pot M R__law_pot
  have H__law_draw : KF P w K mg base 3 "_law_draw" s__law_draw ["pot", "many"] d__law_draw := kf__law_draw M R__law_draw
  have H__law_whole : KF P w K mg base 4 "_law_whole" s__law_whole ["pot"] d__law_whole := kf__law_whole M H__law_draw R__law_whole
  have H__law_under : KF P w K mg base 5 "_law_under" s__law_under ["pot"] d__law_under := kf__law_under M H__law_whole H__law_draw R__law_under
  have H__law_least : KF P w K mg base 3 "_law_least" s__law_least ["number", "under"] d__law_least := kf__law_least M R__law_least
  have H__law_is : KF P w K mg base 3 "_law_is" s__law_is ["told", "due"] d__law_is := kf__law_is M R__law_is
  have H_is_integer : KF P w K mg base 3 "is_integer" s_is_integer ["value"] d_is_integer := kf_is_integer M R_is_integer
  have H_want_integer : KF P w K mg base 4 "want_integer" s_want_integer ["value"] d_want_integer := kf_want_integer M H_is_integer R_want_integer
  have H_bare_ratio : KF P w K mg base 3 "bare_ratio" s_bare_ratio ["number", "under"] d_bare_ratio := kf_bare_ratio M R_bare_ratio
  have H_ratio_made : KF P w K mg base 5 "ratio_made" s_ratio_made ["number", "under"] d_ratio_made := kf_ratio_made M H_want_integer H_bare_ratio R_ratio_made
  have H_is_ratio : KF P w K mg base 4 "is_ratio" s_is_ratio ["value"] d_is_ratio := kf_is_ratio M H_is_integer R_is_ratio
  have H_plus_of : KF P w K mg base 4 "plus_of" s_plus_of ["one", "other"] d_plus_of := kf_plus_of M H_bare_ratio R_plus_of
  have H_want_ratio : KF P w K mg base 5 "want_ratio" s_want_ratio ["value"] d_want_ratio := kf_want_ratio M H_is_ratio R_want_ratio
  have H_ratio_plus : KF P w K mg base 6 "ratio_plus" s_ratio_plus ["ratio", "other"] d_ratio_plus := kf_ratio_plus M H_plus_of H_want_ratio R_ratio_plus
  have H_minus_of : KF P w K mg base 4 "minus_of" s_minus_of ["one", "other"] d_minus_of := kf_minus_of M H_bare_ratio R_minus_of
  have H_ratio_minus : KF P w K mg base 6 "ratio_minus" s_ratio_minus ["ratio", "other"] d_ratio_minus := kf_ratio_minus M H_minus_of H_want_ratio R_ratio_minus
  have H_times_of : KF P w K mg base 4 "times_of" s_times_of ["one", "other"] d_times_of := kf_times_of M H_bare_ratio R_times_of
  have H_ratio_times : KF P w K mg base 6 "ratio_times" s_ratio_times ["ratio", "other"] d_ratio_times := kf_ratio_times M H_times_of H_want_ratio R_ratio_times
  have H_over_of : KF P w K mg base 4 "over_of" s_over_of ["one", "other"] d_over_of := kf_over_of M H_bare_ratio R_over_of
  have H_ratio_over : KF P w K mg base 6 "ratio_over" s_ratio_over ["ratio", "other"] d_ratio_over := kf_ratio_over M H_want_ratio H_over_of R_ratio_over
  have H_compared_of : KF P w K mg base 3 "compared_of" s_compared_of ["one", "other"] d_compared_of := kf_compared_of M R_compared_of
  have H_ratio_compared : KF P w K mg base 6 "ratio_compared" s_ratio_compared ["ratio", "other"] d_ratio_compared := kf_ratio_compared M H_compared_of H_want_ratio R_ratio_compared
  have H_floor_of : KF P w K mg base 3 "floor_of" s_floor_of ["ratio"] d_floor_of := kf_floor_of M R_floor_of
  have H_ratio_floor : KF P w K mg base 6 "ratio_floor" s_ratio_floor ["ratio"] d_ratio_floor := kf_ratio_floor M H_floor_of H_want_ratio R_ratio_floor
  have H__law_told : KF P w K mg base 7 "_law_told" s__law_told ["word", "one", "other"] d__law_told := kf__law_told M H_ratio_made H_ratio_plus H_ratio_minus H_ratio_times H_ratio_over H_ratio_compared H_ratio_floor R__law_told
  have H__law_raised : KF P w K mg base 8 "_law_raised" s__law_raised ["word", "one", "other"] d__law_raised := kf__law_raised M H__law_told R__law_raised
  have H__law_pair_right : KF P w K mg base 9 "_law_pair_right" s__law_pair_right ["a", "b", "c", "d"] d__law_pair_right := kf__law_pair_right M H__law_least H__law_is H_ratio_made H_is_ratio H_ratio_plus H_ratio_minus H_ratio_times H__law_raised H_ratio_over H_ratio_compared H_ratio_floor R__law_pair_right
  have H__law_odd : KF P w K mg base 3 "_law_odd" s__law_odd [] d__law_odd := kf__law_odd M R__law_odd
  have H__law_refusals_right : KF P w K mg base 9 "_law_refusals_right" s__law_refusals_right ["pot", "one"] d__law_refusals_right := kf__law_refusals_right M H__law_odd H__law_draw H_is_ratio H__law_raised R__law_refusals_right
  exact ok_law M H__law_pot H__law_under H__law_whole H__law_pair_right H__law_refusals_right H__law_least F
end K10
/-! ## A10.lean -/
set_option linter.all false
namespace K10
/-! ### the arithmetic of ratios -/
theorem lg {m k : Nat} (hk : 0 < k) (h : m < 2 ^ k) : m.log2 < k := by
  by_cases c : m = 0
  · subst c; simpa using hk
  · exact (Nat.log2_lt c).mpr h
def s (a b : Int) : Int := if b < 0 then -(Int.gcd a b : Int) else Int.gcd a b
def L (a b : Int) : Int × Int := (a.fdiv (s a b), b.fdiv (s a b))
theorem gpos {a b : Int} (hb : b ≠ 0) : 0 < Int.gcd a b := Int.gcd_pos_of_ne_zero_right a hb
theorem s_ne {a b : Int} (hb : b ≠ 0) : s a b ≠ 0 := by
  have := gpos (a := a) hb
  unfold s; split <;> omega
theorem s_abs {a b : Int} : (s a b).natAbs = Int.gcd a b := by
  unfold s; split <;> simp
theorem s_da (a b : Int) : s a b ∣ a := by
  unfold s; split
  · exact Int.neg_dvd.mpr (Int.gcd_dvd_left ..)
  · exact Int.gcd_dvd_left ..
theorem s_db (a b : Int) : s a b ∣ b := by
  unfold s; split
  · exact Int.neg_dvd.mpr (Int.gcd_dvd_right ..)
  · exact Int.gcd_dvd_right ..
theorem L1 (a b : Int) : (L a b).1 * s a b = a := by
  show a.fdiv (s a b) * s a b = a
  rw [Int.fdiv_eq_ediv_of_dvd (s_da a b), Int.ediv_mul_cancel (s_da a b)]
theorem L2' (a b : Int) : (L a b).2 * s a b = b := by
  show b.fdiv (s a b) * s a b = b
  rw [Int.fdiv_eq_ediv_of_dvd (s_db a b), Int.ediv_mul_cancel (s_db a b)]
theorem Lpos {a b : Int} (hb : b ≠ 0) : 0 < (L a b).2 := by
  have h := L2' a b
  have g := gpos (a := a) hb
  unfold s at h
  by_cases c : b < 0
  · rw [if_pos c] at h
    refine Int.lt_of_not_ge fun hn => ?_
    have := Int.mul_nonneg_of_nonpos_of_nonpos hn (show -(Int.gcd a b : Int) ≤ 0 by omega)
    omega
  · rw [if_neg c] at h
    refine Int.lt_of_not_ge fun hn => ?_
    have := Int.mul_nonpos_of_nonpos_of_nonneg hn (show (0 : Int) ≤ Int.gcd a b by omega)
    omega
theorem Lcop {a b : Int} (hb : b ≠ 0) : Int.gcd (L a b).1 (L a b).2 = 1 := by
  have g := gpos (a := a) hb
  have h1 := L1 a b
  have h2 := L2' a b
  have e : Int.gcd ((L a b).1 * s a b) ((L a b).2 * s a b) = Int.gcd (L a b).1 (L a b).2 * (s a b).natAbs := Int.gcd_mul_right ..
  rw [h1, h2, s_abs] at e
  have : Int.gcd (L a b).1 (L a b).2 * Int.gcd a b = 1 * Int.gcd a b := by omega
  exact Nat.eq_of_mul_eq_mul_right g this
theorem cop_dvd {p q r : Int} (h : Int.gcd p q = 1) (d : q ∣ p * r) : q ∣ r := by
  have d2 := Int.natAbs_dvd_natAbs.mpr d
  rw [Int.natAbs_mul] at d2
  have c : Nat.Coprime q.natAbs p.natAbs := by
    unfold Nat.Coprime
    rw [Nat.gcd_comm]; exact h
  exact Int.natAbs_dvd_natAbs.mp (c.dvd_of_dvd_mul_left d2)
theorem uniq {p q p' q' : Int} (hq : 0 < q) (hq' : 0 < q') (h : Int.gcd p q = 1) (h' : Int.gcd p' q' = 1) (e : p * q' = p' * q) : p = p' ∧ q = q' := by
  have d1 : q ∣ q' := by
    have : q ∣ p * q' := ⟨p', by rw [e, Int.mul_comm]⟩
    exact cop_dvd h this
  have d2 : q' ∣ q := by
    have : q' ∣ p' * q := ⟨p, by rw [← e, Int.mul_comm]⟩
    exact cop_dvd h' this
  have eq : q = q' := Int.le_antisymm (Int.le_of_dvd hq' d1) (Int.le_of_dvd hq d2)
  subst eq
  exact ⟨Int.eq_of_mul_eq_mul_right (by omega) e, rfl⟩
theorem L_eq {a b n m : Int} (hb : b ≠ 0) (hm : m ≠ 0) (e : a * m = n * b) : L a b = L n m := by
  have h : (L a b).1 * (L n m).2 = (L n m).1 * (L a b).2 := by
    have x1 := L1 a b; have x2 := L2' a b; have y1 := L1 n m; have y2 := L2' n m
    have k : ((L a b).1 * (L n m).2 * (s a b * s n m)) = ((L n m).1 * (L a b).2) * (s a b * s n m) := by
      have e1 : ((L a b).1 * s a b) * ((L n m).2 * s n m) = ((L n m).1 * s n m) * ((L a b).2 * s a b) := by rw [x1, x2, y1, y2, e]
      calc _ = ((L a b).1 * s a b) * ((L n m).2 * s n m) := by simp only [Int.mul_assoc, Int.mul_comm, Int.mul_left_comm]
        _ = _ := e1
        _ = _ := by simp only [Int.mul_assoc, Int.mul_comm, Int.mul_left_comm]
    exact Int.eq_of_mul_eq_mul_right (Int.mul_ne_zero (s_ne hb) (s_ne hm)) k
  obtain ⟨h1, h2⟩ := uniq (Lpos hb) (Lpos hm) (Lcop hb) (Lcop hm) h
  exact Prod.ext h1 h2
theorem L_self {p q : Int} (hq : 0 < q) (h : Int.gcd p q = 1) : L p q = (p, q) := by
  have : s p q = 1 := by unfold s; rw [if_neg (by omega), h]; rfl
  unfold L; rw [this]; simp
/-! sizes -/
def bd (n : Nat) (i : Int) : Prop := i.natAbs < 2 ^ n
theorem bmul {m n : Nat} {i j : Int} (hi : bd m i) (hj : bd n j) : bd (m + n) (i * j) := by
  unfold bd at *
  rw [Int.natAbs_mul, Nat.pow_add]
  exact Nat.mul_lt_mul'' hi hj
theorem badd {m : Nat} {i j : Int} (hi : bd m i) (hj : bd m j) : bd (m + 1) (i + j) := by
  unfold bd at *
  have := Int.natAbs_add_le i j
  rw [Nat.pow_succ]; omega
theorem bsub {m : Nat} {i j : Int} (hi : bd m i) (hj : bd m j) : bd (m + 1) (i - j) := by
  unfold bd at *
  have := Int.natAbs_sub_le i j
  rw [Nat.pow_succ]; omega
theorem bmono {m n : Nat} {i : Int} (h : bd m i) (l : m ≤ n) : bd n i := Nat.lt_of_lt_of_le h (Nat.pow_le_pow_right (by decide) l)
theorem bL1 {n : Nat} {a b : Int} (hb : b ≠ 0) (h : bd n a) : bd n (L a b).1 := by
  unfold bd at *
  have e := congrArg Int.natAbs (L1 a b)
  rw [Int.natAbs_mul] at e
  have : 0 < (s a b).natAbs := by have := s_ne (a := a) hb; omega
  have := Nat.le_mul_of_pos_right (L a b).1.natAbs this
  omega
theorem bL2 {n : Nat} {a b : Int} (hb : b ≠ 0) (h : bd n b) : bd n (L a b).2 := by
  unfold bd at *
  have e := congrArg Int.natAbs (L2' a b)
  rw [Int.natAbs_mul] at e
  have : 0 < (s a b).natAbs := by have := s_ne (a := a) hb; omega
  have := Nat.le_mul_of_pos_right (L a b).2.natAbs this
  omega
theorem floor_ok {a b : Int} (hb : 0 < b) : a.fdiv b * b ≤ a ∧ a < (a.fdiv b + 1) * b := by
  rw [Int.fdiv_eq_ediv_of_nonneg a (by omega)]
  exact ⟨Int.ediv_mul_le a (by omega), Int.lt_ediv_add_one_mul_self a hb⟩
end K10
/-! ## K10p.lean -/
set_option Elab.async false
set_option linter.all false
set_option maxRecDepth 100000
set_option maxHeartbeats 4000000
set_option exponentiation.threshold 3000
namespace K10
open PySem PySem.Spec L2 DL
theorem f_add (i j : Int) : fAdd (.int i) (.int j) = some (.im (.int (i + j))) := rfl
theorem f_sub (i j : Int) : fSub (.int i) (.int j) = some (.im (.int (i - j))) := rfl
theorem f_subb (i j : Bool) : fSub (.bool i) (.bool j) = some (.im (.int (b2 i - b2 j))) := rfl
theorem f_mul (i j : Int) : fMul (.int i) (.int j) = if mulB i j = true then some (.im (.int (i * j))) else none := rfl
theorem f_div (i j : Int) : fDiv (.int i) (.int j) = if divB i j = true then some (.im (.int (i.fdiv j))) else none := rfl
theorem f_mod (i j : Int) : fMod (.int i) (.int j) = if modB i j = true then some (.im (.int (i.fmod j))) else none := rfl
theorem f_pow (i j : Int) : fPow (.int i) (.int j) = if powB i j = true then some (.im (.int (i ^ j.toNat))) else none := rfl
theorem f_lt (i j : Int) : fLt (.int i) (.int j) = some (.im (.bool (decide (i < j)))) := rfl
theorem f_le (i j : Int) : fLe (.int i) (.int j) = some (.im (.bool (decide (i ≤ j)))) := rfl
theorem f_gt (i j : Int) : fGt (.int i) (.int j) = some (.im (.bool (decide (j < i)))) := rfl
theorem f_ge (i j : Int) : fGe (.int i) (.int j) = some (.im (.bool (decide (j ≤ i)))) := rfl
/-- a whole number, no bool -/
def isI : D → Bool
  | .int _ => true
  | _ => false
/-- no dict -/
def flat : D → Bool
  | .dict _ => false
  | _ => true
theorem e_is_int : ∀ (d : D), flat d = true → d_is_integer [.im d] = .ok (.im (.bool (isI d))) none
  | .none, _ => rfl
  | .bool b, _ => rfl
  | .int i, _ => rfl
  | .str s, _ => rfl
  | .list l, _ => rfl
  | .tuple l, _ => rfl
abbrev tp (p : Int × Int) : D := .tuple [.int p.1, .int p.2]
theorem fEq_int (i j : Int) : fEq (.int i) (.int j) = some (.im (.bool (i == j))) := rfl
theorem fNe_int (i j : Int) : fNe (.int i) (.int j) = some (.im (.bool (!(i == j)))) := rfl
theorem fEq_str (i : PySem.Str) (h : PyData.strOk i = true) : fEq (.str i) (.str i) = some (.im (.bool true)) := by
  have e : shp (.str i) = true := by
    show SeqAt.shaped (.str i) = true
    unfold SeqAt.shaped PyData.canLay0
    rw [h]; rfl
  unfold fEq
  rw [e]
  simp [PyData.eqv]
theorem divB_ok {n i j : Int} (hj : j ≠ 0) (h : bd 300 j) : divB i j = true := by
  unfold divB
  have := lg (by decide) h
  simp [hj]; omega
theorem mulB_ok {i j : Int} (h : bd 300 i) (k : bd 300 j) : mulB i j = true := by
  unfold mulB
  have := lg (by decide) h
  have := lg (by decide) k
  simp; omega
theorem e_bare (a b : Int) (hb : b ≠ 0) (hs : bd 300 b) : d_bare_ratio [.im (.int a), .im (.int b)] = .ok (.im (tp (L a b))) none := by
  unfold d_bare_ratio b_bare_ratio
  have h1 : s a b ≠ 0 := s_ne hb
  have h2 : bd 300 (s a b) := by
    unfold bd at *
    rw [s_abs]
    exact Nat.lt_of_le_of_lt (Nat.le_of_dvd (by omega) (Nat.gcd_dvd_right _ _)) hs
  have h3 := fun i => divB_ok (n := 0) (i := i) h1 h2
  unfold s at h3
  unfold tp L s
  by_cases c : b < 0
  · simp only [c, if_true] at h3 ⊢
    simp only [Int.gcd] at h3 ⊢
    simp [fnD, sSeq, SR.then, sSet, sRet, sIf, sPar, sExpr, sAsg, sNext, sFor, forGo, tOf, tNo, tAn, tOr', eIf, eOp2, eOp1, eOpN, eV, eC, eAnd, eOr, eNot, bE, eCh, aCons, aNil, aConsE, aNilE, eTup, eLst, eCall, eCall0, eCallK, eCallIo, frE, frIo, eIsi, Res.bind, Res.bindS, Res.noex, rd, rdAll, put, esc, DL.settle, stor, noIo, okB, okA, outOf, outB, small, lstOf, put', tgT, tgAll, tgI, tgN, Tg.put, Tg.putAll, ixN, noIoAll, noIoB, setAll, itR, itE, f_add, f_sub, f_subb, f_mul, f_div, f_mod, f_pow, f_lt, f_le, f_gt, f_ge, fNeg, fGcd, fIs, fIsNot, c, h3]
  · simp only [c, if_false] at h3 ⊢
    simp only [Int.gcd] at h3 ⊢
    simp [fnD, sSeq, SR.then, sSet, sRet, sIf, sPar, sExpr, sAsg, sNext, sFor, forGo, tOf, tNo, tAn, tOr', eIf, eOp2, eOp1, eOpN, eV, eC, eAnd, eOr, eNot, bE, eCh, aCons, aNil, aConsE, aNilE, eTup, eLst, eCall, eCall0, eCallK, eCallIo, frE, frIo, eIsi, Res.bind, Res.bindS, Res.noex, rd, rdAll, put, esc, DL.settle, stor, noIo, okB, okA, outOf, outB, small, lstOf, put', tgT, tgAll, tgI, tgN, Tg.put, Tg.putAll, ixN, noIoAll, noIoB, setAll, itR, itE, f_add, f_sub, f_subb, f_mul, f_div, f_mod, f_pow, f_lt, f_le, f_gt, f_ge, fNeg, fGcd, fIs, fIsNot, c, h3]
theorem wh : ∀ (n x y : Nat) (a b : D), x < n → sWhile (tOf (eOp2 fNe (eV 2) (eC (.int 0)))) (sPar [2, 3] (aCons (eOp2 fMod (eV 3) (eV 2)) (aCons (eV 2) aNil))) n [.im a, .im b, .im (.int x), .im (.int y)] = .nx [.im a, .im b, .im (.int 0), .im (.int (Nat.gcd x y))]
  | 0, x, y, a, b, h => by omega
  | n + 1, 0, y, a, b, h => by
    unfold sWhile
    simp [fnD, sSeq, SR.then, sSet, sRet, sIf, sPar, sExpr, sAsg, sNext, sFor, forGo, tOf, tNo, tAn, tOr', eIf, eOp2, eOp1, eOpN, eV, eC, eAnd, eOr, eNot, bE, eCh, aCons, aNil, aConsE, aNilE, eTup, eLst, eCall, eCall0, eCallK, eCallIo, frE, frIo, eIsi, Res.bind, Res.bindS, Res.noex, rd, rdAll, put, esc, DL.settle, stor, noIo, okB, okA, outOf, outB, small, lstOf, put', tgT, tgAll, tgI, tgN, Tg.put, Tg.putAll, ixN, noIoAll, noIoB, setAll, itR, itE, f_add, f_sub, f_subb, f_mul, f_div, f_mod, f_pow, f_lt, f_le, f_gt, f_ge, fNeg, fGcd, fIs, fIsNot, fNe_int]
  | n + 1, x + 1, y, a, b, h => by
    unfold sWhile
    have ih := wh n (y % (x + 1)) (x + 1) a b (by have := Nat.mod_lt y (show 0 < x + 1 by omega); omega)
    have e : ((y : Int)).fmod ((x : Int) + 1) = ((y % (x + 1) : Nat) : Int) := by
      rw [Int.fmod_eq_emod_of_nonneg _ (by omega)]; rfl
    have e2 : ((x : Int) + 1 == 0) = false := by simp; omega
    have e3 : ((x + 1 : Nat) : Int) = (x : Int) + 1 := rfl
    have e4 : modB (y : Int) ((x : Int) + 1) = true := by unfold modB; simp; omega
    rw [e3] at ih
    rw [Nat.gcd_succ, ← ih]
    simp [fnD, sSeq, SR.then, sSet, sRet, sIf, sPar, sExpr, sAsg, sNext, sFor, forGo, tOf, tNo, tAn, tOr', eIf, eOp2, eOp1, eOpN, eV, eC, eAnd, eOr, eNot, bE, eCh, aCons, aNil, aConsE, aNilE, eTup, eLst, eCall, eCall0, eCallK, eCallIo, frE, frIo, eIsi, Res.bind, Res.bindS, Res.noex, rd, rdAll, put, esc, DL.settle, stor, noIo, okB, okA, outOf, outB, small, lstOf, put', tgT, tgAll, tgI, tgN, Tg.put, Tg.putAll, ixN, noIoAll, noIoB, setAll, itR, itE, f_add, f_sub, f_subb, f_mul, f_div, f_mod, f_pow, f_lt, f_le, f_gt, f_ge, fNeg, fGcd, fIs, fIsNot, fNe_int, e3, e2, e4, e]
theorem wl (n : Nat) (x y : Int) (a b : D) (hx : 0 ≤ x) (hy : 0 ≤ y) (h : x.natAbs < n) : sWhile (tOf (eOp2 fNe (eV 2) (eC (.int 0)))) (sPar [2, 3] (aCons (eOp2 fMod (eV 3) (eV 2)) (aCons (eV 2) aNil))) n [.im a, .im b, .im (.int x), .im (.int y)] = .nx [.im a, .im b, .im (.int 0), .im (.int (Int.gcd x y))] := by
  have k := wh n x.natAbs y.natAbs a b h
  rw [Int.natAbs_of_nonneg hx, Int.natAbs_of_nonneg hy] at k
  exact k
theorem e_least (a b : Int) (hb : b ≠ 0) (ha : bd 190 a) (hbb : bd 190 b) : d__law_least [.im (.int a), .im (.int b)] = .ok (.im (tp (L a b))) none := by
  have hN : ∀ x : Int, x.natAbs = a.natAbs → x.natAbs < 1000000000000000000000000000000000000000000000000000000000000 := fun x e => by rw [e]; exact Nat.lt_trans ha (by decide)
  obtain ⟨A, hA, hA0⟩ : ∃ A : Int, A.natAbs = a.natAbs ∧ 0 ≤ A := ⟨(a.natAbs : Int), rfl, by omega⟩
  obtain ⟨G, hG⟩ : ∃ G : Int, G = (Int.gcd a b : Int) := ⟨_, rfl⟩
  have gp := gpos (a := a) hb
  have gd : ∀ i : Int, divB i G = true := fun i => divB_ok (n := 0) (by omega) (by
    have := Nat.le_of_dvd (by omega : 0 < b.natAbs) (Nat.gcd_dvd_right a.natAbs b.natAbs)
    have h2 : G.natAbs ≤ b.natAbs := by rw [hG]; exact this
    exact Nat.lt_of_le_of_lt h2 (bmono hbb (by decide)))
  unfold d__law_least b__law_least
  by_cases c : b < 0
  · have h1 := wl _ A (-b) (.int (-a)) (.int (-b)) hA0 (by omega) (hN A hA)
    have e1 : (if 0 < a then a else -a) = A := by split <;> omega
    have e2 : (Int.gcd A (-b) : Int) = G := by rw [hG, Int.gcd_neg]; unfold Int.gcd; rw [hA]
    rw [e2] at h1
    have f1 : ∀ x g : Int, (-x).fdiv g = x.fdiv (-g) := fun x g => by rw [← Int.neg_fdiv_neg x, Int.neg_neg]
    have eL : L a b = ((-a).fdiv G, (-b).fdiv G) := by
      unfold L s
      rw [if_pos c, ← hG, f1, f1]
    rw [eL]
    simp [fnD, sSeq, SR.then, sSet, sRet, sIf, sPar, sExpr, sAsg, sNext, sFor, forGo, tOf, tNo, tAn, tOr', eIf, eOp2, eOp1, eOpN, eV, eC, eAnd, eOr, eNot, bE, eCh, aCons, aNil, aConsE, aNilE, eTup, eLst, eCall, eCall0, eCallK, eCallIo, frE, frIo, eIsi, Res.bind, Res.bindS, Res.noex, rd, rdAll, put, esc, DL.settle, stor, noIo, okB, okA, outOf, outB, small, lstOf, put', tgT, tgAll, tgI, tgN, Tg.put, Tg.putAll, ixN, noIoAll, noIoB, setAll, itR, itE, f_add, f_sub, f_subb, f_mul, f_div, f_mod, f_pow, f_lt, f_le, f_gt, f_ge, fNeg, fGcd, fIs, fIsNot, c, fAbs, e1, h1, gd]
  · have h1 := wl _ A b (.int a) (.int b) hA0 (by omega) (hN A hA)
    have e1 : (if a < 0 then -a else a) = A := by split <;> omega
    have e2 : (Int.gcd A b : Int) = G := by rw [hG]; unfold Int.gcd; rw [hA]
    rw [e2] at h1
    have eL : L a b = (a.fdiv G, b.fdiv G) := by
      unfold L s
      rw [if_neg c, ← hG]
    rw [eL]
    simp [fnD, sSeq, SR.then, sSet, sRet, sIf, sPar, sExpr, sAsg, sNext, sFor, forGo, tOf, tNo, tAn, tOr', eIf, eOp2, eOp1, eOpN, eV, eC, eAnd, eOr, eNot, bE, eCh, aCons, aNil, aConsE, aNilE, eTup, eLst, eCall, eCall0, eCallK, eCallIo, frE, frIo, eIsi, Res.bind, Res.bindS, Res.noex, rd, rdAll, put, esc, DL.settle, stor, noIo, okB, okA, outOf, outB, small, lstOf, put', tgT, tgAll, tgI, tgN, Tg.put, Tg.putAll, ixN, noIoAll, noIoB, setAll, itR, itE, f_add, f_sub, f_subb, f_mul, f_div, f_mod, f_pow, f_lt, f_le, f_gt, f_ge, fNeg, fGcd, fIs, fIsNot, c, fAbs, e1, h1, gd]
/-! ### texts -/
theorem strOk_of (x : String) : PyData.strOk (PySem.Str.ofString x) = true := by
  rw [PySem.Str.ofString_eq_toList]
  unfold PyData.strOk
  simp only [List.all_toArray, List.all_map, List.all_eq_true, Function.comp, decide_eq_true_eq]
  intro c _
  have := c.valid
  show c.val.toNat < _
  rcases this with h | ⟨_, h⟩
  · have : c.val.toNat < 0xd800 := h
    omega
  · exact h
theorem strOk_app (x y : PySem.Str) (h : PyData.strOk x = true) (k : PyData.strOk y = true) : PyData.strOk (x ++ y) = true := by
  have e : (x ++ y).cps = x.cps ++ y.cps := rfl
  unfold PyData.strOk at *
  rw [e, Array.all_append, h, k]; rfl
theorem shown_tp (p : Int × Int) : (tp p).shown = ("(" : PySem.Str) ++ (PySem.Str.ofString (toString p.1) ++ ", " ++ PySem.Str.ofString (toString p.2)) ++ (")" : PySem.Str) := rfl
theorem strOk_tp (p : Int × Int) : PyData.strOk (tp p).shown = true := by
  rw [shown_tp]
  exact strOk_app _ _ (strOk_app _ _ (strOk_of _) (strOk_app _ _ (strOk_app _ _ (strOk_of _) (strOk_of _)) (strOk_of _))) (strOk_of _)
theorem repr_tp (p : Int × Int) (h1 : bd 300 p.1) (h2 : bd 300 p.2) : ReprOk (tp p) := by
  have l1 := lg (by decide) h1
  have l2 := lg (by decide) h2
  refine ⟨?_, rfl, by show (tp p).depth ≤ 60; exact (by show 1 ≤ 60; decide), ?_⟩
  · simp [PyData.showable, PyData.showableAll]
    omega
  · have e : (tp p).shown = tupleText [PySem.Str.ofString (toString p.1), PySem.Str.ofString (toString p.2)] := rfl
    rw [e]
    refine Nat.le_trans (tupleText_len_le _) ?_
    have k1 := PyProof.Rows.int_text_len_1921 (i := p.1) (by omega)
    have k2 := PyProof.Rows.int_text_len_1921 (i := p.2) (by omega)
    simp only [List.map_cons, List.map_nil, List.sum_cons, List.sum_nil, List.length_cons, List.length_nil]
    have : sizeLine = 16777216 := by decide
    omega
def RS (d : D) : Prop := ReprOk d ∧ PyData.strOk d.shown = true
theorem fRepr_ok {d : D} (h : ReprOk d) : fRepr [d] = some (.im (.str d.shown)) := by
  unfold fRepr
  simp [h]
theorem e_is {d : D} (h : RS d) : d__law_is [.im d, .im d] = .ok (.im (.bool true)) none := by
  unfold d__law_is b__law_is
  simp [fnD, sSeq, SR.then, sSet, sRet, sIf, sPar, sExpr, sAsg, sNext, sFor, forGo, tOf, tNo, tAn, tOr', eIf, eOp2, eOp1, eOpN, eV, eC, eAnd, eOr, eNot, bE, eCh, aCons, aNil, aConsE, aNilE, eTup, eLst, eCall, eCall0, eCallK, eCallIo, frE, frIo, eIsi, Res.bind, Res.bindS, Res.noex, rd, rdAll, put, esc, DL.settle, stor, noIo, okB, okA, outOf, outB, small, lstOf, put', tgT, tgAll, tgI, tgN, Tg.put, Tg.putAll, ixN, noIoAll, noIoB, setAll, itR, itE, f_add, f_sub, f_subb, f_mul, f_div, f_mod, f_pow, f_lt, f_le, f_gt, f_ge, fNeg, fGcd, fIs, fIsNot, fRepr_ok h.1, fEq_str _ h.2]
end K10
/-! ## K10q.lean -/
set_option Elab.async false
set_option linter.all false
set_option maxRecDepth 100000
set_option maxHeartbeats 4000000
set_option exponentiation.threshold 3000
namespace K10
open PySem PySem.Spec L2 DL
def Gd (p : Int × Int) : Prop := 0 < p.2 ∧ Int.gcd p.1 p.2 = 1 ∧ bd 70 p.1 ∧ bd 70 p.2
theorem fIx0 (p : Int × Int) : fIx (tp p) (.int 0) = some (.im (.int p.1)) := rfl
theorem fIx1 (p : Int × Int) : fIx (tp p) (.int 1) = some (.im (.int p.2)) := rfl
theorem e_isr {p : Int × Int} (h : Gd p) : d_is_ratio [.im (tp p)] = .ok (.im (.bool true)) none := by
  obtain ⟨a, b⟩ := p
  obtain ⟨h1, h2, _⟩ := h
  dsimp only at h1 h2
  have e1 := e_is_int (.int a) rfl
  have e2 := e_is_int (.int b) rfl
  have i0 := fIx0 (a, b)
  have i1 := fIx1 (a, b)
  have t : isB "tuple" (tp (a, b)) = some true := rfl
  have l : fLen [tp (a, b)] = some (.im (.int 2)) := rfl
  have c : (1 : Int) ≤ b := by omega
  unfold Int.gcd at h2
  dsimp only [tp] at *
  unfold d_is_ratio b_is_ratio
  simp [fnD, sSeq, SR.then, sSet, sRet, sIf, sPar, sExpr, sAsg, sNext, sFor, forGo, tOf, tNo, tAn, tOr', eIf, eOp2, eOp1, eOpN, eV, eC, eAnd, eOr, eNot, bE, eCh, aCons, aNil, aConsE, aNilE, eTup, eLst, eCall, eCall0, eCallK, eCallIo, frE, frIo, eIsi, Res.bind, Res.bindS, Res.noex, rd, rdAll, put, esc, DL.settle, stor, noIo, okB, okA, outOf, outB, small, lstOf, put', tgT, tgAll, tgI, tgN, Tg.put, Tg.putAll, ixN, noIoAll, noIoB, setAll, itR, itE, f_add, f_sub, f_subb, f_mul, f_div, f_mod, f_pow, f_lt, f_le, f_gt, f_ge, fNeg, fGcd, fIs, fIsNot, e1, e2, i0, i1, t, l, fNe_int, fEq_int, isI, c, h2]
theorem e_want {p : Int × Int} (h : Gd p) : d_want_ratio [.im (tp p)] = .ok (.im (tp p)) none := by
  have e := e_isr h
  dsimp only [tp] at *
  unfold d_want_ratio b_want_ratio
  simp [fnD, sSeq, SR.then, sSet, sRet, sIf, sPar, sExpr, sAsg, sNext, sFor, forGo, tOf, tNo, tAn, tOr', eIf, eOp2, eOp1, eOpN, eV, eC, eAnd, eOr, eNot, bE, eCh, aCons, aNil, aConsE, aNilE, eTup, eLst, eCall, eCall0, eCallK, eCallIo, frE, frIo, eIsi, Res.bind, Res.bindS, Res.noex, rd, rdAll, put, esc, DL.settle, stor, noIo, okB, okA, outOf, outB, small, lstOf, put', tgT, tgAll, tgI, tgN, Tg.put, Tg.putAll, ixN, noIoAll, noIoB, setAll, itR, itE, f_add, f_sub, f_subb, f_mul, f_div, f_mod, f_pow, f_lt, f_le, f_gt, f_ge, fNeg, fGcd, fIs, fIsNot, e]
theorem e_plus {p q : Int × Int} (h : Gd p) (k : Gd q) : d_ratio_plus [.im (tp p), .im (tp q)] = .ok (.im (tp (L (p.1 * q.2 + q.1 * p.2) (p.2 * q.2)))) none := by
  have e1 := e_want h
  have e2 := e_want k
  obtain ⟨a, b⟩ := p
  obtain ⟨c, d⟩ := q
  obtain ⟨h1, h2, h3, h4⟩ := h
  obtain ⟨k1, k2, k3, k4⟩ := k
  have i0 := fIx0 (a, b)
  have i1 := fIx1 (a, b)
  have j0 := fIx0 (c, d)
  have j1 := fIx1 (c, d)
  dsimp only [tp] at *
  have m : ∀ x y : Int, bd 70 x → bd 70 y → mulB x y = true := fun x y hx hy => mulB_ok (bmono hx (by decide)) (bmono hy (by decide))
  have m1 := m a d h3 k4
  have m2 := m c b k3 h4
  have m3 := m b d h4 k4
  have br := e_bare (a * d + c * b) (b * d) (Int.mul_ne_zero (by omega) (by omega)) (bmono (bmul h4 k4) (by decide))
  have e3 : d_plus_of [.im (.tuple [.int a, .int b]), .im (.tuple [.int c, .int d])] = .ok (.im (tp (L (a * d + c * b) (b * d)))) none := by
    unfold d_plus_of b_plus_of
    simp [fnD, sSeq, SR.then, sSet, sRet, sIf, sPar, sExpr, sAsg, sNext, sFor, forGo, tOf, tNo, tAn, tOr', eIf, eOp2, eOp1, eOpN, eV, eC, eAnd, eOr, eNot, bE, eCh, aCons, aNil, aConsE, aNilE, eTup, eLst, eCall, eCall0, eCallK, eCallIo, frE, frIo, eIsi, Res.bind, Res.bindS, Res.noex, rd, rdAll, put, esc, DL.settle, stor, noIo, okB, okA, outOf, outB, small, lstOf, put', tgT, tgAll, tgI, tgN, Tg.put, Tg.putAll, ixN, noIoAll, noIoB, setAll, itR, itE, f_add, f_sub, f_subb, f_mul, f_div, f_mod, f_pow, f_lt, f_le, f_gt, f_ge, fNeg, fGcd, fIs, fIsNot, i0, i1, j0, j1, m1, m2, m3, br]
  unfold d_ratio_plus b_ratio_plus
  simp [fnD, sSeq, SR.then, sSet, sRet, sIf, sPar, sExpr, sAsg, sNext, sFor, forGo, tOf, tNo, tAn, tOr', eIf, eOp2, eOp1, eOpN, eV, eC, eAnd, eOr, eNot, bE, eCh, aCons, aNil, aConsE, aNilE, eTup, eLst, eCall, eCall0, eCallK, eCallIo, frE, frIo, eIsi, Res.bind, Res.bindS, Res.noex, rd, rdAll, put, esc, DL.settle, stor, noIo, okB, okA, outOf, outB, small, lstOf, put', tgT, tgAll, tgI, tgN, Tg.put, Tg.putAll, ixN, noIoAll, noIoB, setAll, itR, itE, f_add, f_sub, f_subb, f_mul, f_div, f_mod, f_pow, f_lt, f_le, f_gt, f_ge, fNeg, fGcd, fIs, fIsNot, e1, e2, e3]
theorem e_minus {p q : Int × Int} (h : Gd p) (k : Gd q) : d_ratio_minus [.im (tp p), .im (tp q)] = .ok (.im (tp (L (p.1 * q.2 - q.1 * p.2) (p.2 * q.2)))) none := by
  have e1 := e_want h
  have e2 := e_want k
  obtain ⟨a, b⟩ := p
  obtain ⟨c, d⟩ := q
  obtain ⟨h1, h2, h3, h4⟩ := h
  obtain ⟨k1, k2, k3, k4⟩ := k
  have i0 := fIx0 (a, b)
  have i1 := fIx1 (a, b)
  have j0 := fIx0 (c, d)
  have j1 := fIx1 (c, d)
  dsimp only [tp] at *
  have m : ∀ x y : Int, bd 70 x → bd 70 y → mulB x y = true := fun x y hx hy => mulB_ok (bmono hx (by decide)) (bmono hy (by decide))
  have m1 := m a d h3 k4
  have m2 := m c b k3 h4
  have m3 := m b d h4 k4
  have br := e_bare (a * d - c * b) (b * d) (Int.mul_ne_zero (by omega) (by omega)) (bmono (bmul h4 k4) (by decide))
  have e3 : d_minus_of [.im (.tuple [.int a, .int b]), .im (.tuple [.int c, .int d])] = .ok (.im (tp (L (a * d - c * b) (b * d)))) none := by
    unfold d_minus_of b_minus_of
    simp [fnD, sSeq, SR.then, sSet, sRet, sIf, sPar, sExpr, sAsg, sNext, sFor, forGo, tOf, tNo, tAn, tOr', eIf, eOp2, eOp1, eOpN, eV, eC, eAnd, eOr, eNot, bE, eCh, aCons, aNil, aConsE, aNilE, eTup, eLst, eCall, eCall0, eCallK, eCallIo, frE, frIo, eIsi, Res.bind, Res.bindS, Res.noex, rd, rdAll, put, esc, DL.settle, stor, noIo, okB, okA, outOf, outB, small, lstOf, put', tgT, tgAll, tgI, tgN, Tg.put, Tg.putAll, ixN, noIoAll, noIoB, setAll, itR, itE, f_add, f_sub, f_subb, f_mul, f_div, f_mod, f_pow, f_lt, f_le, f_gt, f_ge, fNeg, fGcd, fIs, fIsNot, i0, i1, j0, j1, m1, m2, m3, br]
  unfold d_ratio_minus b_ratio_minus
  simp [fnD, sSeq, SR.then, sSet, sRet, sIf, sPar, sExpr, sAsg, sNext, sFor, forGo, tOf, tNo, tAn, tOr', eIf, eOp2, eOp1, eOpN, eV, eC, eAnd, eOr, eNot, bE, eCh, aCons, aNil, aConsE, aNilE, eTup, eLst, eCall, eCall0, eCallK, eCallIo, frE, frIo, eIsi, Res.bind, Res.bindS, Res.noex, rd, rdAll, put, esc, DL.settle, stor, noIo, okB, okA, outOf, outB, small, lstOf, put', tgT, tgAll, tgI, tgN, Tg.put, Tg.putAll, ixN, noIoAll, noIoB, setAll, itR, itE, f_add, f_sub, f_subb, f_mul, f_div, f_mod, f_pow, f_lt, f_le, f_gt, f_ge, fNeg, fGcd, fIs, fIsNot, e1, e2, e3]
theorem e_times {p q : Int × Int} (h : Gd p) (k : Gd q) : d_ratio_times [.im (tp p), .im (tp q)] = .ok (.im (tp (L (p.1 * q.1) (p.2 * q.2)))) none := by
  have e1 := e_want h
  have e2 := e_want k
  obtain ⟨a, b⟩ := p
  obtain ⟨c, d⟩ := q
  obtain ⟨h1, h2, h3, h4⟩ := h
  obtain ⟨k1, k2, k3, k4⟩ := k
  have i0 := fIx0 (a, b)
  have i1 := fIx1 (a, b)
  have j0 := fIx0 (c, d)
  have j1 := fIx1 (c, d)
  dsimp only [tp] at *
  have m : ∀ x y : Int, bd 70 x → bd 70 y → mulB x y = true := fun x y hx hy => mulB_ok (bmono hx (by decide)) (bmono hy (by decide))
  have m1 := m a c h3 k3
  have m3 := m b d h4 k4
  have br := e_bare (a * c) (b * d) (Int.mul_ne_zero (by omega) (by omega)) (bmono (bmul h4 k4) (by decide))
  have e3 : d_times_of [.im (.tuple [.int a, .int b]), .im (.tuple [.int c, .int d])] = .ok (.im (tp (L (a * c) (b * d)))) none := by
    unfold d_times_of b_times_of
    simp [fnD, sSeq, SR.then, sSet, sRet, sIf, sPar, sExpr, sAsg, sNext, sFor, forGo, tOf, tNo, tAn, tOr', eIf, eOp2, eOp1, eOpN, eV, eC, eAnd, eOr, eNot, bE, eCh, aCons, aNil, aConsE, aNilE, eTup, eLst, eCall, eCall0, eCallK, eCallIo, frE, frIo, eIsi, Res.bind, Res.bindS, Res.noex, rd, rdAll, put, esc, DL.settle, stor, noIo, okB, okA, outOf, outB, small, lstOf, put', tgT, tgAll, tgI, tgN, Tg.put, Tg.putAll, ixN, noIoAll, noIoB, setAll, itR, itE, f_add, f_sub, f_subb, f_mul, f_div, f_mod, f_pow, f_lt, f_le, f_gt, f_ge, fNeg, fGcd, fIs, fIsNot, i0, i1, j0, j1, m1, m3, br]
  unfold d_ratio_times b_ratio_times
  simp [fnD, sSeq, SR.then, sSet, sRet, sIf, sPar, sExpr, sAsg, sNext, sFor, forGo, tOf, tNo, tAn, tOr', eIf, eOp2, eOp1, eOpN, eV, eC, eAnd, eOr, eNot, bE, eCh, aCons, aNil, aConsE, aNilE, eTup, eLst, eCall, eCall0, eCallK, eCallIo, frE, frIo, eIsi, Res.bind, Res.bindS, Res.noex, rd, rdAll, put, esc, DL.settle, stor, noIo, okB, okA, outOf, outB, small, lstOf, put', tgT, tgAll, tgI, tgN, Tg.put, Tg.putAll, ixN, noIoAll, noIoB, setAll, itR, itE, f_add, f_sub, f_subb, f_mul, f_div, f_mod, f_pow, f_lt, f_le, f_gt, f_ge, fNeg, fGcd, fIs, fIsNot, e1, e2, e3]
theorem e_over {p q : Int × Int} (h : Gd p) (k : Gd q) (hq : q.1 ≠ 0) : d_ratio_over [.im (tp p), .im (tp q)] = .ok (.im (tp (L (p.1 * q.2) (p.2 * q.1)))) none := by
  have e1 := e_want h
  have e2 := e_want k
  obtain ⟨a, b⟩ := p
  obtain ⟨c, d⟩ := q
  obtain ⟨h1, h2, h3, h4⟩ := h
  obtain ⟨k1, k2, k3, k4⟩ := k
  have i0 := fIx0 (a, b)
  have i1 := fIx1 (a, b)
  have j0 := fIx0 (c, d)
  have j1 := fIx1 (c, d)
  dsimp only [tp] at *
  have m : ∀ x y : Int, bd 70 x → bd 70 y → mulB x y = true := fun x y hx hy => mulB_ok (bmono hx (by decide)) (bmono hy (by decide))
  have m1 := m a d h3 k4
  have m3 := m b c h4 k3
  have br := e_bare (a * d) (b * c) (Int.mul_ne_zero (by omega) hq) (bmono (bmul h4 k3) (by decide))
  have e3 : d_over_of [.im (.tuple [.int a, .int b]), .im (.tuple [.int c, .int d])] = .ok (.im (tp (L (a * d) (b * c)))) none := by
    unfold d_over_of b_over_of
    simp [fnD, sSeq, SR.then, sSet, sRet, sIf, sPar, sExpr, sAsg, sNext, sFor, forGo, tOf, tNo, tAn, tOr', eIf, eOp2, eOp1, eOpN, eV, eC, eAnd, eOr, eNot, bE, eCh, aCons, aNil, aConsE, aNilE, eTup, eLst, eCall, eCall0, eCallK, eCallIo, frE, frIo, eIsi, Res.bind, Res.bindS, Res.noex, rd, rdAll, put, esc, DL.settle, stor, noIo, okB, okA, outOf, outB, small, lstOf, put', tgT, tgAll, tgI, tgN, Tg.put, Tg.putAll, ixN, noIoAll, noIoB, setAll, itR, itE, f_add, f_sub, f_subb, f_mul, f_div, f_mod, f_pow, f_lt, f_le, f_gt, f_ge, fNeg, fGcd, fIs, fIsNot, i0, i1, j0, j1, m1, m3, br]
  have ne : (c == 0) = false := by simpa using hq
  unfold d_ratio_over b_ratio_over
  simp [fnD, sSeq, SR.then, sSet, sRet, sIf, sPar, sExpr, sAsg, sNext, sFor, forGo, tOf, tNo, tAn, tOr', eIf, eOp2, eOp1, eOpN, eV, eC, eAnd, eOr, eNot, bE, eCh, aCons, aNil, aConsE, aNilE, eTup, eLst, eCall, eCall0, eCallK, eCallIo, frE, frIo, eIsi, Res.bind, Res.bindS, Res.noex, rd, rdAll, put, esc, DL.settle, stor, noIo, okB, okA, outOf, outB, small, lstOf, put', tgT, tgAll, tgI, tgN, Tg.put, Tg.putAll, ixN, noIoAll, noIoB, setAll, itR, itE, f_add, f_sub, f_subb, f_mul, f_div, f_mod, f_pow, f_lt, f_le, f_gt, f_ge, fNeg, fGcd, fIs, fIsNot, e1, e2, e3, j0, fEq_int, ne]
theorem e_over0 {p q : Int × Int} (h : Gd p) (k : Gd q) (hq : q.1 = 0) : d_ratio_over [.im (tp p), .im (tp q)] = .ex ("DividedByNought", []) none := by
  have e1 := e_want h
  have e2 := e_want k
  obtain ⟨a, b⟩ := p
  obtain ⟨c, d⟩ := q
  have j0 := fIx0 (c, d)
  dsimp only [tp] at *
  subst hq
  unfold d_ratio_over b_ratio_over
  simp [fnD, sSeq, SR.then, sSet, sRet, sIf, sPar, sExpr, sAsg, sNext, sFor, forGo, tOf, tNo, tAn, tOr', eIf, eOp2, eOp1, eOpN, eV, eC, eAnd, eOr, eNot, bE, eCh, aCons, aNil, aConsE, aNilE, eTup, eLst, eCall, eCall0, eCallK, eCallIo, frE, frIo, eIsi, Res.bind, Res.bindS, Res.noex, rd, rdAll, put, esc, DL.settle, stor, noIo, okB, okA, outOf, outB, small, lstOf, put', tgT, tgAll, tgI, tgN, Tg.put, Tg.putAll, ixN, noIoAll, noIoB, setAll, itR, itE, f_add, f_sub, f_subb, f_mul, f_div, f_mod, f_pow, f_lt, f_le, f_gt, f_ge, fNeg, fGcd, fIs, fIsNot, e1, e2, j0, fEq_int, sRaise0]
theorem e_comp {p q : Int × Int} (h : Gd p) (k : Gd q) : d_ratio_compared [.im (tp p), .im (tp q)] = .ok (.im (.int (b2 (decide (0 < p.1 * q.2 - q.1 * p.2)) - b2 (decide (p.1 * q.2 - q.1 * p.2 < 0))))) none := by
  have e1 := e_want h
  have e2 := e_want k
  obtain ⟨a, b⟩ := p
  obtain ⟨c, d⟩ := q
  obtain ⟨h1, h2, h3, h4⟩ := h
  obtain ⟨k1, k2, k3, k4⟩ := k
  have i0 := fIx0 (a, b)
  have i1 := fIx1 (a, b)
  have j0 := fIx0 (c, d)
  have j1 := fIx1 (c, d)
  dsimp only [tp] at *
  have m : ∀ x y : Int, bd 70 x → bd 70 y → mulB x y = true := fun x y hx hy => mulB_ok (bmono hx (by decide)) (bmono hy (by decide))
  have m1 := m a d h3 k4
  have m2 := m c b k3 h4
  have e3 : d_compared_of [.im (.tuple [.int a, .int b]), .im (.tuple [.int c, .int d])] = .ok (.im (.int (b2 (decide (0 < a * d - c * b)) - b2 (decide (a * d - c * b < 0))))) none := by
    unfold d_compared_of b_compared_of
    generalize hx : a * d = x
    generalize hy : c * b = y
    simp [fnD, sSeq, SR.then, sSet, sRet, sIf, sPar, sExpr, sAsg, sNext, sFor, forGo, tOf, tNo, tAn, tOr', eIf, eOp2, eOp1, eOpN, eV, eC, eAnd, eOr, eNot, bE, eCh, aCons, aNil, aConsE, aNilE, eTup, eLst, eCall, eCall0, eCallK, eCallIo, frE, frIo, eIsi, Res.bind, Res.bindS, Res.noex, rd, rdAll, put, esc, DL.settle, stor, noIo, okB, okA, outOf, outB, small, lstOf, put', tgT, tgAll, tgI, tgN, Tg.put, Tg.putAll, ixN, noIoAll, noIoB, setAll, itR, itE, f_add, f_sub, f_subb, f_mul, f_div, f_mod, f_pow, f_lt, f_le, f_gt, f_ge, fNeg, fGcd, fIs, fIsNot, i0, i1, j0, j1, m1, m2, hx, hy]
  unfold d_ratio_compared b_ratio_compared
  simp [fnD, sSeq, SR.then, sSet, sRet, sIf, sPar, sExpr, sAsg, sNext, sFor, forGo, tOf, tNo, tAn, tOr', eIf, eOp2, eOp1, eOpN, eV, eC, eAnd, eOr, eNot, bE, eCh, aCons, aNil, aConsE, aNilE, eTup, eLst, eCall, eCall0, eCallK, eCallIo, frE, frIo, eIsi, Res.bind, Res.bindS, Res.noex, rd, rdAll, put, esc, DL.settle, stor, noIo, okB, okA, outOf, outB, small, lstOf, put', tgT, tgAll, tgI, tgN, Tg.put, Tg.putAll, ixN, noIoAll, noIoB, setAll, itR, itE, f_add, f_sub, f_subb, f_mul, f_div, f_mod, f_pow, f_lt, f_le, f_gt, f_ge, fNeg, fGcd, fIs, fIsNot, e1, e2, e3]
theorem e_floor {p : Int × Int} (h : Gd p) : d_ratio_floor [.im (tp p)] = .ok (.im (.int (p.1.fdiv p.2))) none := by
  have e1 := e_want h
  obtain ⟨a, b⟩ := p
  obtain ⟨h1, h2, h3, h4⟩ := h
  have i0 := fIx0 (a, b)
  have i1 := fIx1 (a, b)
  dsimp only [tp] at *
  have m1 := divB_ok (n := 0) (i := a) (j := b) (by omega) (bmono h4 (by decide))
  have e3 : d_floor_of [.im (.tuple [.int a, .int b])] = .ok (.im (.int (a.fdiv b))) none := by
    unfold d_floor_of b_floor_of
    simp [fnD, sSeq, SR.then, sSet, sRet, sIf, sPar, sExpr, sAsg, sNext, sFor, forGo, tOf, tNo, tAn, tOr', eIf, eOp2, eOp1, eOpN, eV, eC, eAnd, eOr, eNot, bE, eCh, aCons, aNil, aConsE, aNilE, eTup, eLst, eCall, eCall0, eCallK, eCallIo, frE, frIo, eIsi, Res.bind, Res.bindS, Res.noex, rd, rdAll, put, esc, DL.settle, stor, noIo, okB, okA, outOf, outB, small, lstOf, put', tgT, tgAll, tgI, tgN, Tg.put, Tg.putAll, ixN, noIoAll, noIoB, setAll, itR, itE, f_add, f_sub, f_subb, f_mul, f_div, f_mod, f_pow, f_lt, f_le, f_gt, f_ge, fNeg, fGcd, fIs, fIsNot, i0, i1, m1]
  unfold d_ratio_floor b_ratio_floor
  simp [fnD, sSeq, SR.then, sSet, sRet, sIf, sPar, sExpr, sAsg, sNext, sFor, forGo, tOf, tNo, tAn, tOr', eIf, eOp2, eOp1, eOpN, eV, eC, eAnd, eOr, eNot, bE, eCh, aCons, aNil, aConsE, aNilE, eTup, eLst, eCall, eCall0, eCallK, eCallIo, frE, frIo, eIsi, Res.bind, Res.bindS, Res.noex, rd, rdAll, put, esc, DL.settle, stor, noIo, okB, okA, outOf, outB, small, lstOf, put', tgT, tgAll, tgI, tgN, Tg.put, Tg.putAll, ixN, noIoAll, noIoB, setAll, itR, itE, f_add, f_sub, f_subb, f_mul, f_div, f_mod, f_pow, f_lt, f_le, f_gt, f_ge, fNeg, fGcd, fIs, fIsNot, e1, e3]
theorem e_wanti (i : Int) : d_want_integer [.im (.int i)] = .ok (.im (.int i)) none := by
  have e1 := e_is_int (.int i) rfl
  unfold d_want_integer b_want_integer
  simp [fnD, sSeq, SR.then, sSet, sRet, sIf, sPar, sExpr, sAsg, sNext, sFor, forGo, tOf, tNo, tAn, tOr', eIf, eOp2, eOp1, eOpN, eV, eC, eAnd, eOr, eNot, bE, eCh, aCons, aNil, aConsE, aNilE, eTup, eLst, eCall, eCall0, eCallK, eCallIo, frE, frIo, eIsi, Res.bind, Res.bindS, Res.noex, rd, rdAll, put, esc, DL.settle, stor, noIo, okB, okA, outOf, outB, small, lstOf, put', tgT, tgAll, tgI, tgN, Tg.put, Tg.putAll, ixN, noIoAll, noIoB, setAll, itR, itE, f_add, f_sub, f_subb, f_mul, f_div, f_mod, f_pow, f_lt, f_le, f_gt, f_ge, fNeg, fGcd, fIs, fIsNot, e1, isI]
theorem e_made (a b : Int) (hb : b ≠ 0) (hs : bd 70 b) : d_ratio_made [.im (.int a), .im (.int b)] = .ok (.im (tp (L a b))) none := by
  have e1 := e_wanti a
  have e2 := e_wanti b
  have e3 := e_bare a b hb (bmono hs (by decide))
  have ne : (b == 0) = false := by simpa using hb
  unfold d_ratio_made b_ratio_made
  simp [fnD, sSeq, SR.then, sSet, sRet, sIf, sPar, sExpr, sAsg, sNext, sFor, forGo, tOf, tNo, tAn, tOr', eIf, eOp2, eOp1, eOpN, eV, eC, eAnd, eOr, eNot, bE, eCh, aCons, aNil, aConsE, aNilE, eTup, eLst, eCall, eCall0, eCallK, eCallIo, frE, frIo, eIsi, Res.bind, Res.bindS, Res.noex, rd, rdAll, put, esc, DL.settle, stor, noIo, okB, okA, outOf, outB, small, lstOf, put', tgT, tgAll, tgI, tgN, Tg.put, Tg.putAll, ixN, noIoAll, noIoB, setAll, itR, itE, f_add, f_sub, f_subb, f_mul, f_div, f_mod, f_pow, f_lt, f_le, f_gt, f_ge, fNeg, fGcd, fIs, fIsNot, e1, e2, e3, fEq_int, ne]
end K10
/-! ## K10r.lean -/
set_option Elab.async false
set_option linter.all false
set_option maxRecDepth 100000
set_option maxHeartbeats 4000000
set_option exponentiation.threshold 3000
namespace K10
open PySem PySem.Spec L2 DL
/-! ### draws -/
abbrev pr (x y : Int) : List D := [.int x, .int y]
theorem ixp0 (x y : Int) : fIx (.list (pr x y)) (.int 0) = some (.im (.int x)) := rfl
theorem ixp1 (x y : Int) : fIx (.list (pr x y)) (.int 1) = some (.im (.int y)) := rfl
theorem mulS (x y : Int) (h0 : 0 ≤ x) (h1 : x < 4294967296) (k0 : 0 ≤ y) (k1 : y < 4294967296) : mulB x y = true := mulB_ok (bmono (m := 40) (by unfold bd; omega) (by decide)) (bmono (m := 40) (by unfold bd; omega) (by decide))
theorem e_draw (x y m : Int) (hy : 0 ≤ y) (hy2 : y < 4294967296) (hm : 0 < m) (hm2 : m < 4294967296) : ∃ x' y' r : Int, 0 ≤ y' ∧ y' < 4294967296 ∧ 0 ≤ r ∧ r < m ∧ d__law_draw [.io (pr x y), .im (.int m)] = .ok (.im (.int r)) (some (pr x' y')) := by
  have i0 := ixp0 x y
  have i1 := ixp1 x y
  by_cases c : 0 < x
  · refine ⟨x / m, y, x % m, hy, hy2, Int.emod_nonneg _ (by omega), Int.emod_lt_of_pos _ hm, ?_⟩
    have dm : fDivmod [.int x, .int m] = some (.im (.tuple [.int (x / m), .int (x % m)])) := by
      unfold fDivmod
      have : m.natAbs.log2 < 9000 := Nat.lt_trans (lg (k := 40) (by decide) (by omega)) (by decide)
      simp [hm, this]
    dsimp only [pr] at *
    unfold d__law_draw b__law_draw
    simp [fnD, sSeq, SR.then, sSet, sRet, sIf, sPar, sExpr, sAsg, sNext, sFor, forGo, tOf, tNo, tAn, tOr', eIf, eOp2, eOp1, eOpN, eV, eC, eAnd, eOr, eNot, bE, eCh, aCons, aNil, aConsE, aNilE, eTup, eLst, eCall, eCall0, eCallK, eCallIo, frE, frIo, eIsi, Res.bind, Res.bindS, Res.noex, rd, rdAll, put, esc, DL.settle, stor, noIo, okB, okA, outOf, outB, small, lstOf, put', tgT, tgAll, tgI, tgN, Tg.put, Tg.putAll, ixN, noIoAll, noIoB, setAll, itR, itE, f_add, f_sub, f_subb, f_mul, f_div, f_mod, f_pow, f_lt, f_le, f_gt, f_ge, fNeg, fGcd, fIs, fIsNot, i0, i1, c, dm, List.set]
  · have e1 : mulB y 39373 = true := mulS _ _ hy hy2 (by decide) (by decide)
    obtain ⟨z, hz⟩ : ∃ z : Int, z = (y * 39373 + 9209).fmod 2147483587 := ⟨_, rfl⟩
    have z0 : 0 ≤ z := by rw [hz, Int.fmod_eq_emod_of_nonneg _ (by decide)]; exact Int.emod_nonneg _ (by decide)
    have z1 : z < 2147483587 := by rw [hz, Int.fmod_eq_emod_of_nonneg _ (by decide)]; exact Int.emod_lt_of_pos _ (by decide)
    have e2 : modB (y * 39373 + 9209) 2147483587 = true := rfl
    have e3 : mulB z z = true := mulS _ _ z0 (by omega) z0 (by omega)
    obtain ⟨v, hv⟩ : ∃ v : Int, v = z * z := ⟨_, rfl⟩
    have e4 : modB v 2147483563 = true := rfl
    obtain ⟨u, hu⟩ : ∃ u : Int, u = (v.fmod 2147483563).fdiv 17 := ⟨_, rfl⟩
    have e5 : ∀ i, divB i 17 = true := fun i => by unfold divB; decide
    have e6 : modB u m = true := by unfold modB; simp; omega
    refine ⟨x, z, u.fmod m, z0, by omega, ?_, ?_, ?_⟩
    · rw [Int.fmod_eq_emod_of_nonneg _ (by omega)]; exact Int.emod_nonneg _ (by omega)
    · rw [Int.fmod_eq_emod_of_nonneg _ (by omega)]; exact Int.emod_lt_of_pos _ hm
    · have j1 := ixp1 x z
      dsimp only [pr] at *
      unfold d__law_draw b__law_draw
      simp [fnD, sSeq, SR.then, sSet, sRet, sIf, sPar, sExpr, sAsg, sNext, sFor, forGo, tOf, tNo, tAn, tOr', eIf, eOp2, eOp1, eOpN, eV, eC, eAnd, eOr, eNot, bE, eCh, aCons, aNil, aConsE, aNilE, eTup, eLst, eCall, eCall0, eCallK, eCallIo, frE, frIo, eIsi, Res.bind, Res.bindS, Res.noex, rd, rdAll, put, esc, DL.settle, stor, noIo, okB, okA, outOf, outB, small, lstOf, put', tgT, tgAll, tgI, tgN, Tg.put, Tg.putAll, ixN, noIoAll, noIoB, setAll, itR, itE, f_add, f_sub, f_subb, f_mul, f_div, f_mod, f_pow, f_lt, f_le, f_gt, f_ge, fNeg, fGcd, fIs, fIsNot, i0, i1, c, e1, e2, ← hz, j1, e3, ← hv, e4, ← hu, e5, e6, List.set]
theorem p106 : powB 10 6 = true := rfl
theorem p1018 : powB 10 18 = true := rfl
/-- a lent pair of numbers stays one -/
def PR (l : List D) : Prop := ∃ x y : Int, 0 ≤ y ∧ y < 4294967296 ∧ l = pr x y
theorem e_draw' (l : List D) (h : PR l) (m : Int) (hm : 0 < m) (hm2 : m < 4294967296) : ∃ (l' : List D) (r : Int), PR l' ∧ 0 ≤ r ∧ r < m ∧ d__law_draw [.io l, .im (.int m)] = .ok (.im (.int r)) (some l') := by
  obtain ⟨x, y, h1, h2, rfl⟩ := h
  obtain ⟨x', y', r, a, b, c, d, e⟩ := e_draw x y m h1 h2 hm hm2
  exact ⟨pr x' y', r, ⟨x', y', a, b, rfl⟩, c, d, e⟩
theorem e_whole (l : List D) (h : PR l) : ∃ (l' : List D) (r : Int), PR l' ∧ bd 41 r ∧ d__law_whole [.io l] = .ok (.im (.int r)) (some l') := by
  obtain ⟨l1, r1, h1, a1, b1, e1⟩ := e_draw' l h 4 (by decide) (by decide)
  by_cases c : r1 = 3
  · obtain ⟨l2, r2, h2, a2, b2, e2⟩ := e_draw' l1 h1 1000000 (by decide) (by decide)
    obtain ⟨l3, r3, h3, a3, b3, e3⟩ := e_draw' l2 h2 1000000 (by decide) (by decide)
    obtain ⟨l4, r4, h4, a4, b4, e4⟩ := e_draw' l3 h3 2 (by decide) (by decide)
    have m1 : mulB r2 1000000 = true := mulS _ _ a2 (by omega) (by decide) (by decide)
    subst c
    by_cases c4 : r4 = 0
    · refine ⟨l4, r2 * 1000000 + r3, h4, by unfold bd; omega, ?_⟩
      subst c4
      unfold d__law_whole b__law_whole
      simp [fnD, sSeq, SR.then, sSet, sRet, sIf, sPar, sExpr, sAsg, sNext, sFor, forGo, tOf, tNo, tAn, tOr', eIf, eOp2, eOp1, eOpN, eV, eC, eAnd, eOr, eNot, bE, eCh, aCons, aNil, aConsE, aNilE, eTup, eLst, eCall, eCall0, eCallK, eCallIo, frE, frIo, eIsi, Res.bind, Res.bindS, Res.noex, rd, rdAll, put, esc, DL.settle, stor, noIo, okB, okA, outOf, outB, small, lstOf, put', tgT, tgAll, tgI, tgN, Tg.put, Tg.putAll, ixN, noIoAll, noIoB, setAll, itR, itE, f_add, f_sub, f_subb, f_mul, f_div, f_mod, f_pow, f_lt, f_le, f_gt, f_ge, fNeg, fGcd, fIs, fIsNot, e1, e2, e3, e4, fEq_int, p106, m1]
    · refine ⟨l4, -(r2 * 1000000 + r3), h4, by unfold bd; omega, ?_⟩
      have ne : (r4 == 0) = false := by simpa using c4
      unfold d__law_whole b__law_whole
      simp [fnD, sSeq, SR.then, sSet, sRet, sIf, sPar, sExpr, sAsg, sNext, sFor, forGo, tOf, tNo, tAn, tOr', eIf, eOp2, eOp1, eOpN, eV, eC, eAnd, eOr, eNot, bE, eCh, aCons, aNil, aConsE, aNilE, eTup, eLst, eCall, eCall0, eCallK, eCallIo, frE, frIo, eIsi, Res.bind, Res.bindS, Res.noex, rd, rdAll, put, esc, DL.settle, stor, noIo, okB, okA, outOf, outB, small, lstOf, put', tgT, tgAll, tgI, tgN, Tg.put, Tg.putAll, ixN, noIoAll, noIoB, setAll, itR, itE, f_add, f_sub, f_subb, f_mul, f_div, f_mod, f_pow, f_lt, f_le, f_gt, f_ge, fNeg, fGcd, fIs, fIsNot, e1, e2, e3, e4, fEq_int, p106, m1, ne]
  · obtain ⟨l2, r2, h2, a2, b2, e2⟩ := e_draw' l1 h1 25 (by decide) (by decide)
    refine ⟨l2, r2 - 12, h2, by unfold bd; omega, ?_⟩
    have ne : (r1 == 3) = false := by simpa using c
    unfold d__law_whole b__law_whole
    simp [fnD, sSeq, SR.then, sSet, sRet, sIf, sPar, sExpr, sAsg, sNext, sFor, forGo, tOf, tNo, tAn, tOr', eIf, eOp2, eOp1, eOpN, eV, eC, eAnd, eOr, eNot, bE, eCh, aCons, aNil, aConsE, aNilE, eTup, eLst, eCall, eCall0, eCallK, eCallIo, frE, frIo, eIsi, Res.bind, Res.bindS, Res.noex, rd, rdAll, put, esc, DL.settle, stor, noIo, okB, okA, outOf, outB, small, lstOf, put', tgT, tgAll, tgI, tgN, Tg.put, Tg.putAll, ixN, noIoAll, noIoB, setAll, itR, itE, f_add, f_sub, f_subb, f_mul, f_div, f_mod, f_pow, f_lt, f_le, f_gt, f_ge, fNeg, fGcd, fIs, fIsNot, e1, e2, fEq_int, ne]
theorem e_under (l : List D) (h : PR l) : ∃ (l' : List D) (r : Int), PR l' ∧ r ≠ 0 ∧ bd 41 r ∧ d__law_under [.io l] = .ok (.im (.int r)) (some l') := by
  obtain ⟨l1, r1, h1, b1, e1⟩ := e_whole l h
  by_cases c : r1 = 0
  · obtain ⟨l2, r2, h2, a2, b2, e2⟩ := e_draw' l1 h1 9 (by decide) (by decide)
    refine ⟨l2, 1 + r2, h2, by omega, by unfold bd; omega, ?_⟩
    subst c
    unfold d__law_under b__law_under
    simp [fnD, sSeq, SR.then, sSet, sRet, sIf, sPar, sExpr, sAsg, sNext, sFor, forGo, tOf, tNo, tAn, tOr', eIf, eOp2, eOp1, eOpN, eV, eC, eAnd, eOr, eNot, bE, eCh, aCons, aNil, aConsE, aNilE, eTup, eLst, eCall, eCall0, eCallK, eCallIo, frE, frIo, eIsi, Res.bind, Res.bindS, Res.noex, rd, rdAll, put, esc, DL.settle, stor, noIo, okB, okA, outOf, outB, small, lstOf, put', tgT, tgAll, tgI, tgN, Tg.put, Tg.putAll, ixN, noIoAll, noIoB, setAll, itR, itE, f_add, f_sub, f_subb, f_mul, f_div, f_mod, f_pow, f_lt, f_le, f_gt, f_ge, fNeg, fGcd, fIs, fIsNot, e1, e2, fNe_int]
  · refine ⟨l1, r1, h1, c, b1, ?_⟩
    have ne : (r1 == 0) = false := by simpa using c
    unfold d__law_under b__law_under
    simp [fnD, sSeq, SR.then, sSet, sRet, sIf, sPar, sExpr, sAsg, sNext, sFor, forGo, tOf, tNo, tAn, tOr', eIf, eOp2, eOp1, eOpN, eV, eC, eAnd, eOr, eNot, bE, eCh, aCons, aNil, aConsE, aNilE, eTup, eLst, eCall, eCall0, eCallK, eCallIo, frE, frIo, eIsi, Res.bind, Res.bindS, Res.noex, rd, rdAll, put, esc, DL.settle, stor, noIo, okB, okA, outOf, outB, small, lstOf, put', tgT, tgAll, tgI, tgN, Tg.put, Tg.putAll, ixN, noIoAll, noIoB, setAll, itR, itE, f_add, f_sub, f_subb, f_mul, f_div, f_mod, f_pow, f_lt, f_le, f_gt, f_ge, fNeg, fGcd, fIs, fIsNot, e1, fNe_int, ne]
/-! ### the pot -/
theorem f_max (i j : Int) : fMax2 [.int i, .int j] = some (.im (.int (if j > i then j else i))) := rfl
theorem cut_ints (ns : List Int) (lo hi : Option Int) : ∃ ms : List Int, cutB lo hi (.list (ns.map PyData.int)) = some (.mu (ms.map PyData.int)) := by
  refine ⟨(ns.drop (HT.sIx (ns.map PyData.int).length 0 lo)).take (HT.sIx (ns.map PyData.int).length (ns.map PyData.int).length hi - HT.sIx (ns.map PyData.int).length 0 lo), ?_⟩
  show some (B.mu (cutD _ _ _)) = _
  unfold cutD
  rw [List.map_take, List.map_drop]
theorem e_pot_end (cell : Int) (k : Nat) (hk : k < 2) (l : D) (g3 : B) (hg : noIo (some g3) = true) : ∃ y : Int, 0 ≤ y ∧ y < 4294967296 ∧ ((cell.fmod 2147483549 * 40014 + 9221 * (k : Int) + 57).fmod 2147483563 + 1) = y ∧ mulB (cell.fmod 2147483549) 40014 = true ∧ mulB 9221 (k : Int) = true := by
  refine ⟨_, ?_, ?_, rfl, ?_, ?_⟩
  · rw [Int.fmod_eq_emod_of_nonneg _ (by decide : (0:Int) ≤ 2147483563)]
    have := Int.emod_nonneg (cell.fmod 2147483549 * 40014 + 9221 * (k : Int) + 57) (by decide : (2147483563 : Int) ≠ 0)
    omega
  · rw [Int.fmod_eq_emod_of_nonneg _ (by decide : (0:Int) ≤ 2147483563)]
    have := Int.emod_lt_of_pos (cell.fmod 2147483549 * 40014 + 9221 * (k : Int) + 57) (by decide : (0 : Int) < 2147483563)
    omega
  · have h0 := Int.emod_nonneg cell (by decide : (2147483549 : Int) ≠ 0)
    have h1 := Int.emod_lt_of_pos cell (by decide : (0 : Int) < 2147483549)
    rw [Int.fmod_eq_emod_of_nonneg _ (by decide)]
    exact mulS _ _ h0 (by omega) (by decide) (by decide)
  · exact mulS _ _ (by decide) (by decide) (by omega) (by omega)
theorem e_pot (ns : List Int) (k : Nat) (hk : k < 2) : ∃ l : List D, PR l ∧ d__law_pot [.im (.list (ns.map PyData.int)), .im (.int k)] = .ok (.mu l) none := by
  have hlen : fLen [.list (ns.map PyData.int)] = some (.im (.int (ns.length : Nat))) := by
    show some (B.im (.int ((ns.map PyData.int).length : Nat))) = _
    rw [List.length_map]
  have hm1 : ∀ i : Int, modB i 2147483549 = true := fun i => by unfold modB; decide
  have hm2 : ∀ i : Int, modB i 2147483563 = true := fun i => by unfold modB; decide
  have hm3 : ∀ i : Int, modB i 1000003 = true := fun i => by unfold modB; decide
  by_cases c : k < ns.length
  · have hc : ((k : Int) < (ns.length : Int)) := by omega
    have ix : fIx (.list (ns.map PyData.int)) (.int k) = some (.im (.int ns[k])) := by
      show (atI _ _).map B.im = _
      rw [atI_nat (j := k) (by rw [List.getElem?_map, List.getElem?_eq_getElem c]; rfl)]
      rfl
    obtain ⟨cell, hcell⟩ : ∃ cell : Int, cell = if ns[k] < 0 then -ns[k] else ns[k] := ⟨_, rfl⟩
    obtain ⟨y, y0, y1, ey, k1, k2⟩ := e_pot_end cell k hk (.int 0) .un rfl
    obtain ⟨x, hx⟩ : ∃ x : Int, x = if cell - 1000000000000000000 > 0 then cell - 1000000000000000000 else 0 := ⟨_, rfl⟩
    refine ⟨pr x y, ⟨x, y, y0, y1, rfl⟩, ?_⟩
    have mx : fMax2 [.int 0, .int (cell - 1000000000000000000)] = some (.im (.int x)) := by rw [hx]; rfl
    have ab : fAbs [.int ns[k]] = some (.im (.int cell)) := by rw [hcell]; rfl
    have pw : fPow (.int 10) (.int 18) = some (.im (.int 1000000000000000000)) := rfl
    unfold d__law_pot b__law_pot
    simp [fnD, sSeq, SR.then, sSet, sRet, sIf, sPar, sExpr, sAsg, sNext, sFor, forGo, tOf, tNo, tAn, tOr', eIf, eOp2, eOp1, eOpN, eV, eC, eAnd, eOr, eNot, bE, eCh, aCons, aNil, aConsE, aNilE, eTup, eLst, eCall, eCall0, eCallK, eCallIo, frE, frIo, eIsi, Res.bind, Res.bindS, Res.noex, rd, rdAll, put, esc, DL.settle, stor, noIo, okB, okA, outOf, outB, small, lstOf, put', tgT, tgAll, tgI, tgN, Tg.put, Tg.putAll, ixN, noIoAll, noIoB, setAll, itR, itE, f_add, f_sub, f_subb, f_mul, f_div, f_mod, f_pow, f_lt, f_le, f_gt, f_ge, fNeg, fGcd, fIs, fIsNot, hlen, c, ix, ab, hm1, hm2, k1, k2, ey, p1018, mx]
  · obtain ⟨ms, hms⟩ := cut_ints ns none (some 1)
    have sm : fSum [.list (ms.map PyData.int)] = some (.im (.int ms.sum)) := by
      show (intsOf _).map _ = _
      rw [intsOf_map]; rfl
    have k0 : mulB 613 (k : Int) = true := mulS _ _ (by decide) (by decide) (by omega) (by omega)
    obtain ⟨cell, hcell⟩ : ∃ cell : Int, cell = 613 * (k : Int) + 29 + ms.sum.fmod 1000003 := ⟨_, rfl⟩
    obtain ⟨y, y0, y1, ey, k1, k2⟩ := e_pot_end cell k hk (.int 0) .un rfl
    obtain ⟨x, hx⟩ : ∃ x : Int, x = if cell - 1000000000000000000 > 0 then cell - 1000000000000000000 else 0 := ⟨_, rfl⟩
    refine ⟨pr x y, ⟨x, y, y0, y1, rfl⟩, ?_⟩
    have mx : fMax2 [.int 0, .int (cell - 1000000000000000000)] = some (.im (.int x)) := by rw [hx]; rfl
    unfold d__law_pot b__law_pot
    simp [fnD, sSeq, SR.then, sSet, sRet, sIf, sPar, sExpr, sAsg, sNext, sFor, forGo, tOf, tNo, tAn, tOr', eIf, eOp2, eOp1, eOpN, eV, eC, eAnd, eOr, eNot, bE, eCh, aCons, aNil, aConsE, aNilE, eTup, eLst, eCall, eCall0, eCallK, eCallIo, frE, frIo, eIsi, Res.bind, Res.bindS, Res.noex, rd, rdAll, put, esc, DL.settle, stor, noIo, okB, okA, outOf, outB, small, lstOf, put', tgT, tgAll, tgI, tgN, Tg.put, Tg.putAll, ixN, noIoAll, noIoB, setAll, itR, itE, f_add, f_sub, f_subb, f_mul, f_div, f_mod, f_pow, f_lt, f_le, f_gt, f_ge, fNeg, fGcd, fIs, fIsNot, hlen, c, hms, sm, eSl, pSo, pNo, k0, hm3, ← hcell, hm1, hm2, k1, k2, ey, p1018, mx]
end K10
/-! ## K10s.lean -/
set_option Elab.async false
set_option linter.all false
set_option maxRecDepth 100000
set_option maxHeartbeats 4000000
set_option exponentiation.threshold 3000
namespace K10
open PySem PySem.Spec L2 DL
/-! ### refusals -/
theorem sne {x y : PySem.Str} (h : (x == y) = false) (hx : PyData.strOk x = true) (hy : PyData.strOk y = true) : fEq (.str x) (.str y) = some (.im (.bool false)) := by
  have e1 : ∀ z : PySem.Str, PyData.strOk z = true → shp (.str z) = true := fun z hz => by
    show SeqAt.shaped (.str z) = true
    unfold SeqAt.shaped PyData.canLay0
    rw [hz]; rfl
  unfold fEq
  rw [e1 x hx, e1 y hy]
  simp [PyData.eqv, h]
theorem seq (x : PySem.Str) (hx : PyData.strOk x = true) : fEq (.str x) (.str x) = some (.im (.bool true)) := fEq_str x hx
theorem q_pm : fEq (.str "plus") (.str "made") = some (.im (.bool false)) := (sne (by decide +kernel) (by decide +kernel) (by decide +kernel))
theorem q_mm : fEq (.str "minus") (.str "made") = some (.im (.bool false)) := (sne (by decide +kernel) (by decide +kernel) (by decide +kernel))
theorem q_mp : fEq (.str "minus") (.str "plus") = some (.im (.bool false)) := (sne (by decide +kernel) (by decide +kernel) (by decide +kernel))
theorem q_tm : fEq (.str "times") (.str "made") = some (.im (.bool false)) := (sne (by decide +kernel) (by decide +kernel) (by decide +kernel))
theorem q_tp : fEq (.str "times") (.str "plus") = some (.im (.bool false)) := (sne (by decide +kernel) (by decide +kernel) (by decide +kernel))
theorem q_ti : fEq (.str "times") (.str "minus") = some (.im (.bool false)) := (sne (by decide +kernel) (by decide +kernel) (by decide +kernel))
theorem q_om : fEq (.str "over") (.str "made") = some (.im (.bool false)) := (sne (by decide +kernel) (by decide +kernel) (by decide +kernel))
theorem q_op : fEq (.str "over") (.str "plus") = some (.im (.bool false)) := (sne (by decide +kernel) (by decide +kernel) (by decide +kernel))
theorem q_oi : fEq (.str "over") (.str "minus") = some (.im (.bool false)) := (sne (by decide +kernel) (by decide +kernel) (by decide +kernel))
theorem q_ot : fEq (.str "over") (.str "times") = some (.im (.bool false)) := (sne (by decide +kernel) (by decide +kernel) (by decide +kernel))
theorem q_cm : fEq (.str "compared") (.str "made") = some (.im (.bool false)) := (sne (by decide +kernel) (by decide +kernel) (by decide +kernel))
theorem q_cp : fEq (.str "compared") (.str "plus") = some (.im (.bool false)) := (sne (by decide +kernel) (by decide +kernel) (by decide +kernel))
theorem q_ci : fEq (.str "compared") (.str "minus") = some (.im (.bool false)) := (sne (by decide +kernel) (by decide +kernel) (by decide +kernel))
theorem q_ct : fEq (.str "compared") (.str "times") = some (.im (.bool false)) := (sne (by decide +kernel) (by decide +kernel) (by decide +kernel))
theorem q_co : fEq (.str "compared") (.str "over") = some (.im (.bool false)) := (sne (by decide +kernel) (by decide +kernel) (by decide +kernel))
theorem q_fm : fEq (.str "floor") (.str "made") = some (.im (.bool false)) := (sne (by decide +kernel) (by decide +kernel) (by decide +kernel))
theorem q_fp : fEq (.str "floor") (.str "plus") = some (.im (.bool false)) := (sne (by decide +kernel) (by decide +kernel) (by decide +kernel))
theorem q_fi : fEq (.str "floor") (.str "minus") = some (.im (.bool false)) := (sne (by decide +kernel) (by decide +kernel) (by decide +kernel))
theorem q_ft : fEq (.str "floor") (.str "times") = some (.im (.bool false)) := (sne (by decide +kernel) (by decide +kernel) (by decide +kernel))
theorem q_fo : fEq (.str "floor") (.str "over") = some (.im (.bool false)) := (sne (by decide +kernel) (by decide +kernel) (by decide +kernel))
theorem q_fc : fEq (.str "floor") (.str "compared") = some (.im (.bool false)) := (sne (by decide +kernel) (by decide +kernel) (by decide +kernel))
theorem q1 : fEq (.str "made") (.str "made") = some (.im (.bool true)) := seq _ (by decide +kernel)
theorem q2 : fEq (.str "plus") (.str "plus") = some (.im (.bool true)) := seq _ (by decide +kernel)
theorem q3 : fEq (.str "minus") (.str "minus") = some (.im (.bool true)) := seq _ (by decide +kernel)
theorem q4 : fEq (.str "times") (.str "times") = some (.im (.bool true)) := seq _ (by decide +kernel)
theorem q5 : fEq (.str "over") (.str "over") = some (.im (.bool true)) := seq _ (by decide +kernel)
theorem q6 : fEq (.str "compared") (.str "compared") = some (.im (.bool true)) := seq _ (by decide +kernel)
section
variable {x y : D} {e : Exn}
theorem told_made (h : d_ratio_made [.im x, .im y] = .ex e none) : d__law_told [.im (.str "made"), .im x, .im y] = .ex e none := by
  unfold d__law_told b__law_told; simp [fnD, sSeq, SR.then, sSet, sRet, sIf, sPar, sExpr, sAsg, sNext, sFor, forGo, tOf, tNo, tAn, tOr', eIf, eOp2, eOp1, eOpN, eV, eC, eAnd, eOr, eNot, bE, eCh, aCons, aNil, aConsE, aNilE, eTup, eLst, eCall, eCall0, eCallK, eCallIo, frE, frIo, eIsi, Res.bind, Res.bindS, Res.noex, rd, rdAll, put, esc, DL.settle, stor, noIo, okB, okA, outOf, outB, small, lstOf, put', tgT, tgAll, tgI, tgN, Tg.put, Tg.putAll, ixN, noIoAll, noIoB, setAll, itR, itE, f_add, f_sub, f_subb, f_mul, f_div, f_mod, f_pow, f_lt, f_le, f_gt, f_ge, fNeg, fGcd, fIs, fIsNot, q1, h]
theorem told_plus (h : d_ratio_plus [.im x, .im y] = .ex e none) : d__law_told [.im (.str "plus"), .im x, .im y] = .ex e none := by
  unfold d__law_told b__law_told; simp [fnD, sSeq, SR.then, sSet, sRet, sIf, sPar, sExpr, sAsg, sNext, sFor, forGo, tOf, tNo, tAn, tOr', eIf, eOp2, eOp1, eOpN, eV, eC, eAnd, eOr, eNot, bE, eCh, aCons, aNil, aConsE, aNilE, eTup, eLst, eCall, eCall0, eCallK, eCallIo, frE, frIo, eIsi, Res.bind, Res.bindS, Res.noex, rd, rdAll, put, esc, DL.settle, stor, noIo, okB, okA, outOf, outB, small, lstOf, put', tgT, tgAll, tgI, tgN, Tg.put, Tg.putAll, ixN, noIoAll, noIoB, setAll, itR, itE, f_add, f_sub, f_subb, f_mul, f_div, f_mod, f_pow, f_lt, f_le, f_gt, f_ge, fNeg, fGcd, fIs, fIsNot, q_pm, q2, h]
theorem told_minus (h : d_ratio_minus [.im x, .im y] = .ex e none) : d__law_told [.im (.str "minus"), .im x, .im y] = .ex e none := by
  unfold d__law_told b__law_told; simp [fnD, sSeq, SR.then, sSet, sRet, sIf, sPar, sExpr, sAsg, sNext, sFor, forGo, tOf, tNo, tAn, tOr', eIf, eOp2, eOp1, eOpN, eV, eC, eAnd, eOr, eNot, bE, eCh, aCons, aNil, aConsE, aNilE, eTup, eLst, eCall, eCall0, eCallK, eCallIo, frE, frIo, eIsi, Res.bind, Res.bindS, Res.noex, rd, rdAll, put, esc, DL.settle, stor, noIo, okB, okA, outOf, outB, small, lstOf, put', tgT, tgAll, tgI, tgN, Tg.put, Tg.putAll, ixN, noIoAll, noIoB, setAll, itR, itE, f_add, f_sub, f_subb, f_mul, f_div, f_mod, f_pow, f_lt, f_le, f_gt, f_ge, fNeg, fGcd, fIs, fIsNot, q_mm, q_mp, q3, h]
theorem told_times (h : d_ratio_times [.im x, .im y] = .ex e none) : d__law_told [.im (.str "times"), .im x, .im y] = .ex e none := by
  unfold d__law_told b__law_told; simp [fnD, sSeq, SR.then, sSet, sRet, sIf, sPar, sExpr, sAsg, sNext, sFor, forGo, tOf, tNo, tAn, tOr', eIf, eOp2, eOp1, eOpN, eV, eC, eAnd, eOr, eNot, bE, eCh, aCons, aNil, aConsE, aNilE, eTup, eLst, eCall, eCall0, eCallK, eCallIo, frE, frIo, eIsi, Res.bind, Res.bindS, Res.noex, rd, rdAll, put, esc, DL.settle, stor, noIo, okB, okA, outOf, outB, small, lstOf, put', tgT, tgAll, tgI, tgN, Tg.put, Tg.putAll, ixN, noIoAll, noIoB, setAll, itR, itE, f_add, f_sub, f_subb, f_mul, f_div, f_mod, f_pow, f_lt, f_le, f_gt, f_ge, fNeg, fGcd, fIs, fIsNot, q_tm, q_tp, q_ti, q4, h]
theorem told_over (h : d_ratio_over [.im x, .im y] = .ex e none) : d__law_told [.im (.str "over"), .im x, .im y] = .ex e none := by
  unfold d__law_told b__law_told; simp [fnD, sSeq, SR.then, sSet, sRet, sIf, sPar, sExpr, sAsg, sNext, sFor, forGo, tOf, tNo, tAn, tOr', eIf, eOp2, eOp1, eOpN, eV, eC, eAnd, eOr, eNot, bE, eCh, aCons, aNil, aConsE, aNilE, eTup, eLst, eCall, eCall0, eCallK, eCallIo, frE, frIo, eIsi, Res.bind, Res.bindS, Res.noex, rd, rdAll, put, esc, DL.settle, stor, noIo, okB, okA, outOf, outB, small, lstOf, put', tgT, tgAll, tgI, tgN, Tg.put, Tg.putAll, ixN, noIoAll, noIoB, setAll, itR, itE, f_add, f_sub, f_subb, f_mul, f_div, f_mod, f_pow, f_lt, f_le, f_gt, f_ge, fNeg, fGcd, fIs, fIsNot, q_om, q_op, q_oi, q_ot, q5, h]
theorem told_comp (h : d_ratio_compared [.im x, .im y] = .ex e none) : d__law_told [.im (.str "compared"), .im x, .im y] = .ex e none := by
  unfold d__law_told b__law_told; simp [fnD, sSeq, SR.then, sSet, sRet, sIf, sPar, sExpr, sAsg, sNext, sFor, forGo, tOf, tNo, tAn, tOr', eIf, eOp2, eOp1, eOpN, eV, eC, eAnd, eOr, eNot, bE, eCh, aCons, aNil, aConsE, aNilE, eTup, eLst, eCall, eCall0, eCallK, eCallIo, frE, frIo, eIsi, Res.bind, Res.bindS, Res.noex, rd, rdAll, put, esc, DL.settle, stor, noIo, okB, okA, outOf, outB, small, lstOf, put', tgT, tgAll, tgI, tgN, Tg.put, Tg.putAll, ixN, noIoAll, noIoB, setAll, itR, itE, f_add, f_sub, f_subb, f_mul, f_div, f_mod, f_pow, f_lt, f_le, f_gt, f_ge, fNeg, fGcd, fIs, fIsNot, q_cm, q_cp, q_ci, q_ct, q_co, q6, h]
theorem told_floor (h : d_ratio_floor [.im x] = .ex e none) : d__law_told [.im (.str "floor"), .im x, .im y] = .ex e none := by
  unfold d__law_told b__law_told; simp [fnD, sSeq, SR.then, sSet, sRet, sIf, sPar, sExpr, sAsg, sNext, sFor, forGo, tOf, tNo, tAn, tOr', eIf, eOp2, eOp1, eOpN, eV, eC, eAnd, eOr, eNot, bE, eCh, aCons, aNil, aConsE, aNilE, eTup, eLst, eCall, eCall0, eCallK, eCallIo, frE, frIo, eIsi, Res.bind, Res.bindS, Res.noex, rd, rdAll, put, esc, DL.settle, stor, noIo, okB, okA, outOf, outB, small, lstOf, put', tgT, tgAll, tgI, tgN, Tg.put, Tg.putAll, ixN, noIoAll, noIoB, setAll, itR, itE, f_add, f_sub, f_subb, f_mul, f_div, f_mod, f_pow, f_lt, f_le, f_gt, f_ge, fNeg, fGcd, fIs, fIsNot, q_fm, q_fp, q_fi, q_ft, q_fo, q_fc, h]
/-- what the clause tells -/
theorem raised_r {w : PySem.Str} {d : D} (hd : ReprOk d) (h : d__law_told [.im (.str w), .im x, .im y] = .ex ("InvalidRatio", [("value", d)]) none) : d__law_raised [.im (.str w), .im x, .im y] = .ok (.mu [.str "InvalidRatio", .str d.shown, .bool true]) none := by
  unfold d__law_raised b__law_raised
  have hp : pick cSub ("InvalidRatio", [("value", d)]) [⟨"InvalidRatio", 3, tVal "InvalidRatio"⟩, ⟨"InvalidInteger", 3, tVal "InvalidInteger"⟩, ⟨"DividedByNought", 3, tBare "DividedByNought" ""⟩] = some (some (.mu [.str "InvalidRatio", .str d.shown, .bool true])) := by
    have c : cSub "InvalidRatio" "InvalidRatio" = true := by decide +kernel
    unfold pick
    rw [if_pos c]
    unfold tVal
    simp [List.lookup, hd]
  have hc : PySem.Str.ofString "InvalidRatio" ∈ cNames := List.contains_iff_mem.mp (by decide +kernel)
  simp [fnD, sSeq, SR.then, sSet, sRet, sIf, sPar, sExpr, sAsg, sNext, sFor, forGo, tOf, tNo, tAn, tOr', eIf, eOp2, eOp1, eOpN, eV, eC, eAnd, eOr, eNot, bE, eCh, aCons, aNil, aConsE, aNilE, eTup, eLst, eCall, eCall0, eCallK, eCallIo, frE, frIo, eIsi, Res.bind, Res.bindS, Res.noex, rd, rdAll, put, esc, DL.settle, stor, noIo, okB, okA, outOf, outB, small, lstOf, put', tgT, tgAll, tgI, tgN, Tg.put, Tg.putAll, ixN, noIoAll, noIoB, setAll, itR, itE, f_add, f_sub, f_subb, f_mul, f_div, f_mod, f_pow, f_lt, f_le, f_gt, f_ge, fNeg, fGcd, fIs, fIsNot, sTry, h, hp, hc]
theorem raised_i {w : PySem.Str} {d : D} (hd : ReprOk d) (h : d__law_told [.im (.str w), .im x, .im y] = .ex ("InvalidInteger", [("value", d)]) none) : d__law_raised [.im (.str w), .im x, .im y] = .ok (.mu [.str "InvalidInteger", .str d.shown, .bool true]) none := by
  unfold d__law_raised b__law_raised
  have hp : pick cSub ("InvalidInteger", [("value", d)]) [⟨"InvalidRatio", 3, tVal "InvalidRatio"⟩, ⟨"InvalidInteger", 3, tVal "InvalidInteger"⟩, ⟨"DividedByNought", 3, tBare "DividedByNought" ""⟩] = some (some (.mu [.str "InvalidInteger", .str d.shown, .bool true])) := by
    have c : ¬ cSub "InvalidInteger" "InvalidRatio" = true := by decide +kernel
    have c2 : cSub "InvalidInteger" "InvalidInteger" = true := by decide +kernel
    unfold pick
    rw [if_neg c]
    unfold pick
    rw [if_pos c2]
    unfold tVal
    simp [List.lookup, hd]
  have hc : PySem.Str.ofString "InvalidInteger" ∈ cNames := List.contains_iff_mem.mp (by decide +kernel)
  simp [fnD, sSeq, SR.then, sSet, sRet, sIf, sPar, sExpr, sAsg, sNext, sFor, forGo, tOf, tNo, tAn, tOr', eIf, eOp2, eOp1, eOpN, eV, eC, eAnd, eOr, eNot, bE, eCh, aCons, aNil, aConsE, aNilE, eTup, eLst, eCall, eCall0, eCallK, eCallIo, frE, frIo, eIsi, Res.bind, Res.bindS, Res.noex, rd, rdAll, put, esc, DL.settle, stor, noIo, okB, okA, outOf, outB, small, lstOf, put', tgT, tgAll, tgI, tgN, Tg.put, Tg.putAll, ixN, noIoAll, noIoB, setAll, itR, itE, f_add, f_sub, f_subb, f_mul, f_div, f_mod, f_pow, f_lt, f_le, f_gt, f_ge, fNeg, fGcd, fIs, fIsNot, sTry, h, hp, hc]
theorem raised_d {w : PySem.Str} (h : d__law_told [.im (.str w), .im x, .im y] = .ex ("DividedByNought", []) none) : d__law_raised [.im (.str w), .im x, .im y] = .ok (.mu [.str "DividedByNought", .str "", .bool true]) none := by
  unfold d__law_raised b__law_raised
  have hp : pick cSub ("DividedByNought", []) [⟨"InvalidRatio", 3, tVal "InvalidRatio"⟩, ⟨"InvalidInteger", 3, tVal "InvalidInteger"⟩, ⟨"DividedByNought", 3, tBare "DividedByNought" ""⟩] = some (some (.mu [.str "DividedByNought", .str "", .bool true])) := by
    have c : ¬ cSub "DividedByNought" "InvalidRatio" = true := by decide +kernel
    have c2 : ¬ cSub "DividedByNought" "InvalidInteger" = true := by decide +kernel
    have c3 : cSub "DividedByNought" "DividedByNought" = true := by decide +kernel
    unfold pick
    rw [if_neg c]
    unfold pick
    rw [if_neg c2]
    unfold pick
    rw [if_pos c3]
    rfl
  have hc : PySem.Str.ofString "DividedByNought" ∈ cNames := List.contains_iff_mem.mp (by decide +kernel)
  simp [fnD, sSeq, SR.then, sSet, sRet, sIf, sPar, sExpr, sAsg, sNext, sFor, forGo, tOf, tNo, tAn, tOr', eIf, eOp2, eOp1, eOpN, eV, eC, eAnd, eOr, eNot, bE, eCh, aCons, aNil, aConsE, aNilE, eTup, eLst, eCall, eCall0, eCallK, eCallIo, frE, frIo, eIsi, Res.bind, Res.bindS, Res.noex, rd, rdAll, put, esc, DL.settle, stor, noIo, okB, okA, outOf, outB, small, lstOf, put', tgT, tgAll, tgI, tgN, Tg.put, Tg.putAll, ixN, noIoAll, noIoB, setAll, itR, itE, f_add, f_sub, f_subb, f_mul, f_div, f_mod, f_pow, f_lt, f_le, f_gt, f_ge, fNeg, fGcd, fIs, fIsNot, sTry, h, hp, hc]
/-- a list of a name, a text and True is what it is -/
theorem fNe_told {n t : PySem.Str} (hn : PyData.strOk n = true) (ht : PyData.strOk t = true) : fNe (.list [.str n, .str t, .bool true]) (.list [.str n, .str t, .bool true]) = some (.im (.bool false)) := by
  have e : (PyData.list [.str n, .str t, .bool true]).canLay0 = true := by simp [PyData.canLay0, PyData.canLayAll0, hn, ht]
  have e1 : shp (.list [.str n, .str t, .bool true]) = true := by
    show SeqAt.shaped _ = true
    unfold SeqAt.shaped
    rw [e]; rfl
  unfold fNe
  rw [e1, SeqAt.eqv_refl _ e]
  rfl
/-! ### what is refused -/
theorem w_ref (h : d_is_ratio [.im x] = .ok (.im (.bool false)) none) : d_want_ratio [.im x] = .ex ("InvalidRatio", [("value", x)]) none := by
  unfold d_want_ratio b_want_ratio; simp [fnD, sSeq, SR.then, sSet, sRet, sIf, sPar, sExpr, sAsg, sNext, sFor, forGo, tOf, tNo, tAn, tOr', eIf, eOp2, eOp1, eOpN, eV, eC, eAnd, eOr, eNot, bE, eCh, aCons, aNil, aConsE, aNilE, eTup, eLst, eCall, eCall0, eCallK, eCallIo, frE, frIo, eIsi, Res.bind, Res.bindS, Res.noex, rd, rdAll, put, esc, DL.settle, stor, noIo, okB, okA, outOf, outB, small, lstOf, put', tgT, tgAll, tgI, tgN, Tg.put, Tg.putAll, ixN, noIoAll, noIoB, setAll, itR, itE, f_add, f_sub, f_subb, f_mul, f_div, f_mod, f_pow, f_lt, f_le, f_gt, f_ge, fNeg, fGcd, fIs, fIsNot, h, sRaise1]
variable (h : d_want_ratio [.im x] = .ex e none)
include h
theorem r_plus : d_ratio_plus [.im x, .im y] = .ex e none := by unfold d_ratio_plus b_ratio_plus; simp [fnD, sSeq, SR.then, sSet, sRet, sIf, sPar, sExpr, sAsg, sNext, sFor, forGo, tOf, tNo, tAn, tOr', eIf, eOp2, eOp1, eOpN, eV, eC, eAnd, eOr, eNot, bE, eCh, aCons, aNil, aConsE, aNilE, eTup, eLst, eCall, eCall0, eCallK, eCallIo, frE, frIo, eIsi, Res.bind, Res.bindS, Res.noex, rd, rdAll, put, esc, DL.settle, stor, noIo, okB, okA, outOf, outB, small, lstOf, put', tgT, tgAll, tgI, tgN, Tg.put, Tg.putAll, ixN, noIoAll, noIoB, setAll, itR, itE, f_add, f_sub, f_subb, f_mul, f_div, f_mod, f_pow, f_lt, f_le, f_gt, f_ge, fNeg, fGcd, fIs, fIsNot, h]
theorem r_minus : d_ratio_minus [.im x, .im y] = .ex e none := by unfold d_ratio_minus b_ratio_minus; simp [fnD, sSeq, SR.then, sSet, sRet, sIf, sPar, sExpr, sAsg, sNext, sFor, forGo, tOf, tNo, tAn, tOr', eIf, eOp2, eOp1, eOpN, eV, eC, eAnd, eOr, eNot, bE, eCh, aCons, aNil, aConsE, aNilE, eTup, eLst, eCall, eCall0, eCallK, eCallIo, frE, frIo, eIsi, Res.bind, Res.bindS, Res.noex, rd, rdAll, put, esc, DL.settle, stor, noIo, okB, okA, outOf, outB, small, lstOf, put', tgT, tgAll, tgI, tgN, Tg.put, Tg.putAll, ixN, noIoAll, noIoB, setAll, itR, itE, f_add, f_sub, f_subb, f_mul, f_div, f_mod, f_pow, f_lt, f_le, f_gt, f_ge, fNeg, fGcd, fIs, fIsNot, h]
theorem r_times : d_ratio_times [.im x, .im y] = .ex e none := by unfold d_ratio_times b_ratio_times; simp [fnD, sSeq, SR.then, sSet, sRet, sIf, sPar, sExpr, sAsg, sNext, sFor, forGo, tOf, tNo, tAn, tOr', eIf, eOp2, eOp1, eOpN, eV, eC, eAnd, eOr, eNot, bE, eCh, aCons, aNil, aConsE, aNilE, eTup, eLst, eCall, eCall0, eCallK, eCallIo, frE, frIo, eIsi, Res.bind, Res.bindS, Res.noex, rd, rdAll, put, esc, DL.settle, stor, noIo, okB, okA, outOf, outB, small, lstOf, put', tgT, tgAll, tgI, tgN, Tg.put, Tg.putAll, ixN, noIoAll, noIoB, setAll, itR, itE, f_add, f_sub, f_subb, f_mul, f_div, f_mod, f_pow, f_lt, f_le, f_gt, f_ge, fNeg, fGcd, fIs, fIsNot, h]
theorem r_over : d_ratio_over [.im x, .im y] = .ex e none := by unfold d_ratio_over b_ratio_over; simp [fnD, sSeq, SR.then, sSet, sRet, sIf, sPar, sExpr, sAsg, sNext, sFor, forGo, tOf, tNo, tAn, tOr', eIf, eOp2, eOp1, eOpN, eV, eC, eAnd, eOr, eNot, bE, eCh, aCons, aNil, aConsE, aNilE, eTup, eLst, eCall, eCall0, eCallK, eCallIo, frE, frIo, eIsi, Res.bind, Res.bindS, Res.noex, rd, rdAll, put, esc, DL.settle, stor, noIo, okB, okA, outOf, outB, small, lstOf, put', tgT, tgAll, tgI, tgN, Tg.put, Tg.putAll, ixN, noIoAll, noIoB, setAll, itR, itE, f_add, f_sub, f_subb, f_mul, f_div, f_mod, f_pow, f_lt, f_le, f_gt, f_ge, fNeg, fGcd, fIs, fIsNot, h]
theorem r_comp : d_ratio_compared [.im x, .im y] = .ex e none := by unfold d_ratio_compared b_ratio_compared; simp [fnD, sSeq, SR.then, sSet, sRet, sIf, sPar, sExpr, sAsg, sNext, sFor, forGo, tOf, tNo, tAn, tOr', eIf, eOp2, eOp1, eOpN, eV, eC, eAnd, eOr, eNot, bE, eCh, aCons, aNil, aConsE, aNilE, eTup, eLst, eCall, eCall0, eCallK, eCallIo, frE, frIo, eIsi, Res.bind, Res.bindS, Res.noex, rd, rdAll, put, esc, DL.settle, stor, noIo, okB, okA, outOf, outB, small, lstOf, put', tgT, tgAll, tgI, tgN, Tg.put, Tg.putAll, ixN, noIoAll, noIoB, setAll, itR, itE, f_add, f_sub, f_subb, f_mul, f_div, f_mod, f_pow, f_lt, f_le, f_gt, f_ge, fNeg, fGcd, fIs, fIsNot, h]
theorem r_floor : d_ratio_floor [.im x] = .ex e none := by unfold d_ratio_floor b_ratio_floor; simp [fnD, sSeq, SR.then, sSet, sRet, sIf, sPar, sExpr, sAsg, sNext, sFor, forGo, tOf, tNo, tAn, tOr', eIf, eOp2, eOp1, eOpN, eV, eC, eAnd, eOr, eNot, bE, eCh, aCons, aNil, aConsE, aNilE, eTup, eLst, eCall, eCall0, eCallK, eCallIo, frE, frIo, eIsi, Res.bind, Res.bindS, Res.noex, rd, rdAll, put, esc, DL.settle, stor, noIo, okB, okA, outOf, outB, small, lstOf, put', tgT, tgAll, tgI, tgN, Tg.put, Tg.putAll, ixN, noIoAll, noIoB, setAll, itR, itE, f_add, f_sub, f_subb, f_mul, f_div, f_mod, f_pow, f_lt, f_le, f_gt, f_ge, fNeg, fGcd, fIs, fIsNot, h]
variable {o : D} (k : d_want_ratio [.im o] = .ok (.im o) none)
include k
theorem r2_plus : d_ratio_plus [.im o, .im x] = .ex e none := by unfold d_ratio_plus b_ratio_plus; simp [fnD, sSeq, SR.then, sSet, sRet, sIf, sPar, sExpr, sAsg, sNext, sFor, forGo, tOf, tNo, tAn, tOr', eIf, eOp2, eOp1, eOpN, eV, eC, eAnd, eOr, eNot, bE, eCh, aCons, aNil, aConsE, aNilE, eTup, eLst, eCall, eCall0, eCallK, eCallIo, frE, frIo, eIsi, Res.bind, Res.bindS, Res.noex, rd, rdAll, put, esc, DL.settle, stor, noIo, okB, okA, outOf, outB, small, lstOf, put', tgT, tgAll, tgI, tgN, Tg.put, Tg.putAll, ixN, noIoAll, noIoB, setAll, itR, itE, f_add, f_sub, f_subb, f_mul, f_div, f_mod, f_pow, f_lt, f_le, f_gt, f_ge, fNeg, fGcd, fIs, fIsNot, h, k]
theorem r2_minus : d_ratio_minus [.im o, .im x] = .ex e none := by unfold d_ratio_minus b_ratio_minus; simp [fnD, sSeq, SR.then, sSet, sRet, sIf, sPar, sExpr, sAsg, sNext, sFor, forGo, tOf, tNo, tAn, tOr', eIf, eOp2, eOp1, eOpN, eV, eC, eAnd, eOr, eNot, bE, eCh, aCons, aNil, aConsE, aNilE, eTup, eLst, eCall, eCall0, eCallK, eCallIo, frE, frIo, eIsi, Res.bind, Res.bindS, Res.noex, rd, rdAll, put, esc, DL.settle, stor, noIo, okB, okA, outOf, outB, small, lstOf, put', tgT, tgAll, tgI, tgN, Tg.put, Tg.putAll, ixN, noIoAll, noIoB, setAll, itR, itE, f_add, f_sub, f_subb, f_mul, f_div, f_mod, f_pow, f_lt, f_le, f_gt, f_ge, fNeg, fGcd, fIs, fIsNot, h, k]
theorem r2_times : d_ratio_times [.im o, .im x] = .ex e none := by unfold d_ratio_times b_ratio_times; simp [fnD, sSeq, SR.then, sSet, sRet, sIf, sPar, sExpr, sAsg, sNext, sFor, forGo, tOf, tNo, tAn, tOr', eIf, eOp2, eOp1, eOpN, eV, eC, eAnd, eOr, eNot, bE, eCh, aCons, aNil, aConsE, aNilE, eTup, eLst, eCall, eCall0, eCallK, eCallIo, frE, frIo, eIsi, Res.bind, Res.bindS, Res.noex, rd, rdAll, put, esc, DL.settle, stor, noIo, okB, okA, outOf, outB, small, lstOf, put', tgT, tgAll, tgI, tgN, Tg.put, Tg.putAll, ixN, noIoAll, noIoB, setAll, itR, itE, f_add, f_sub, f_subb, f_mul, f_div, f_mod, f_pow, f_lt, f_le, f_gt, f_ge, fNeg, fGcd, fIs, fIsNot, h, k]
theorem r2_over : d_ratio_over [.im o, .im x] = .ex e none := by unfold d_ratio_over b_ratio_over; simp [fnD, sSeq, SR.then, sSet, sRet, sIf, sPar, sExpr, sAsg, sNext, sFor, forGo, tOf, tNo, tAn, tOr', eIf, eOp2, eOp1, eOpN, eV, eC, eAnd, eOr, eNot, bE, eCh, aCons, aNil, aConsE, aNilE, eTup, eLst, eCall, eCall0, eCallK, eCallIo, frE, frIo, eIsi, Res.bind, Res.bindS, Res.noex, rd, rdAll, put, esc, DL.settle, stor, noIo, okB, okA, outOf, outB, small, lstOf, put', tgT, tgAll, tgI, tgN, Tg.put, Tg.putAll, ixN, noIoAll, noIoB, setAll, itR, itE, f_add, f_sub, f_subb, f_mul, f_div, f_mod, f_pow, f_lt, f_le, f_gt, f_ge, fNeg, fGcd, fIs, fIsNot, h, k]
theorem r2_comp : d_ratio_compared [.im o, .im x] = .ex e none := by unfold d_ratio_compared b_ratio_compared; simp [fnD, sSeq, SR.then, sSet, sRet, sIf, sPar, sExpr, sAsg, sNext, sFor, forGo, tOf, tNo, tAn, tOr', eIf, eOp2, eOp1, eOpN, eV, eC, eAnd, eOr, eNot, bE, eCh, aCons, aNil, aConsE, aNilE, eTup, eLst, eCall, eCall0, eCallK, eCallIo, frE, frIo, eIsi, Res.bind, Res.bindS, Res.noex, rd, rdAll, put, esc, DL.settle, stor, noIo, okB, okA, outOf, outB, small, lstOf, put', tgT, tgAll, tgI, tgN, Tg.put, Tg.putAll, ixN, noIoAll, noIoB, setAll, itR, itE, f_add, f_sub, f_subb, f_mul, f_div, f_mod, f_pow, f_lt, f_le, f_gt, f_ge, fNeg, fGcd, fIs, fIsNot, h, k]
end
section
variable {x y : D}
theorem wi_ref (f : flat x = true) (h : isI x = false) : d_want_integer [.im x] = .ex ("InvalidInteger", [("value", x)]) none := by
  have e1 := e_is_int x f
  rw [h] at e1
  unfold d_want_integer b_want_integer; simp [fnD, sSeq, SR.then, sSet, sRet, sIf, sPar, sExpr, sAsg, sNext, sFor, forGo, tOf, tNo, tAn, tOr', eIf, eOp2, eOp1, eOpN, eV, eC, eAnd, eOr, eNot, bE, eCh, aCons, aNil, aConsE, aNilE, eTup, eLst, eCall, eCall0, eCallK, eCallIo, frE, frIo, eIsi, Res.bind, Res.bindS, Res.noex, rd, rdAll, put, esc, DL.settle, stor, noIo, okB, okA, outOf, outB, small, lstOf, put', tgT, tgAll, tgI, tgN, Tg.put, Tg.putAll, ixN, noIoAll, noIoB, setAll, itR, itE, f_add, f_sub, f_subb, f_mul, f_div, f_mod, f_pow, f_lt, f_le, f_gt, f_ge, fNeg, fGcd, fIs, fIsNot, e1, sRaise1]
theorem made_ref1 (f : flat x = true) (h : isI x = false) : d_ratio_made [.im x, .im y] = .ex ("InvalidInteger", [("value", x)]) none := by
  have e1 := wi_ref f h
  unfold d_ratio_made b_ratio_made; simp [fnD, sSeq, SR.then, sSet, sRet, sIf, sPar, sExpr, sAsg, sNext, sFor, forGo, tOf, tNo, tAn, tOr', eIf, eOp2, eOp1, eOpN, eV, eC, eAnd, eOr, eNot, bE, eCh, aCons, aNil, aConsE, aNilE, eTup, eLst, eCall, eCall0, eCallK, eCallIo, frE, frIo, eIsi, Res.bind, Res.bindS, Res.noex, rd, rdAll, put, esc, DL.settle, stor, noIo, okB, okA, outOf, outB, small, lstOf, put', tgT, tgAll, tgI, tgN, Tg.put, Tg.putAll, ixN, noIoAll, noIoB, setAll, itR, itE, f_add, f_sub, f_subb, f_mul, f_div, f_mod, f_pow, f_lt, f_le, f_gt, f_ge, fNeg, fGcd, fIs, fIsNot, e1]
theorem made_ref2 {i : Int} (f : flat x = true) (h : isI x = false) : d_ratio_made [.im (.int i), .im x] = .ex ("InvalidInteger", [("value", x)]) none := by
  have e1 := wi_ref f h
  have e2 := e_wanti i
  unfold d_ratio_made b_ratio_made; simp [fnD, sSeq, SR.then, sSet, sRet, sIf, sPar, sExpr, sAsg, sNext, sFor, forGo, tOf, tNo, tAn, tOr', eIf, eOp2, eOp1, eOpN, eV, eC, eAnd, eOr, eNot, bE, eCh, aCons, aNil, aConsE, aNilE, eTup, eLst, eCall, eCall0, eCallK, eCallIo, frE, frIo, eIsi, Res.bind, Res.bindS, Res.noex, rd, rdAll, put, esc, DL.settle, stor, noIo, okB, okA, outOf, outB, small, lstOf, put', tgT, tgAll, tgI, tgN, Tg.put, Tg.putAll, ixN, noIoAll, noIoB, setAll, itR, itE, f_add, f_sub, f_subb, f_mul, f_div, f_mod, f_pow, f_lt, f_le, f_gt, f_ge, fNeg, fGcd, fIs, fIsNot, e1, e2]
theorem made_ref0 {i : Int} : d_ratio_made [.im (.int i), .im (.int 0)] = .ex ("InvalidInteger", [("value", .int 0)]) none := by
  have e1 := e_wanti 0
  have e2 := e_wanti i
  unfold d_ratio_made b_ratio_made; simp [fnD, sSeq, SR.then, sSet, sRet, sIf, sPar, sExpr, sAsg, sNext, sFor, forGo, tOf, tNo, tAn, tOr', eIf, eOp2, eOp1, eOpN, eV, eC, eAnd, eOr, eNot, bE, eCh, aCons, aNil, aConsE, aNilE, eTup, eLst, eCall, eCall0, eCallK, eCallIo, frE, frIo, eIsi, Res.bind, Res.bindS, Res.noex, rd, rdAll, put, esc, DL.settle, stor, noIo, okB, okA, outOf, outB, small, lstOf, put', tgT, tgAll, tgI, tgN, Tg.put, Tg.putAll, ixN, noIoAll, noIoB, setAll, itR, itE, f_add, f_sub, f_subb, f_mul, f_div, f_mod, f_pow, f_lt, f_le, f_gt, f_ge, fNeg, fGcd, fIs, fIsNot, e1, e2, fEq_int, sRaise1]
end
/-! ### the odd ones -/
def odds : List D := [.tuple [.int 2, .int 4], .tuple [.int 1, .int 0], .tuple [.int 1, .int (-2)], .tuple [.int 0, .int 2], .list [.int 1, .int 2], .tuple [.int 1], .tuple [.int 1, .int 2, .int 3], .tuple [.bool true, .int 1], .tuple [.int 1, .bool true], .tuple [.int 0, .bool false], .tuple [.str "1", .int 2], .tuple [.int 1, .str "2"], .tuple [.none, .int 1], .none, .str "1/2", .int 1, .tuple [], .tuple [.tuple [.int 1, .int 2], .int 1], .tuple [.int 1, .tuple [.int 2]], .list [.list [.int 1], .int 2]]
theorem e_odd : d__law_odd [] = .ok (.mu odds) none := by
  unfold d__law_odd b__law_odd odds
  simp [fnD, sSeq, SR.then, sSet, sRet, sIf, sPar, sExpr, sAsg, sNext, sFor, forGo, tOf, tNo, tAn, tOr', eIf, eOp2, eOp1, eOpN, eV, eC, eAnd, eOr, eNot, bE, eCh, aCons, aNil, aConsE, aNilE, eTup, eLst, eCall, eCall0, eCallK, eCallIo, frE, frIo, eIsi, Res.bind, Res.bindS, Res.noex, rd, rdAll, put, esc, DL.settle, stor, noIo, okB, okA, outOf, outB, small, lstOf, put', tgT, tgAll, tgI, tgN, Tg.put, Tg.putAll, ixN, noIoAll, noIoB, setAll, itR, itE, f_add, f_sub, f_subb, f_mul, f_div, f_mod, f_pow, f_lt, f_le, f_gt, f_ge, fNeg, fGcd, fIs, fIsNot, fNeg]
theorem odd_no : ∀ o ∈ odds, d_is_ratio [.im o] = .ok (.im (.bool false)) none := by
  intro o h
  simp only [odds, List.mem_cons, List.not_mem_nil, or_false] at h
  rcases h with rfl | rfl | rfl | rfl | rfl | rfl | rfl | rfl | rfl | rfl | rfl | rfl | rfl | rfl | rfl | rfl | rfl | rfl | rfl | rfl <;> rfl
theorem odd_rs : ∀ o ∈ odds, RS o := by
  intro o h
  simp only [odds, List.mem_cons, List.not_mem_nil, or_false] at h
  rcases h with rfl | rfl | rfl | rfl | rfl | rfl | rfl | rfl | rfl | rfl | rfl | rfl | rfl | rfl | rfl | rfl | rfl | rfl | rfl | rfl <;> (unfold RS ReprOk; decide +kernel)
def odd2 : List D := [.bool true, .bool false, .none, .str "1", .tuple [.int 1, .int 2], .list [.int 3], .str "", .tuple []]
theorem str_ok : ∀ o ∈ odd2, flat o = true ∧ isI o = false ∧ RS o := by
  intro o h
  simp only [odd2, List.mem_cons, List.not_mem_nil, or_false] at h
  rcases h with rfl | rfl | rfl | rfl | rfl | rfl | rfl | rfl <;> (unfold RS ReprOk; decide +kernel)
theorem rs0 : RS (.int 0) := by unfold RS ReprOk; decide +kernel
end K10
/-! ## K10u.lean -/
set_option Elab.async false
set_option linter.all false
set_option maxRecDepth 100000
set_option maxHeartbeats 8000000
set_option exponentiation.threshold 3000
namespace K10
open PySem PySem.Spec L2 DL
theorem Lgd {a b : Int} (hb : b ≠ 0) (h1 : bd 70 a) (h2 : bd 70 b) : Gd (L a b) := ⟨Lpos hb, Lcop hb, bL1 hb h1, bL2 hb h2⟩
theorem rs_tp {a b : Int} (hb : b ≠ 0) (h1 : bd 300 a) (h2 : bd 300 b) : RS (tp (L a b)) := ⟨repr_tp _ (bL1 hb h1) (bL2 hb h2), strOk_tp _⟩
theorem e_pair (a b c d : Int) (hb : b ≠ 0) (hd : d ≠ 0) (ba : bd 50 a) (bb : bd 50 b) (bc : bd 50 c) (bdd : bd 50 d) : d__law_pair_right [.im (.int a), .im (.int b), .im (.int c), .im (.int d)] = .ok (.im (.bool true)) none := by
  have u : ∀ {i : Int}, bd 50 i → bd 70 i := fun h => bmono h (by decide)
  have u3 : ∀ {n i}, n ≤ 300 → bd n i → bd 300 i := fun l h => bmono h l
  have u1 : ∀ {n i}, n ≤ 190 → bd n i → bd 190 i := fun l h => bmono h l
  have hbd : b * d ≠ 0 := Int.mul_ne_zero hb hd
  have g1 : Gd (L a b) := Lgd hb (u ba) (u bb)
  have g2 : Gd (L c d) := Lgd hd (u bc) (u bdd)
  have l1 := e_least a b hb (u1 (by decide) ba) (u1 (by decide) bb)
  have l2 := e_least c d hd (u1 (by decide) bc) (u1 (by decide) bdd)
  have m1 := e_made a b hb (u bb)
  have m2 := e_made c d hd (u bdd)
  have x1 := L1 a b
  have x2 := L2' a b
  have y1 := L1 c d
  have y2 := L2' c d
  have n1 := s_ne (a := a) hb
  have n2 := s_ne (a := c) hd
  have pu := e_plus g1 g2
  have mi := e_minus g1 g2
  have ti := e_times g1 g2
  have b1 := bmul ba bdd
  have b2' := bmul bc bb
  have b3 := bmul bb bdd
  have b4 := bmul ba bc
  have b5 := bmul bb bc
  have lp := e_least (a * d + c * b) (b * d) hbd (u1 (by decide) (badd b1 b2')) (u1 (by decide) b3)
  have lm := e_least (a * d - c * b) (b * d) hbd (u1 (by decide) (bsub b1 b2')) (u1 (by decide) b3)
  have lt := e_least (a * c) (b * d) hbd (u1 (by decide) b4) (u1 (by decide) b3)
  have rp : RS (tp (L (a * d + c * b) (b * d))) := rs_tp hbd (u3 (by decide) (badd b1 b2')) (u3 (by decide) b3)
  have rm : RS (tp (L (a * d - c * b) (b * d))) := rs_tp hbd (u3 (by decide) (bsub b1 b2')) (u3 (by decide) b3)
  have rt : RS (tp (L (a * c) (b * d))) := rs_tp hbd (u3 (by decide) b4) (u3 (by decide) b3)
  have r1 : RS (tp (L a b)) := rs_tp hb (u3 (by decide) ba) (u3 (by decide) bb)
  have r2 : RS (tp (L c d)) := rs_tp hd (u3 (by decide) bc) (u3 (by decide) bdd)
  have i1 := e_isr g1
  have i2 := e_isr g2
  have cp := e_comp g1 g2
  have fl := e_floor g1
  have q2ne : (L a b).2 ≠ 0 := by have := g1.1; omega
  have t2ne : (L c d).2 ≠ 0 := by have := g2.1; omega
  have fo := floor_ok (a := (L a b).1) g1.1
  have bfl : mulB ((L a b).1.fdiv (L a b).2) (L a b).2 = true ∧ mulB ((L a b).1.fdiv (L a b).2 + 1) (L a b).2 = true := by
    have hq : bd 51 ((L a b).1.fdiv (L a b).2) := by
      have k1 : bd 50 (L a b).1 := bL1 hb ba
      have g := g1.1
      unfold bd at *
      generalize (L a b).1 = p at *
      generalize (L a b).2 = q at *
      rw [Int.fdiv_eq_ediv_of_nonneg _ (by omega)] at *
      have h1 := Int.natAbs_ediv_le_natAbs p q
      have : (2:Nat)^51 = 2 * 2^50 := by decide
      omega
    exact ⟨mulB_ok (u3 (by decide) hq) (u3 (by decide) g1.2.2.2), mulB_ok (u3 (by decide) (badd hq (show bd 51 1 by unfold bd; decide))) (u3 (by decide) g1.2.2.2)⟩
  have md : ∀ x y : Int, bd 50 x → bd 50 y → mulB x y = true := fun x y hx hy => mulB_ok (u3 (by decide) hx) (u3 (by decide) hy)
  have mL1 : mulB (L a b).1 (L c d).2 = true := mulB_ok (u3 (by decide) g1.2.2.1) (u3 (by decide) g2.2.2.2)
  have mL2 : mulB (L c d).1 (L a b).2 = true := mulB_ok (u3 (by decide) g2.2.2.1) (u3 (by decide) g1.2.2.2)
  -- the scaled pairs
  have sc : ∀ {n m N M : Int}, m ≠ 0 → M ≠ 0 → n * M = N * m → L n m = L N M := fun h1 h2 e => L_eq h1 h2 e
  generalize hp : L a b = p at *
  generalize hq : L c d = q at *
  obtain ⟨o1, o2⟩ := p
  obtain ⟨t1, t2⟩ := q
  dsimp only at *
  generalize hs1 : s a b = s1 at *
  generalize hs2 : s c d = s2 at *
  have ep : L (o1 * t2 + t1 * o2) (o2 * t2) = L (a * d + c * b) (b * d) := by
    refine sc (Int.mul_ne_zero q2ne t2ne) hbd ?_
    rw [← x1, ← x2, ← y1, ← y2]
    simp only [Int.add_mul, Int.mul_add, Int.mul_assoc, Int.mul_comm, Int.mul_left_comm]
  have em : L (o1 * t2 - t1 * o2) (o2 * t2) = L (a * d - c * b) (b * d) := by
    refine sc (Int.mul_ne_zero q2ne t2ne) hbd ?_
    rw [← x1, ← x2, ← y1, ← y2]
    simp only [Int.sub_mul, Int.mul_sub, Int.mul_assoc, Int.mul_comm, Int.mul_left_comm]
  have et : L (o1 * t1) (o2 * t2) = L (a * c) (b * d) := by
    refine sc (Int.mul_ne_zero q2ne t2ne) hbd ?_
    rw [← x1, ← x2, ← y1, ← y2]
    simp only [Int.mul_assoc, Int.mul_comm, Int.mul_left_comm]
  rw [ep] at pu
  rw [em] at mi
  rw [et] at ti
  have z1 := e_is r1
  have z2 := e_is r2
  have zp := e_is rp
  have zm := e_is rm
  have zt := e_is rt
  have ov : (c = 0 ∧ d__law_raised [.im (.str "over"), .im (tp (o1, o2)), .im (tp (t1, t2))] = .ok (.mu [.str "DividedByNought", .str "", .bool true]) none) ∨
      (c ≠ 0 ∧ ∃ v, d_ratio_over [.im (tp (o1, o2)), .im (tp (t1, t2))] = .ok (.im v) none ∧ d__law_least [.im (.int (a * d)), .im (.int (b * c))] = .ok (.im v) none ∧ RS v) := by
    by_cases cz : c = 0
    · left
      have t0 : t1 = 0 := by
        rcases Int.mul_eq_zero.mp (y1.trans cz) with h | h
        · exact h
        · exact absurd h n2
      exact ⟨cz, raised_d (told_over (e_over0 g1 g2 t0))⟩
    · right
      have t0 : t1 ≠ 0 := fun h => cz (by rw [← y1, h, Int.zero_mul])
      have hbc : b * c ≠ 0 := Int.mul_ne_zero hb cz
      refine ⟨cz, tp (L (a * d) (b * c)), ?_, e_least _ _ hbc (u1 (by decide) b1) (u1 (by decide) b5), rs_tp hbc (u3 (by decide) b1) (u3 (by decide) b5)⟩
      rw [e_over g1 g2 t0]
      have eo : L (o1 * t2) (o2 * t1) = L (a * d) (b * c) := by
        refine sc (Int.mul_ne_zero q2ne t0) hbc ?_
        rw [← x1, ← x2, ← y1, ← y2]
        simp only [Int.mul_assoc, Int.mul_comm, Int.mul_left_comm]
      rw [eo]
  have j0 := fIx0 (o1, o2)
  have j1 := fIx1 (o1, o2)
  have k0 := fIx0 (t1, t2)
  have k1 := fIx1 (t1, t2)
  have fb : isB "bool" (.int (o1.fdiv o2)) = some false := rfl
  have fi : isB "int" (.int (o1.fdiv o2)) = some true := rfl
  have mad := md a d ba bdd
  have mcb := md c b bc bb
  have mbd := md b d bb bdd
  have mac := md a c ba bc
  have mbc := md b c bb bc
  clear sc ep em et x1 x2 y1 y2
  clear b1 b2' b3 b4 b5 hp hq hs1 hs2 rp rm rt r1 r2 g1 g2 hbd md u u1 u3
  generalize hgap : o1 * t2 - t1 * o2 = gap at *
  generalize tp (L (a * d + c * b) (b * d)) = Vp at *
  generalize tp (L (a * d - c * b) (b * d)) = Vm at *
  generalize tp (L (a * c) (b * d)) = Vt at *
  generalize hw : b2 (decide (0 < gap)) - b2 (decide (gap < 0)) = ww at *
  generalize h_ad : a * d = ad at *
  generalize h_cb : c * b = cb at *
  generalize h_bd2 : b * d = bd' at *
  generalize h_ac : a * c = ac at *
  generalize h_bc2 : b * c = bc' at *
  have fo1 := fo.1
  have fo2 := fo.2
  dsimp only [tp] at *
  unfold d__law_pair_right b__law_pair_right
  rcases ov with ⟨cz, ov⟩ | ⟨cz, v, ov1, ov2, rv⟩
  · have cz' : (c == 0) = true := by simpa using cz
    have fd := fNe_told (n := "DividedByNought") (t := "") (by decide +kernel) (by decide +kernel)
    simp [fnD, sSeq, SR.then, sSet, sRet, sIf, sPar, sExpr, sAsg, sNext, sFor, forGo, tOf, tNo, tAn, tOr', eIf, eOp2, eOp1, eOpN, eV, eC, eAnd, eOr, eNot, bE, eCh, aCons, aNil, aConsE, aNilE, eTup, eLst, eCall, eCall0, eCallK, eCallIo, frE, frIo, eIsi, Res.bind, Res.bindS, Res.noex, rd, rdAll, put, esc, DL.settle, stor, noIo, okB, okA, outOf, outB, small, lstOf, put', tgT, tgAll, tgI, tgN, Tg.put, Tg.putAll, ixN, noIoAll, noIoB, setAll, itR, itE, f_add, f_sub, f_subb, f_mul, f_div, f_mod, f_pow, f_lt, f_le, f_gt, f_ge, fNeg, fGcd, fIs, fIsNot, l1, l2, m1, m2, permL, z1, z2, i1, i2, pu, mi, ti, lp, lm, lt, zp, zm, zt, fEq_int, fNe_int, cz', ov, fd, hgap, j0, j1, k0, k1, mL1, mL2, cp, hw, fl, fb, fi, mad, mcb, mbd, mac, mbc, bfl.1, bfl.2, fo1, fo2, h_ad, h_cb, h_bd2, h_ac, h_bc2]
  · have zv := e_is rv
    have cz' : (c == 0) = false := by simpa using cz
    simp [fnD, sSeq, SR.then, sSet, sRet, sIf, sPar, sExpr, sAsg, sNext, sFor, forGo, tOf, tNo, tAn, tOr', eIf, eOp2, eOp1, eOpN, eV, eC, eAnd, eOr, eNot, bE, eCh, aCons, aNil, aConsE, aNilE, eTup, eLst, eCall, eCall0, eCallK, eCallIo, frE, frIo, eIsi, Res.bind, Res.bindS, Res.noex, rd, rdAll, put, esc, DL.settle, stor, noIo, okB, okA, outOf, outB, small, lstOf, put', tgT, tgAll, tgI, tgN, Tg.put, Tg.putAll, ixN, noIoAll, noIoB, setAll, itR, itE, f_add, f_sub, f_subb, f_mul, f_div, f_mod, f_pow, f_lt, f_le, f_gt, f_ge, fNeg, fGcd, fIs, fIsNot, l1, l2, m1, m2, permL, z1, z2, i1, i2, pu, mi, ti, lp, lm, lt, zp, zm, zt, fEq_int, fNe_int, cz', hgap, ov1, ov2, zv, j0, j1, k0, k1, mL1, mL2, cp, hw, fl, fb, fi, mad, mcb, mbd, mac, mbc, bfl.1, bfl.2, fo1, fo2, h_ad, h_cb, h_bd2, h_ac, h_bc2]
end K10
/-! ## K10v.lean -/
set_option Elab.async false
set_option linter.all false
set_option maxRecDepth 100000
set_option maxHeartbeats 8000000
set_option exponentiation.threshold 3000
namespace K10
open PySem PySem.Spec L2 DL
theorem ix_mem (l : List D) (r : Int) (h0 : 0 ≤ r) (h1 : r < l.length) : ∃ o ∈ l, fIx (.list l) (.int r) = some (.im o) := by
  obtain ⟨n, rfl⟩ : ∃ n : Nat, r = n := ⟨r.toNat, by omega⟩
  have hn : n < l.length := by omega
  refine ⟨l[n], List.getElem_mem hn, ?_⟩
  show (atI _ _).map B.im = _
  rw [atI_nat (j := n) (List.getElem?_eq_getElem hn)]
  rfl
theorem e_ref (l : List D) (hl : PR l) (p : Int × Int) (hp : Gd p) : ∃ l', PR l' ∧ d__law_refusals_right [.io l, .im (tp p)] = .ok (.im (.bool true)) (some l') := by
  obtain ⟨l1, r1, P1, a1, b1, e1⟩ := e_draw' l hl 20 (by decide) (by decide)
  obtain ⟨l2, r2, P2, a2, b2, e2⟩ := e_draw' l1 P1 20 (by decide) (by decide)
  obtain ⟨l3, r3, P3, a3, b3, e3⟩ := e_draw' l2 P2 8 (by decide) (by decide)
  obtain ⟨o, ho, x1⟩ := ix_mem odds r1 a1 b1
  obtain ⟨q, hq, x2⟩ := ix_mem odds r2 a2 b2
  obtain ⟨st, hst, x3⟩ := ix_mem odd2 r3 a3 b3
  obtain ⟨sf, si, srs⟩ := str_ok st hst
  have ln : fLen [.list odds] = some (.im (.int 20)) := rfl
  have no := odd_no o ho
  have ro := odd_rs o ho
  have wr := w_ref no
  have w1 := e_want hp
  have p1 := raised_r ro.1 (told_plus (r_plus (y := q) wr))
  have p2 := raised_r ro.1 (told_minus (r_minus (y := q) wr))
  have p3 := raised_r ro.1 (told_times (r_times (y := q) wr))
  have p4 := raised_r ro.1 (told_over (r_over (y := q) wr))
  have p5 := raised_r ro.1 (told_comp (r_comp (y := q) wr))
  have q1 := raised_r ro.1 (told_plus (r2_plus wr w1))
  have q2 := raised_r ro.1 (told_minus (r2_minus wr w1))
  have q3 := raised_r ro.1 (told_times (r2_times wr w1))
  have q4 := raised_r ro.1 (told_over (r2_over wr w1))
  have q5 := raised_r ro.1 (told_comp (r2_comp wr w1))
  have f1 := raised_r ro.1 (told_floor (y := .none) (r_floor wr))
  have t1 := raised_i srs.1 (told_made (made_ref1 (y := .int 0) sf si))
  have t2 := raised_i srs.1 (told_made (made_ref2 (i := p.1) sf si))
  have t3 := raised_i rs0.1 (told_made (made_ref0 (i := p.1)))
  have n1 := fNe_told (n := "InvalidRatio") (by decide +kernel) ro.2
  have n2 := fNe_told (n := "InvalidInteger") (by decide +kernel) srs.2
  have n3 := fNe_told (n := "InvalidInteger") (by decide +kernel) rs0.2
  have g1 := fRepr_ok ro.1
  have g2 := fRepr_ok srs.1
  have g3 := fRepr_ok rs0.1
  have i0 : fIx (tp p) (.int 0) = some (.im (.int p.1)) := rfl
  unfold odd2 at x3
  generalize hz : PyData.shown (.int 0) = z0 at *
  generalize tp p = tpp at *
  refine ⟨l3, P3, ?_⟩
  unfold d__law_refusals_right b__law_refusals_right
  simp [fnD, sSeq, SR.then, sSet, sRet, sIf, sPar, sExpr, sAsg, sNext, sFor, forGo, tOf, tNo, tAn, tOr', eIf, eOp2, eOp1, eOpN, eV, eC, eAnd, eOr, eNot, bE, eCh, aCons, aNil, aConsE, aNilE, eTup, eLst, eCall, eCall0, eCallK, eCallIo, frE, frIo, eIsi, Res.bind, Res.bindS, Res.noex, rd, rdAll, put, esc, DL.settle, stor, noIo, okB, okA, outOf, outB, small, lstOf, put', tgT, tgAll, tgI, tgN, Tg.put, Tg.putAll, ixN, noIoAll, noIoB, setAll, itR, itE, f_add, f_sub, f_subb, f_mul, f_div, f_mod, f_pow, f_lt, f_le, f_gt, f_ge, fNeg, fGcd, fIs, fIsNot, e_odd, ln, e1, e2, e3, x1, x2, x3, no, p1, p2, p3, p4, p5, q1, q2, q3, q4, q5, f1, t1, t2, t3, n1, n2, n3, g1, g2, g3, i0]
theorem law_true (ns : List Int) (hl : ns.length ≤ 63) : ∃ o, d_law [.im (.list (ns.map PySem.PyData.int))] = .ok (.im (.bool true)) o := by
  have all : ∀ k : Nat, k < 2 → ∃ (l0 l1 l2 l3 l4 l5 : List D) (a b c d : Int), PR l5 ∧ d__law_pot [.im (.list (ns.map PyData.int)), .im (.int k)] = .ok (.mu l0) none ∧
      d__law_whole [.io l0] = .ok (.im (.int a)) (some l1) ∧ d__law_under [.io l1] = .ok (.im (.int b)) (some l2) ∧ d__law_whole [.io l2] = .ok (.im (.int c)) (some l3) ∧ d__law_under [.io l3] = .ok (.im (.int d)) (some l4) ∧
      d__law_pair_right [.im (.int a), .im (.int b), .im (.int c), .im (.int d)] = .ok (.im (.bool true)) none ∧ d__law_pair_right [.im (.int c), .im (.int d), .im (.int a), .im (.int b)] = .ok (.im (.bool true)) none ∧
      mulB a 3 = true ∧ mulB b 3 = true ∧ d__law_pair_right [.im (.int a), .im (.int b), .im (.int (a * 3)), .im (.int (b * 3))] = .ok (.im (.bool true)) none ∧ d__law_pair_right [.im (.int a), .im (.int b), .im (.int 0), .im (.int d)] = .ok (.im (.bool true)) none ∧
      d__law_least [.im (.int a), .im (.int b)] = .ok (.im (tp (L a b))) none ∧ d__law_refusals_right [.io l4, .im (tp (L a b))] = .ok (.im (.bool true)) (some l5) := by
    intro k hk
    obtain ⟨l0, P0, e0⟩ := e_pot ns k hk
    obtain ⟨l1, a, P1, ba, e1⟩ := e_whole l0 P0
    obtain ⟨l2, b, P2, hb, bb, e2⟩ := e_under l1 P1
    obtain ⟨l3, c, P3, bc, e3⟩ := e_whole l2 P2
    obtain ⟨l4, d, P4, hd, bdd, e4⟩ := e_under l3 P3
    have m : ∀ {i : Int}, bd 41 i → bd 50 i := fun h => bmono h (by decide)
    have b3 : bd 2 3 := by unfold bd; decide
    obtain ⟨l5, P5, e5⟩ := e_ref l4 P4 (L a b) (Lgd hb (bmono ba (by decide)) (bmono bb (by decide)))
    exact ⟨l0, l1, l2, l3, l4, l5, a, b, c, d, P5, e0, e1, e2, e3, e4, e_pair a b c d hb hd (m ba) (m bb) (m bc) (m bdd), e_pair c d a b hd hb (m bc) (m bdd) (m ba) (m bb),
      mulB_ok (bmono ba (by decide)) (bmono b3 (by decide)), mulB_ok (bmono bb (by decide)) (bmono b3 (by decide)),
      e_pair a b (a * 3) (b * 3) hb (by omega) (m ba) (m bb) (bmono (bmul ba b3) (by decide)) (bmono (bmul bb b3) (by decide)), e_pair a b 0 d hb hd (m ba) (m bb) (by unfold bd; decide) (m bdd),
      e_least a b hb (bmono ba (by decide)) (bmono bb (by decide)), e5⟩
  obtain ⟨l0, l1, l2, l3, l4, l5, a, b, c, d, P5, e0, e1, e2, e3, e4, e5, e6, e7, e8, e9, e10, e11, e12⟩ := all 0 (by decide)
  obtain ⟨k0, k1, k2, k3, k4, k5, a', b', c', d', Q5, f0, f1, f2, f3, f4, f5, f6, f7, f8, f9, f10, f11, f12⟩ := all 1 (by decide)
  have rg : rngOf [.int 2] = some [.int 0, .int 1] := rfl
  refine ⟨none, ?_⟩
  generalize tp (L a b) = v1 at *
  generalize tp (L a' b') = v2 at *
  generalize hs : PyData.list (ns.map PyData.int) = sc at *
  unfold d_law b_law
  have z0 : ((0 : Nat) : Int) = 0 := rfl
  have z1 : ((1 : Nat) : Int) = 1 := rfl
  rw [z0] at e0
  rw [z1] at f0
  simp [fnD, sSeq, SR.then, sSet, sRet, sIf, sPar, sExpr, sAsg, sNext, sFor, forGo, tOf, tNo, tAn, tOr', eIf, eOp2, eOp1, eOpN, eV, eC, eAnd, eOr, eNot, bE, eCh, aCons, aNil, aConsE, aNilE, eTup, eLst, eCall, eCall0, eCallK, eCallIo, frE, frIo, eIsi, Res.bind, Res.bindS, Res.noex, rd, rdAll, put, esc, DL.settle, stor, noIo, okB, okA, outOf, outB, small, lstOf, put', tgT, tgAll, tgI, tgN, Tg.put, Tg.putAll, ixN, noIoAll, noIoB, setAll, itR, itE, f_add, f_sub, f_subb, f_mul, f_div, f_mod, f_pow, f_lt, f_le, f_gt, f_ge, fNeg, fGcd, fIs, fIsNot, rg, e0, e1, e2, e3, e4, e5, e6, e7, e8, e9, e10, e11, e12, f0, f1, f2, f3, f4, f5, f6, f7, f8, f9, f10, f11, f12]
end K10
/-! ## K10_end.lean -/
open PySem PySem.W PyProof.Rows
set_option maxRecDepth 100000 in
set_option maxHeartbeats 0 in
theorem PySem.Challenge.cw_whichpaces_k10_ratios_reckoned_holds : PySem.Challenge.rw_whichpaces_k10_ratios_reckoned.Holds := by
  w_on; o_law; k_head; (case hw => w_witness2)
  k_fill
  refine DL.walkG (l := PySem.Challenge.rw_whichpaces_k10_ratios_reckoned) (n := 63) (k := 10) (x := "script") (sp := fun K mg => DL.spD K mg K10.d_law) rfl (by decide) rfl ⟨⟨rfl, by decide, by decide⟩, rfl⟩ (fun w h Y => PySem.W.kIn_of Y) ?F (fun K mg H a ns hl hS => ?S)
  case S => exact DL.law_end hS (K10.law_true ns hl) fun _ => rfl
  case F =>
    intro w mg fa h KX G hmg
    refine' K10.all_mk KX G hmg (M := K10.gs_mk KX G ?a_PaceError ?a_StateError ?a_InvalidInteger ?a_InvalidRatio ?a_DividedByNought ?n_abs ?n_bool ?n_divmod ?n_int ?n_isinstance ?n_len ?n_max ?n_range ?n_repr ?n_sum ?n_tuple ?m_gcd ?x_InvalidInteger ?sa_InvalidInteger ?nv_InvalidInteger ?in_InvalidInteger ?x_InvalidRatio ?sa_InvalidRatio ?nv_InvalidRatio ?in_InvalidRatio ?ga_InvalidInteger ?gg_InvalidInteger ?k_InvalidInteger ?e_InvalidInteger ?t_InvalidInteger ?hd_InvalidInteger ?ga_InvalidRatio ?gg_InvalidRatio ?k_InvalidRatio ?e_InvalidRatio ?t_InvalidRatio ?hd_InvalidRatio ?ga_DividedByNought ?gg_DividedByNought ?k_DividedByNought ?e_DividedByNought ?t_DividedByNought ?hd_DividedByNought ?tI ?lI ?cI ?lT ?xi_DividedByNought ?ic_InvalidRatio ?ha_InvalidRatio ?hm_InvalidRatio ?ic_InvalidInteger ?ha_InvalidInteger ?hm_InvalidInteger ?ic_DividedByNought ?ha_DividedByNought ?hm_DividedByNought ?hn ?ht ?i_InvalidRatio_PaceError ?i_InvalidInteger_PaceError ?i_DividedByNought_StateError ?s_InvalidInteger_InvalidRatio ?s_InvalidRatio_InvalidRatio ?s_DividedByNought_InvalidRatio ?s_InvalidInteger_InvalidInteger ?s_InvalidRatio_InvalidInteger ?s_DividedByNought_InvalidInteger ?s_InvalidInteger_DividedByNought ?s_InvalidRatio_DividedByNought ?s_DividedByNought_DividedByNought) (R__law_pot := K10.rf_mk KX G ?ra__law_pot ?rl__law_pot ?rc__law_pot ?rk__law_pot fun _ _ _ _ _ _ us hl => match us, hl with | [_, _], _ => rfl) (R__law_draw := K10.rf_mk KX G ?ra__law_draw ?rl__law_draw ?rc__law_draw ?rk__law_draw fun _ _ _ _ _ _ us hl => match us, hl with | [_, _], _ => rfl) (R__law_whole := K10.rf_mk KX G ?ra__law_whole ?rl__law_whole ?rc__law_whole ?rk__law_whole fun _ _ _ _ _ _ us hl => match us, hl with | [_], _ => rfl) (R__law_under := K10.rf_mk KX G ?ra__law_under ?rl__law_under ?rc__law_under ?rk__law_under fun _ _ _ _ _ _ us hl => match us, hl with | [_], _ => rfl) (R__law_least := K10.rf_mk KX G ?ra__law_least ?rl__law_least ?rc__law_least ?rk__law_least fun _ _ _ _ _ _ us hl => match us, hl with | [_, _], _ => rfl) (R__law_is := K10.rf_mk KX G ?ra__law_is ?rl__law_is ?rc__law_is ?rk__law_is fun _ _ _ _ _ _ us hl => match us, hl with | [_, _], _ => rfl) (R_is_integer := K10.rf_mk KX G ?ra_is_integer ?rl_is_integer ?rc_is_integer ?rk_is_integer fun _ _ _ _ _ _ us hl => match us, hl with | [_], _ => rfl) (R_want_integer := K10.rf_mk KX G ?ra_want_integer ?rl_want_integer ?rc_want_integer ?rk_want_integer fun _ _ _ _ _ _ us hl => match us, hl with | [_], _ => rfl) (R_bare_ratio := K10.rf_mk KX G ?ra_bare_ratio ?rl_bare_ratio ?rc_bare_ratio ?rk_bare_ratio fun _ _ _ _ _ _ us hl => match us, hl with | [_, _], _ => rfl) (R_ratio_made := K10.rf_mk KX G ?ra_ratio_made ?rl_ratio_made ?rc_ratio_made ?rk_ratio_made fun _ _ _ _ _ _ us hl => match us, hl with | [_, _], _ => rfl) (R_is_ratio := K10.rf_mk KX G ?ra_is_ratio ?rl_is_ratio ?rc_is_ratio ?rk_is_ratio fun _ _ _ _ _ _ us hl => match us, hl with | [_], _ => rfl) (R_plus_of := K10.rf_mk KX G ?ra_plus_of ?rl_plus_of ?rc_plus_of ?rk_plus_of fun _ _ _ _ _ _ us hl => match us, hl with | [_, _], _ => rfl) (R_want_ratio := K10.rf_mk KX G ?ra_want_ratio ?rl_want_ratio ?rc_want_ratio ?rk_want_ratio fun _ _ _ _ _ _ us hl => match us, hl with | [_], _ => rfl) (R_ratio_plus := K10.rf_mk KX G ?ra_ratio_plus ?rl_ratio_plus ?rc_ratio_plus ?rk_ratio_plus fun _ _ _ _ _ _ us hl => match us, hl with | [_, _], _ => rfl) (R_minus_of := K10.rf_mk KX G ?ra_minus_of ?rl_minus_of ?rc_minus_of ?rk_minus_of fun _ _ _ _ _ _ us hl => match us, hl with | [_, _], _ => rfl) (R_ratio_minus := K10.rf_mk KX G ?ra_ratio_minus ?rl_ratio_minus ?rc_ratio_minus ?rk_ratio_minus fun _ _ _ _ _ _ us hl => match us, hl with | [_, _], _ => rfl) (R_times_of := K10.rf_mk KX G ?ra_times_of ?rl_times_of ?rc_times_of ?rk_times_of fun _ _ _ _ _ _ us hl => match us, hl with | [_, _], _ => rfl) (R_ratio_times := K10.rf_mk KX G ?ra_ratio_times ?rl_ratio_times ?rc_ratio_times ?rk_ratio_times fun _ _ _ _ _ _ us hl => match us, hl with | [_, _], _ => rfl) (R_over_of := K10.rf_mk KX G ?ra_over_of ?rl_over_of ?rc_over_of ?rk_over_of fun _ _ _ _ _ _ us hl => match us, hl with | [_, _], _ => rfl) (R_ratio_over := K10.rf_mk KX G ?ra_ratio_over ?rl_ratio_over ?rc_ratio_over ?rk_ratio_over fun _ _ _ _ _ _ us hl => match us, hl with | [_, _], _ => rfl) (R_compared_of := K10.rf_mk KX G ?ra_compared_of ?rl_compared_of ?rc_compared_of ?rk_compared_of fun _ _ _ _ _ _ us hl => match us, hl with | [_, _], _ => rfl) (R_ratio_compared := K10.rf_mk KX G ?ra_ratio_compared ?rl_ratio_compared ?rc_ratio_compared ?rk_ratio_compared fun _ _ _ _ _ _ us hl => match us, hl with | [_, _], _ => rfl) (R_floor_of := K10.rf_mk KX G ?ra_floor_of ?rl_floor_of ?rc_floor_of ?rk_floor_of fun _ _ _ _ _ _ us hl => match us, hl with | [_], _ => rfl) (R_ratio_floor := K10.rf_mk KX G ?ra_ratio_floor ?rl_ratio_floor ?rc_ratio_floor ?rk_ratio_floor fun _ _ _ _ _ _ us hl => match us, hl with | [_], _ => rfl) (R__law_told := K10.rf_mk KX G ?ra__law_told ?rl__law_told ?rc__law_told ?rk__law_told fun _ _ _ _ _ _ us hl => match us, hl with | [_, _, _], _ => rfl) (R__law_raised := K10.rf_mk KX G ?ra__law_raised ?rl__law_raised ?rc__law_raised ?rk__law_raised fun _ _ _ _ _ _ us hl => match us, hl with | [_, _, _], _ => rfl) (R__law_pair_right := K10.rf_mk KX G ?ra__law_pair_right ?rl__law_pair_right ?rc__law_pair_right ?rk__law_pair_right fun _ _ _ _ _ _ us hl => match us, hl with | [_, _, _, _], _ => rfl) (R__law_odd := K10.rf_mk KX G ?ra__law_odd ?rl__law_odd ?rc__law_odd ?rk__law_odd fun _ _ _ _ _ _ us hl => match us, hl with | [], _ => rfl) (R__law_refusals_right := K10.rf_mk KX G ?ra__law_refusals_right ?rl__law_refusals_right ?rc__law_refusals_right ?rk__law_refusals_right fun _ _ _ _ _ _ us hl => match us, hl with | [_, _], _ => rfl) (R_law := K10.rf_mk KX G ?ra_law ?rl_law ?rc_law ?rk_law fun _ _ _ _ _ _ us hl => match us, hl with | [_], _ => rfl)
    (case a_PaceError => first | k_is | k_exc | rfl)
    (case a_StateError => first | k_is | k_exc | rfl)
    (case a_InvalidInteger => first | k_is | k_exc | rfl)
    (case a_InvalidRatio => first | k_is | k_exc | rfl)
    (case a_DividedByNought => first | k_is | k_exc | rfl)
    (case n_abs => first | k_is | k_exc | rfl)
    (case n_bool => first | k_is | k_exc | rfl)
    (case n_divmod => first | k_is | k_exc | rfl)
    (case n_int => first | k_is | k_exc | rfl)
    (case n_isinstance => first | k_is | k_exc | rfl)
    (case n_len => first | k_is | k_exc | rfl)
    (case n_max => first | k_is | k_exc | rfl)
    (case n_range => first | k_is | k_exc | rfl)
    (case n_repr => first | k_is | k_exc | rfl)
    (case n_sum => first | k_is | k_exc | rfl)
    (case n_tuple => first | k_is | k_exc | rfl)
    (case m_gcd => first | k_is | k_exc | rfl)
    (case x_InvalidInteger => first | k_is | k_exc | rfl)
    (case sa_InvalidInteger => first | k_is | k_exc | rfl)
    (case nv_InvalidInteger => first | k_is | k_exc | rfl)
    (case in_InvalidInteger => first | k_is | k_exc | rfl)
    (case x_InvalidRatio => first | k_is | k_exc | rfl)
    (case sa_InvalidRatio => first | k_is | k_exc | rfl)
    (case nv_InvalidRatio => first | k_is | k_exc | rfl)
    (case in_InvalidRatio => first | k_is | k_exc | rfl)
    (case ga_InvalidInteger => first | k_is | k_exc | rfl)
    (case gg_InvalidInteger => first | k_is | k_exc | rfl)
    (case k_InvalidInteger => first | k_is | k_exc | rfl)
    (case e_InvalidInteger => first | k_is | k_exc | rfl)
    (case t_InvalidInteger => first | k_is | k_exc | rfl)
    (case hd_InvalidInteger => first | k_is | k_exc | rfl)
    (case ga_InvalidRatio => first | k_is | k_exc | rfl)
    (case gg_InvalidRatio => first | k_is | k_exc | rfl)
    (case k_InvalidRatio => first | k_is | k_exc | rfl)
    (case e_InvalidRatio => first | k_is | k_exc | rfl)
    (case t_InvalidRatio => first | k_is | k_exc | rfl)
    (case hd_InvalidRatio => first | k_is | k_exc | rfl)
    (case ga_DividedByNought => first | k_is | k_exc | rfl)
    (case gg_DividedByNought => first | k_is | k_exc | rfl)
    (case k_DividedByNought => first | k_is | k_exc | rfl)
    (case e_DividedByNought => first | k_is | k_exc | rfl)
    (case t_DividedByNought => first | k_is | k_exc | rfl)
    (case hd_DividedByNought => first | k_is | k_exc | rfl)
    (case tI => first | k_is | k_exc | rfl)
    (case lI => first | k_is | k_exc | rfl)
    (case cI => first | k_is | k_exc | rfl)
    (case lT => first | k_is | k_exc | rfl)
    (case xi_DividedByNought => first | k_is | k_exc | rfl)
    (case ic_InvalidRatio => first | k_is | k_exc | rfl)
    (case ha_InvalidRatio => first | k_is | k_exc | rfl)
    (case hm_InvalidRatio => first | k_is | k_exc | rfl)
    (case ic_InvalidInteger => first | k_is | k_exc | rfl)
    (case ha_InvalidInteger => first | k_is | k_exc | rfl)
    (case hm_InvalidInteger => first | k_is | k_exc | rfl)
    (case ic_DividedByNought => first | k_is | k_exc | rfl)
    (case ha_DividedByNought => first | k_is | k_exc | rfl)
    (case hm_DividedByNought => first | k_is | k_exc | rfl)
    (case hn => first | k_is | k_exc | rfl)
    (case ht => first | k_is | k_exc | rfl)
    (case i_InvalidRatio_PaceError => first | k_is | k_exc | rfl)
    (case i_InvalidInteger_PaceError => first | k_is | k_exc | rfl)
    (case i_DividedByNought_StateError => first | k_is | k_exc | rfl)
    (case s_InvalidInteger_InvalidRatio => first | k_is | k_exc | rfl)
    (case s_InvalidRatio_InvalidRatio => first | k_is | k_exc | rfl)
    (case s_DividedByNought_InvalidRatio => first | k_is | k_exc | rfl)
    (case s_InvalidInteger_InvalidInteger => first | k_is | k_exc | rfl)
    (case s_InvalidRatio_InvalidInteger => first | k_is | k_exc | rfl)
    (case s_DividedByNought_InvalidInteger => first | k_is | k_exc | rfl)
    (case s_InvalidInteger_DividedByNought => first | k_is | k_exc | rfl)
    (case s_InvalidRatio_DividedByNought => first | k_is | k_exc | rfl)
    (case s_DividedByNought_DividedByNought => first | k_is | k_exc | rfl)
    (case ra__law_pot => k_is); (case rl__law_pot => k_is); (case rc__law_pot => k_is); (case rk__law_pot => k_is)
    (case ra__law_draw => k_is); (case rl__law_draw => k_is); (case rc__law_draw => k_is); (case rk__law_draw => k_is)
    (case ra__law_whole => k_is); (case rl__law_whole => k_is); (case rc__law_whole => k_is); (case rk__law_whole => k_is)
    (case ra__law_under => k_is); (case rl__law_under => k_is); (case rc__law_under => k_is); (case rk__law_under => k_is)
    (case ra__law_least => k_is); (case rl__law_least => k_is); (case rc__law_least => k_is); (case rk__law_least => k_is)
    (case ra__law_is => k_is); (case rl__law_is => k_is); (case rc__law_is => k_is); (case rk__law_is => k_is)
    (case ra_is_integer => k_is); (case rl_is_integer => k_is); (case rc_is_integer => k_is); (case rk_is_integer => k_is)
    (case ra_want_integer => k_is); (case rl_want_integer => k_is); (case rc_want_integer => k_is); (case rk_want_integer => k_is)
    (case ra_bare_ratio => k_is); (case rl_bare_ratio => k_is); (case rc_bare_ratio => k_is); (case rk_bare_ratio => k_is)
    (case ra_ratio_made => k_is); (case rl_ratio_made => k_is); (case rc_ratio_made => k_is); (case rk_ratio_made => k_is)
    (case ra_is_ratio => k_is); (case rl_is_ratio => k_is); (case rc_is_ratio => k_is); (case rk_is_ratio => k_is)
    (case ra_plus_of => k_is); (case rl_plus_of => k_is); (case rc_plus_of => k_is); (case rk_plus_of => k_is)
    (case ra_want_ratio => k_is); (case rl_want_ratio => k_is); (case rc_want_ratio => k_is); (case rk_want_ratio => k_is)
    (case ra_ratio_plus => k_is); (case rl_ratio_plus => k_is); (case rc_ratio_plus => k_is); (case rk_ratio_plus => k_is)
    (case ra_minus_of => k_is); (case rl_minus_of => k_is); (case rc_minus_of => k_is); (case rk_minus_of => k_is)
    (case ra_ratio_minus => k_is); (case rl_ratio_minus => k_is); (case rc_ratio_minus => k_is); (case rk_ratio_minus => k_is)
    (case ra_times_of => k_is); (case rl_times_of => k_is); (case rc_times_of => k_is); (case rk_times_of => k_is)
    (case ra_ratio_times => k_is); (case rl_ratio_times => k_is); (case rc_ratio_times => k_is); (case rk_ratio_times => k_is)
    (case ra_over_of => k_is); (case rl_over_of => k_is); (case rc_over_of => k_is); (case rk_over_of => k_is)
    (case ra_ratio_over => k_is); (case rl_ratio_over => k_is); (case rc_ratio_over => k_is); (case rk_ratio_over => k_is)
    (case ra_compared_of => k_is); (case rl_compared_of => k_is); (case rc_compared_of => k_is); (case rk_compared_of => k_is)
    (case ra_ratio_compared => k_is); (case rl_ratio_compared => k_is); (case rc_ratio_compared => k_is); (case rk_ratio_compared => k_is)
    (case ra_floor_of => k_is); (case rl_floor_of => k_is); (case rc_floor_of => k_is); (case rk_floor_of => k_is)
    (case ra_ratio_floor => k_is); (case rl_ratio_floor => k_is); (case rc_ratio_floor => k_is); (case rk_ratio_floor => k_is)
    (case ra__law_told => k_is); (case rl__law_told => k_is); (case rc__law_told => k_is); (case rk__law_told => k_is)
    (case ra__law_raised => k_is); (case rl__law_raised => k_is); (case rc__law_raised => k_is); (case rk__law_raised => k_is)
    (case ra__law_pair_right => k_is); (case rl__law_pair_right => k_is); (case rc__law_pair_right => k_is); (case rk__law_pair_right => k_is)
    (case ra__law_odd => k_is); (case rl__law_odd => k_is); (case rc__law_odd => k_is); (case rk__law_odd => k_is)
    (case ra__law_refusals_right => k_is); (case rl__law_refusals_right => k_is); (case rc__law_refusals_right => k_is); (case rk__law_refusals_right => k_is)
    (case ra_law => k_is); (case rl_law => k_is); (case rc_law => k_is); (case rk_law => k_is)
