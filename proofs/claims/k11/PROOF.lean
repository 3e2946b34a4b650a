import PyProof.Rows.All
import PySem.Challenge.RW_whichpaces_k11_polynomials_reckoned
import Wide.All
import OpenK.AllK
import Wide.FinOn
import PyProof.EqAt
import PyProof.EqKinds
import PyProof.TupleCall
import HandS.ForMost
import HandS.Exc
import HandS.TryOnly
import HandS.ExcOwn
import HandS.WordsExc
import HandS.Style
import HandS.TupAny
import HandS.Zip
import HandS.Rev
import HandS.Defaults
import HandS.Wide
import HandS.WideBits
import HandS.Gcd
import HandS.IsInst
import HandS.RaiseMore
import HandS.TupLe
import HandS.TryMany
import HandS.ExcField
import KE.KExcIs
import KE.GoesEnum
import HandS.TupMul
import HandS.ExcInit
import KE.KExcInit
import PyProof.ReprLen
/-! ## DLa.lean -/
set_option Elab.async false
set_option linter.all false
set_option maxRecDepth 100000
set_option maxHeartbeats 4000000
namespace DL
open PySem L2

/-- plain data -/
abbrev D := PyData
/-- what a slot holds: nothing known, the frame's one further value, frozen data, an own list, the caller's list (lent, may be changed) -/
inductive B where
  | un
  | ob
  | im (d : D)
  | mu (l : List D)
  | io (l : List D)
/-- an operand: a value, or the object that stands in a slot -/
inductive W where
  | v (b : B)
  | s (i : Nat)
abbrev Gm := List B
abbrev Exn := Str × List (Str × D)
inductive Res (α : Type) where
  | ok (a : α) (g : Gm)
  | ex (e : Exn) (g : Gm)
  | no
def Res.bind {α β : Type} (r : Res α) (k : α → Gm → Res β) : Res β := match r with
  | .ok a g => k a g
  | .ex e g => .ex e g
  | .no => .no
/-- a statement's end -/
inductive SR where
  | nx (g : Gm)
  | rt (b : B) (g : Gm)
  | bk (g : Gm)
  | ct (g : Gm)
  | ex (e : Exn) (g : Gm)
  | no
/-- a def's end -/
inductive FR where
  | ok (b : B) (o : Option (List D))
  | ex (e : Exn) (o : Option (List D))
  | no

/-! ### data in a heap -/
section
variable {K : PySem.W.Frag} {H H' Hf Hf' : Hp}
mutual
theorem dp_mono (e : Same H H') : ∀ (d : D) (v : V), Dp K H v d → Dp K H' v d
  | .none, _, h => by cases h; exact .non
  | .bool b, _, h => by cases h; exact .bl b
  | .int i, _, h => by cases h; exact .int i
  | .str x, _, h => by cases h; exact .str x
  | .list ds, _, h => by
    cases h with
    | lst hs ha => exact .lst (e.seq hs) (dpa_mono e ds _ ha)
  | .tuple ds, _, h => by
    cases h with
    | tup hs ha => exact .tup (by
        rcases hs with (h | ⟨o, h⟩) | h
        · exact .inl (.inl (e _ _ h))
        · exact .inl (.inr ⟨o, e _ _ h⟩)
        · exact .inr h) (dpa_mono e ds _ ha)
  | .dict _, _, h => by cases h
theorem dpa_mono (e : Same H H') : ∀ (ds : List D) (vs : List V), DpAll K H vs ds → DpAll K H' vs ds
  | [], _, h => by cases h; exact .nil
  | d :: ds, _, h => by
    cases h with
    | cons h1 h2 => exact .cons (dp_mono e d _ h1) (dpa_mono e ds _ h2)
end
theorem dpa_len : ∀ {ds : List D} {vs : List V}, DpAll K H vs ds → vs.length = ds.length
  | [], _, h => by cases h; rfl
  | d :: ds, _, h => by
    cases h with
    | cons h1 h2 => simp [dpa_len h2]
theorem dpa_get : ∀ {ds : List D} {vs : List V} {i : Nat} {d : D}, DpAll K H vs ds → ds[i]? = some d → ∃ v, vs[i]? = some v ∧ Dp K H v d
  | [], _, i, d, h, e => by simp at e
  | x :: ds, _, 0, d, h, e => by
    cases h with
    | cons h1 h2 => simp at e; subst e; exact ⟨_, rfl, h1⟩
  | x :: ds, _, i + 1, d, h, e => by
    cases h with
    | cons h1 h2 =>
      obtain ⟨v, h3, h4⟩ := dpa_get (i := i) h2 (by simpa using e)
      exact ⟨v, by simpa using h3, h4⟩
theorem dpa_get' : ∀ {ds : List D} {vs : List V} {i : Nat} {v : V}, DpAll K H vs ds → vs[i]? = some v → ∃ d, ds[i]? = some d ∧ Dp K H v d
  | [], _, i, v, h, e => by cases h; simp at e
  | x :: ds, _, 0, v, h, e => by
    cases h with
    | cons h1 h2 => simp at e; subst e; exact ⟨_, rfl, h1⟩
  | x :: ds, _, i + 1, v, h, e => by
    cases h with
    | cons h1 h2 =>
      obtain ⟨d, h3, h4⟩ := dpa_get' (i := i) h2 (by simpa using e)
      exact ⟨d, by simpa using h3, h4⟩
theorem dpa_append : ∀ {ds es : List D} {vs ws : List V}, DpAll K H vs ds → DpAll K H ws es → DpAll K H (vs ++ ws) (ds ++ es)
  | [], _, _, _, h, k => by cases h; exact k
  | d :: ds, _, _, _, h, k => by
    cases h with
    | cons h1 h2 => exact .cons h1 (dpa_append h2 k)
theorem dpa_take : ∀ (n : Nat) {ds : List D} {vs : List V}, DpAll K H vs ds → DpAll K H (vs.take n) (ds.take n)
  | 0, _, _, _ => by simp; exact .nil
  | n + 1, [], _, h => by cases h; simp; exact .nil
  | n + 1, d :: ds, _, h => by
    cases h with
    | cons h1 h2 => exact .cons h1 (dpa_take n h2)
theorem dpa_drop : ∀ (n : Nat) {ds : List D} {vs : List V}, DpAll K H vs ds → DpAll K H (vs.drop n) (ds.drop n)
  | 0, _, _, h => h
  | n + 1, [], _, h => by cases h; simp; exact .nil
  | n + 1, d :: ds, _, h => by
    cases h with
    | cons h1 h2 => exact dpa_drop n h2
theorem dpa_set : ∀ {ds : List D} {vs : List V} (i : Nat) {d : D} {v : V}, DpAll K H vs ds → Dp K H v d → DpAll K H (vs.set i v) (ds.set i d)
  | [], _, i, _, _, h, _ => by cases h; simp; exact .nil
  | x :: ds, _, 0, _, _, h, k => by
    cases h with
    | cons h1 h2 => exact .cons k h2
  | x :: ds, _, i + 1, _, _, h, k => by
    cases h with
    | cons h1 h2 => exact .cons h1 (dpa_set i h2 k)
theorem dpa_rev {ds : List D} {vs : List V} (h : DpAll K H vs ds) : DpAll K H vs.reverse ds.reverse := by
  induction ds generalizing vs with
  | nil => cases h; exact .nil
  | cons d ds ih =>
    cases h with
    | cons h1 h2 =>
      rw [List.reverse_cons, List.reverse_cons]
      exact dpa_append (ih h2) (.cons h1 .nil)
theorem dpa_ints : ∀ {vs : List V} {ns : List Int}, DpAll K H vs (ns.map PyData.int) → vs = ns.map V.int
  | _, [], h => by cases h; rfl
  | _, n :: ns, h => by
    cases h with
    | cons h1 h2 => cases h1; rw [dpa_ints h2]; rfl
theorem dpa_of_ints : ∀ (ns : List Int), DpAll K H (ns.map V.int) (ns.map PyData.int)
  | [] => .nil
  | n :: ns => .cons (.int n) (dpa_of_ints ns)
end

/-! ### the roots -/
structure Zs where
  He : Hp
  Hf : Hp
  io : Option Addr
  ob : V
def RB (K : PySem.W.Frag) (Z : Zs) (H Hf : Hp) (v : Option V) : B → Prop
  | .un => True
  | .ob => v = some Z.ob
  | .im d => ∃ x, v = some x ∧ Dp K Hf x d
  | .mu l => ∃ a xs, v = some (.ref a) ∧ Z.He a = none ∧ Hf a = none ∧ H a = some (.lst xs) ∧ DpAll K Hf xs l
  | .io l => ∃ a xs, v = some (.ref a) ∧ Z.io = some a ∧ Hf a = none ∧ H a = some (.lst xs) ∧ DpAll K Hf xs l
abbrev Rt := Option V × B
def ow (a : Addr) : Rt → Nat
  | (some (.ref b), .mu _) => if b = a then 1 else 0
  | (some (.ref b), .io _) => if b = a then 1 else 0
  | _ => 0
def cnt (a : Addr) : List Rt → Nat
  | [] => 0
  | p :: r => ow a p + cnt a r
theorem cnt_append (a : Addr) : ∀ r s : List Rt, cnt a (r ++ s) = cnt a r + cnt a s
  | [], s => by simp [cnt]
  | p :: r, s => by
    show ow a p + cnt a (r ++ s) = ow a p + cnt a r + cnt a s
    rw [cnt_append a r s]; omega
theorem cnt_mem {a : Addr} : ∀ {r : List Rt} {p : Rt}, p ∈ r → ow a p ≤ cnt a r
  | q :: r, p, h => by
    rcases List.mem_cons.mp h with rfl | h
    · exact Nat.le_add_right _ _
    · exact Nat.le_trans (cnt_mem h) (Nat.le_add_left _ _)
theorem cnt_set {a : Addr} : ∀ {r : List Rt} {i : Nat} {p q : Rt}, r[i]? = some p → cnt a (r.set i q) + ow a p = cnt a r + ow a q
  | [], i, p, q, h => by simp at h
  | x :: r, 0, p, q, h => by
    simp at h; subst h
    show ow a q + cnt a r + ow a x = ow a x + cnt a r + ow a q
    omega
  | x :: r, i + 1, p, q, h => by
    have := cnt_set (a := a) (r := r) (i := i) (p := p) (q := q) (by simpa using h)
    show ow a x + cnt a (r.set i q) + ow a p = ow a x + cnt a r + ow a q
    omega
theorem zip_set {α β : Type} : ∀ (l : List α) (m : List β) (i : Nat) (x : α) (y : β), (l.set i x).zip (m.set i y) = (l.zip m).set i (x, y)
  | [], _, _, _, _ => by simp
  | _ :: _, [], _, _, _ => by simp
  | a :: l, b :: m, 0, x, y => rfl
  | a :: l, b :: m, i + 1, x, y => by
    show (a, b) :: (l.set i x).zip (m.set i y) = (a, b) :: (l.zip m).set i (x, y)
    rw [zip_set l m i x y]
theorem zip_set_r {α β : Type} : ∀ (l : List α) (m : List β) (i : Nat) (x : α) (y : β), l[i]? = some x → l.zip (m.set i y) = (l.zip m).set i (x, y)
  | [], _, _, _, _, h => by simp at h
  | a :: l, [], i, _, _, _ => by simp
  | a :: l, b :: m, 0, x, y, h => by simp at h; subst h; rfl
  | a :: l, b :: m, i + 1, x, y, h => by
    show (a, b) :: l.zip (m.set i y) = (a, b) :: (l.zip m).set i (x, y)
    rw [zip_set_r l m i x y (by simpa using h)]
theorem zip_get {α β : Type} : ∀ {l : List α} {m : List β} {i : Nat} {x : α} {y : β}, l[i]? = some x → m[i]? = some y → (l.zip m)[i]? = some (x, y)
  | [], _, _, _, _, h, _ => by simp at h
  | a :: l, [], i, _, _, _, h => by simp at h
  | a :: l, b :: m, 0, x, y, h, k => by simp at h k; subst h; subst k; rfl
  | a :: l, b :: m, i + 1, x, y, h, k => by
    have := zip_get (l := l) (m := m) (i := i) (x := x) (y := y) (by simpa using h) (by simpa using k)
    simpa using this
def root : V × W → Rt
  | (x, .v b) => (some x, b)
  | (x, .s _) => (some x, .un)
def rts (σ : L2.St) (g : Gm) (ps : List (V × W)) : List Rt := σ.zip g ++ ps.map root

/-- the state: slots σ hold g, operands that wait are ps; H the heap, Hf its frozen part -/
structure Stx (K : PySem.W.Frag) (Z : Zs) (g : Gm) (σ : L2.St) (ps : List (V × W)) (H Hf : Hp) : Prop where
  len : σ.length = g.length
  frz : Same Hf H
  out : ∀ b o, Z.He b = some o → Z.io ≠ some b → H b = some o
  old : Same Z.Hf Hf
  new : ∀ b o, Hf b = some o → Z.Hf b = some o ∨ Z.He b = none
  iol : ∀ a, Z.io = some a → ∃ o, H a = some o
  rel : ∀ p ∈ rts σ g ps, RB K Z H Hf p.1 p.2
  nod : ∀ a, cnt a (rts σ g ps) ≤ 1
  als : ∀ x i, (x, W.s i) ∈ ps → σ[i]? = some (some x)

section
variable {K : PySem.W.Frag} {Z : Zs} {g g' : Gm} {σ σ' : L2.St} {ps qs : List (V × W)} {H H' Hf Hf' : Hp}
theorem Stx.he (S : Stx K Z g σ ps H Hf) {p : Addr} (h : H p = none) : Z.He p = none := by
  cases e : Z.He p with
  | none => rfl
  | some o =>
    by_cases hi : Z.io = some p
    · obtain ⟨u, hu⟩ := S.iol p hi
      rw [h] at hu; cases hu
    · rw [S.out p o e hi] at h; cases h
theorem Stx.hf (S : Stx K Z g σ ps H Hf) {p : Addr} (h : H p = none) : Hf p = none := by
  cases e : Hf p with
  | none => rfl
  | some o => rw [S.frz p o e] at h; cases h
/-- an owned root's object -/
theorem ow_of {a : Addr} {p : Rt} (h : 0 < ow a p) : ∃ l, p = (some (.ref a), .mu l) ∨ p = (some (.ref a), .io l) := by
  obtain ⟨v, b⟩ := p
  cases b with
  | un => cases v with
    | none => simp [ow] at h
    | some v => cases v <;> simp [ow] at h
  | ob => cases v with
    | none => simp [ow] at h
    | some v => cases v <;> simp [ow] at h
  | im d => cases v with
    | none => simp [ow] at h
    | some v => cases v <;> simp [ow] at h
  | mu l => cases v with
    | none => simp [ow] at h
    | some v =>
      cases v with
      | ref b =>
        simp only [ow] at h
        split at h
        · rename_i e; subst e; exact ⟨l, .inl rfl⟩
        · omega
      | _ => simp [ow] at h
  | io l => cases v with
    | none => simp [ow] at h
    | some v =>
      cases v with
      | ref b =>
        simp only [ow] at h
        split at h
        · rename_i e; subst e; exact ⟨l, .inr rfl⟩
        · omega
      | _ => simp [ow] at h
theorem rb_ow {a : Addr} {p : Rt} (r : RB K Z H Hf p.1 p.2) (h : 0 < ow a p) : Hf a = none ∧ ∃ xs, H a = some (.lst xs) := by
  obtain ⟨l, e | e⟩ := ow_of h
  · subst e
    obtain ⟨a', xs, e1, _, e3, e4, _⟩ := r
    cases e1
    exact ⟨e3, xs, e4⟩
  · subst e
    obtain ⟨a', xs, e1, _, e3, e4, _⟩ := r
    cases e1
    exact ⟨e3, xs, e4⟩
theorem cnt_pos {a : Addr} : ∀ {r : List Rt}, 0 < cnt a r → ∃ p ∈ r, 0 < ow a p
  | [], h => by simp [cnt] at h
  | q :: r, h => by
    by_cases e : 0 < ow a q
    · exact ⟨q, List.mem_cons_self, e⟩
    · have h' : 0 < ow a q + cnt a r := h
      obtain ⟨p, hp, k⟩ := cnt_pos (a := a) (r := r) (by omega)
      exact ⟨p, List.mem_cons_of_mem _ hp, k⟩
theorem cnt_none (r : List Rt) {p : Addr} (rel : ∀ q ∈ r, RB K Z H Hf q.1 q.2) (h : H p = none) : cnt p r = 0 := by
  cases e : cnt p r with
  | zero => rfl
  | succ n =>
    obtain ⟨q, hq, k⟩ := cnt_pos (a := p) (r := r) (by omega)
    obtain ⟨_, xs, hx⟩ := rb_ow (rel q hq) k
    rw [h] at hx; cases hx
theorem Stx.cnt0 (S : Stx K Z g σ ps H Hf) {p : Addr} (h : H p = none) : cnt p (rts σ g ps) = 0 := cnt_none _ S.rel h
/-- a root is as good behind a step: frozen things stay, its own object is as it was -/
theorem rb_step {v : Option V} {b : B} (r : RB K Z H Hf v b) (hf : Same Hf Hf') (ho : ∀ a, 0 < ow a (v, b) → H' a = H a ∧ Hf' a = none) : RB K Z H' Hf' v b := by
  cases b with
  | un => trivial
  | ob => exact r
  | im d => obtain ⟨x, e, h⟩ := r; exact ⟨x, e, dp_mono hf d x h⟩
  | mu l =>
    obtain ⟨a, xs, e, h1, h2, h3, h4⟩ := r
    subst e
    obtain ⟨k1, k2⟩ := ho a (by simp [ow])
    exact ⟨a, xs, rfl, h1, k2, k1.trans h3, dpa_mono hf l xs h4⟩
  | io l =>
    obtain ⟨a, xs, e, h1, h2, h3, h4⟩ := r
    subst e
    obtain ⟨k1, k2⟩ := ho a (by simp [ow])
    exact ⟨a, xs, rfl, h1, k2, k1.trans h3, dpa_mono hf l xs h4⟩
/-- the heap grows -/
theorem Stx.step (S : Stx K Z g σ ps H Hf) (hh : Same H H') (hf : Same Hf Hf') (fh : Same Hf' H') (nw : ∀ b o, Hf' b = some o → Hf b = some o ∨ H b = none) : Stx K Z g σ ps H' Hf' where
  len := S.len
  frz := fh
  out := fun b o e hi => hh b o (S.out b o e hi)
  old := S.old.trans hf
  new := fun b o e => by
    rcases nw b o e with k | k
    · exact S.new b o k
    · exact .inr (S.he k)
  iol := fun a e => by
    obtain ⟨o, h⟩ := S.iol a e
    exact ⟨o, hh a o h⟩
  rel := fun p hp => rb_step (S.rel p hp) hf fun a ha => by
    obtain ⟨h1, xs, h2⟩ := rb_ow (S.rel p hp) ha
    refine ⟨(hh a _ h2).trans h2.symm, ?_⟩
    cases e : Hf' a with
    | none => rfl
    | some o =>
      rcases nw a o e with k | k
      · rw [h1] at k; cases k
      · rw [h2] at k; cases k
  nod := S.nod
  als := S.als
theorem rts_app (σ : L2.St) (g : Gm) (ps qs : List (V × W)) : rts σ g (ps ++ qs) = rts σ g ps ++ qs.map root := by
  unfold rts
  rw [List.map_append, List.append_assoc]
/-- operands are left -/
theorem Stx.drop (S : Stx K Z g σ (ps ++ qs) H Hf) : Stx K Z g σ ps H Hf where
  len := S.len
  frz := S.frz
  out := S.out
  old := S.old
  new := S.new
  iol := S.iol
  rel := fun p hp => S.rel p (by rw [rts_app]; exact List.mem_append_left _ hp)
  nod := fun a => by
    have := S.nod a
    rw [rts_app, cnt_append] at this
    omega
  als := fun x i h => S.als x i (List.mem_append_left _ h)
/-- a new operand -/
theorem Stx.push (S : Stx K Z g σ ps H Hf) {x : V} {b : B} (r : RB K Z H Hf (some x) b) (hc : ∀ a, cnt a (rts σ g ps) + ow a (some x, b) ≤ 1) : Stx K Z g σ (ps ++ [(x, .v b)]) H Hf where
  len := S.len
  frz := S.frz
  out := S.out
  old := S.old
  new := S.new
  iol := S.iol
  rel := fun p hp => by
    rw [rts_app] at hp
    rcases List.mem_append.mp hp with h | h
    · exact S.rel p h
    · simp [root] at h
      subst h
      exact r
  nod := fun a => by
    rw [rts_app, cnt_append]
    show _ + (ow a (root (x, .v b)) + 0) ≤ 1
    have := hc a
    show _ + (ow a (some x, b) + 0) ≤ 1
    omega
  als := fun y i h => by
    rcases List.mem_append.mp h with h | h
    · exact S.als y i h
    · simp at h
theorem ow_im {a : Addr} {v : Option V} {d : D} : ow a (v, .im d) = 0 := by
  cases v with
  | none => rfl
  | some v => cases v <;> rfl
theorem ow_ob {a : Addr} {v : Option V} : ow a (v, .ob) = 0 := by
  cases v with
  | none => rfl
  | some v => cases v <;> rfl
theorem ow_un {a : Addr} {v : Option V} : ow a (v, .un) = 0 := by
  cases v with
  | none => rfl
  | some v => cases v <;> rfl
theorem Stx.pushIm (S : Stx K Z g σ ps H Hf) {x : V} {d : D} (h : Dp K Hf x d) : Stx K Z g σ (ps ++ [(x, .v (.im d))]) H Hf :=
  S.push ⟨x, rfl, h⟩ fun a => by rw [ow_im]; exact S.nod a
theorem Stx.pushS (S : Stx K Z g σ ps H Hf) {x : V} {i : Nat} (h : σ[i]? = some (some x)) : Stx K Z g σ (ps ++ [(x, .s i)]) H Hf where
  len := S.len
  frz := S.frz
  out := S.out
  old := S.old
  new := S.new
  iol := S.iol
  rel := fun p hp => by
    rw [rts_app] at hp
    rcases List.mem_append.mp hp with h | h
    · exact S.rel p h
    · simp [root] at h
      subst h
      trivial
  nod := fun a => by
    rw [rts_app, cnt_append]
    show _ + (ow a (some x, .un) + 0) ≤ 1
    rw [ow_un]
    exact S.nod a
  als := fun y j k => by
    rcases List.mem_append.mp k with k | k
    · exact S.als y j k
    · simp at k
      obtain ⟨rfl, rfl⟩ := k
      exact h
/-- what a step makes: a value, frozen or a new own list -/
structure Grow (K : PySem.W.Frag) (H Hf H' Hf' : Hp) (x : V) (b : B) : Prop where
  hh : Same H H'
  hf : Same Hf Hf'
  fh : Same Hf' H'
  nw : ∀ b o, Hf' b = some o → Hf b = some o ∨ H b = none
  is : match b with
    | .im d => Dp K Hf' x d
    | .mu l => ∃ p xs, x = .ref p ∧ H p = none ∧ Hf' p = none ∧ H' p = some (.lst xs) ∧ DpAll K Hf' xs l
    | _ => False
theorem Stx.grow (S : Stx K Z g σ ps H Hf) {x : V} {b : B} (G : Grow K H Hf H' Hf' x b) : Stx K Z g σ (ps ++ [(x, .v b)]) H' Hf' := by
  have S' := S.step G.hh G.hf G.fh G.nw
  have h := G.is
  cases b with
  | un => exact h.elim
  | ob => exact h.elim
  | io l => exact h.elim
  | im d => exact S'.pushIm h
  | mu l =>
    obtain ⟨p, xs, rfl, h1, h2, h3, h4⟩ := h
    refine S'.push ⟨p, xs, rfl, S.he h1, h2, h3, h4⟩ fun a => ?_
    by_cases e : p = a
    · subst e
      rw [S.cnt0 h1]
      simp [ow]
    · have : ow a (some (V.ref p), B.mu l) = 0 := by simp [ow, e]
      rw [this]
      exact S.nod a
/-- nothing new -/
theorem Grow.same (f : Same Hf H) {x : V} {d : D} (h : Dp K Hf x d) : Grow K H Hf H Hf x (.im d) := ⟨Same.refl _, Same.refl _, f, fun _ _ e => .inl e, h⟩
theorem same_new {p : Addr} {o : HO} (h : H p = none) : Same H (upd H p o) := fun b u e => by
  rw [upd_ne (ne_of_none e h)]
  exact e
theorem same_upd2 {p : Addr} {o : HO} (f : Same Hf H) (h : H p = none) : Same (upd Hf p o) (upd H p o) := fun b u e => by
  by_cases hb : b = p
  · subst hb
    rw [upd_same] at e ⊢
    exact e
  · rw [upd_ne hb] at e ⊢
    exact f b u e
theorem hf_none (f : Same Hf H) {p : Addr} (h : H p = none) : Hf p = none := f.free h
/-- a new frozen object -/
theorem Grow.obj (f : Same Hf H) {p : Addr} {o : HO} (hp : H p = none) {x : V} {d : D} (h : Dp K (upd Hf p o) x d) : Grow K H Hf (upd H p o) (upd Hf p o) x (.im d) :=
  ⟨same_new hp, same_new (hf_none f hp), same_upd2 f hp, fun b u e => by
    by_cases hb : b = p
    · subst hb; exact .inr hp
    · rw [upd_ne hb] at e; exact .inl e, h⟩
theorem Grow.tup (f : Same Hf H) {p : Addr} {xs : List V} {l : List D} (hp : H p = none) (h : DpAll K Hf xs l) : Grow K H Hf (upd H p (.tup xs)) (upd Hf p (.tup xs)) (.ref p) (.im (.tuple l)) :=
  Grow.obj f hp (.tup (.inl (.inl upd_same)) (dpa_mono (same_new (hf_none f hp)) l xs h))
/-- a new own list -/
theorem Grow.lst (f : Same Hf H) {p : Addr} {xs : List V} {l : List D} (hp : H p = none) (h : DpAll K Hf xs l) : Grow K H Hf (upd H p (.lst xs)) Hf (.ref p) (.mu l) :=
  ⟨same_new hp, Same.refl _, fun b u e => same_new hp b u (f b u e), fun _ _ e => .inl e, p, xs, rfl, hp, hf_none f hp, upd_same, h⟩
end
end DL
/-! ## DLb.lean -/
set_option Elab.async false
set_option linter.all false
set_option maxRecDepth 100000
set_option maxHeartbeats 4000000
namespace DL
open PySem L2

/-! ### reading operands -/
def rd (g : Gm) : W → Option D
  | .v (.im d) => some d
  | .v (.mu l) => some (.list l)
  | .v _ => none
  | .s i => match g[i]? with
    | some (.im d) => some d
    | some (.mu l) => some (.list l)
    | some (.io l) => some (.list l)
    | _ => none
/-- x may be read as d: frozen, or a list of the frame's own -/
def Rdb (K : PySem.W.Frag) (H Hf : Hp) (x : V) (d : D) : Prop :=
  Dp K Hf x d ∨ ∃ a xs l, x = .ref a ∧ d = .list l ∧ H a = some (.lst xs) ∧ DpAll K Hf xs l
section
variable {K : PySem.W.Frag} {Z : Zs} {g g' : Gm} {σ σ' : L2.St} {ps qs : List (V × W)} {H H' Hf Hf' : Hp} {x : V} {d : D} {l : List D} {i : Nat}
theorem rb_rd {b : B} (r : RB K Z H Hf (some x) b) (h : rd [] (.v b) = some d) : Rdb K H Hf x d := by
  cases b with
  | un => simp [rd] at h
  | ob => simp [rd] at h
  | im e =>
    simp [rd] at h
    subst h
    obtain ⟨y, e1, e2⟩ := r
    cases e1
    exact .inl e2
  | mu l =>
    simp [rd] at h
    subst h
    obtain ⟨a, xs, e1, _, _, e3, e4⟩ := r
    cases e1
    exact .inr ⟨a, xs, l, rfl, rfl, e3, e4⟩
  | io l => simp [rd] at h
theorem Stx.root_mem (S : Stx K Z g σ ps H Hf) {w : W} (h : (x, w) ∈ ps) : root (x, w) ∈ rts σ g ps :=
  List.mem_append_right _ (List.mem_map.mpr ⟨_, h, rfl⟩)
theorem Stx.slot (S : Stx K Z g σ ps H Hf) {i : Nat} {b : B} {v : Option V} (h1 : σ[i]? = some v) (h2 : g[i]? = some b) : (v, b) ∈ rts σ g ps :=
  List.mem_append_left _ (List.mem_of_getElem? (zip_get h1 h2))
theorem Stx.rd (S : Stx K Z g σ ps H Hf) {w : W} (hm : (x, w) ∈ ps) (h : rd g w = some d) : Rdb K H Hf x d := by
  cases w with
  | v b => exact rb_rd (S.rel _ (S.root_mem hm)) (by cases b <;> exact h)
  | s i =>
    have hs := S.als x i hm
    simp only [DL.rd] at h
    cases e : g[i]? with
    | none => rw [e] at h; simp at h
    | some b =>
      rw [e] at h
      have r := S.rel _ (S.slot hs e)
      cases b with
      | un => simp at h
      | ob => simp at h
      | im d' =>
        simp at h; subst h
        obtain ⟨y, e1, e2⟩ := r
        cases e1
        exact .inl e2
      | mu l =>
        simp at h; subst h
        obtain ⟨a, xs, e1, _, _, e3, e4⟩ := r
        cases e1
        exact .inr ⟨a, xs, l, rfl, rfl, e3, e4⟩
      | io l =>
        simp at h; subst h
        obtain ⟨a, xs, e1, _, _, e3, e4⟩ := r
        cases e1
        exact .inr ⟨a, xs, l, rfl, rfl, e3, e4⟩

/-! ### freezing, storing -/
theorem sl_get {g : Gm} {σ : L2.St} (hl : σ.length = g.length) {i : Nat} {b : B} (h : g[i]? = some b) : ∃ v, σ[i]? = some v := by
  have : i < g.length := (List.getElem?_eq_some_iff.mp h).1
  exact ⟨_, List.getElem?_eq_getElem (by omega)⟩
theorem rts_setb (σ : L2.St) (g : Gm) (ps : List (V × W)) {i : Nat} {v : Option V} (b : B) (h : σ[i]? = some v) (hl : σ.length = g.length) : rts σ (g.set i b) ps = (rts σ g ps).set i (v, b) := by
  unfold rts
  rw [zip_set_r σ g i v b h, List.set_append_left]
  rw [List.length_zip]
  have : i < σ.length := (List.getElem?_eq_some_iff.mp h).1
  omega
theorem rts_get (ps : List (V × W)) {i : Nat} {v : Option V} {b : B} (h1 : σ[i]? = some v) (h2 : g[i]? = some b) : (rts σ g ps)[i]? = some (v, b) := by
  unfold rts
  have := zip_get h1 h2
  rw [List.getElem?_append_left (List.getElem?_eq_some_iff.mp this).1]
  exact this
theorem mem_set_or {α : Type} : ∀ {l : List α} {i : Nat} {x y : α}, y ∈ l.set i x → y = x ∨ ∃ j, j ≠ i ∧ l[j]? = some y
  | [], i, x, y, h => by simp at h
  | a :: l, 0, x, y, h => by
    rcases List.mem_cons.mp h with h | h
    · exact .inl h
    · obtain ⟨j, hj⟩ := List.mem_iff_getElem?.mp h
      exact .inr ⟨j + 1, by omega, by simpa using hj⟩
  | a :: l, i + 1, x, y, h => by
    rcases List.mem_cons.mp h with h | h
    · exact .inr ⟨0, by omega, by simp [h]⟩
    · rcases mem_set_or h with k | ⟨j, h1, h2⟩
      · exact .inl k
      · exact .inr ⟨j + 1, by omega, by simpa using h2⟩
/-- the slot i's binding becomes b (the value stays): what the heap may do then -/
theorem Stx.rebind (S : Stx K Z g σ ps H Hf) {i : Nat} {v : Option V} {b0 b : B} (h1 : σ[i]? = some v) (h2 : g[i]? = some b0)
    (hw : ∀ a, ow a (v, b) ≤ ow a (v, b0)) (r : RB K Z H' Hf' v b)
    (hh : ∀ c o, ow c (v, b0) = 0 → H c = some o → H' c = some o) (hf : Same Hf Hf') (fh : Same Hf' H')
    (nw : ∀ c o, Hf' c = some o → Hf c = some o ∨ Z.He c = none)
    (hn : ∀ c, ow c (v, b0) = 0 → Hf c = none → (∃ o, H c = some o) → Hf' c = none)
    (ho : ∀ c o, Z.He c = some o → Z.io ≠ some c → ow c (v, b0) = 0)
    (hi : ∀ c, Z.io = some c → ∃ o, H' c = some o) : Stx K Z (g.set i b) σ ps H' Hf' where
  len := by rw [List.length_set]; exact S.len
  frz := fh
  out := fun c o e k => hh c o (ho c o e k) (S.out c o e k)
  old := S.old.trans hf
  new := fun c o e => by
    rcases nw c o e with k | k
    · exact S.new c o k
    · exact .inr k
  iol := hi
  rel := fun p hp => by
    rw [rts_setb σ g ps b h1 S.len] at hp
    rcases mem_set_or hp with rfl | ⟨j, hj, hp⟩
    · exact r
    · have hm : p ∈ rts σ g ps := List.mem_of_getElem? hp
      refine rb_step (S.rel p hm) hf fun a ha => ?_
      have h0 : ow a (v, b0) = 0 := by
        have ha' : 0 < ow a p := ha
        have e1 : ((rts σ g ps).set i (v, .un))[j]? = some p := by rw [List.getElem?_set_ne (Ne.symm hj)]; exact hp
        have e2 := cnt_mem (a := a) (List.mem_of_getElem? e1)
        have e3 := cnt_set (a := a) (q := (v, B.un)) (rts_get ps h1 h2)
        rw [ow_un] at e3
        have := S.nod a
        omega
      obtain ⟨k1, xs, k2⟩ := rb_ow (S.rel p hm) ha
      exact ⟨(hh a _ h0 k2).trans k2.symm, hn a h0 k1 ⟨_, k2⟩⟩
  nod := fun a => by
    rw [rts_setb σ g ps b h1 S.len]
    have c1 := cnt_set (a := a) (q := (v, b)) (rts_get ps h1 h2)
    have := S.nod a
    have := hw a
    omega
  als := S.als
theorem ow_ref_mu (a c : Addr) (l : List D) : ow c (some (.ref a), .mu l) = if a = c then 1 else 0 := rfl
theorem ow_ref_io (a c : Addr) (l : List D) : ow c (some (.ref a), .io l) = if a = c then 1 else 0 := rfl
theorem ow_ne {a c : Addr} {l : List D} (h : ow c (some (.ref a), .mu l) = 0) : c ≠ a := by
  rintro rfl; simp [ow] at h
theorem ow_ne_io {a c : Addr} {l : List D} (h : ow c (some (.ref a), .io l) = 0) : c ≠ a := by
  rintro rfl; simp [ow] at h
theorem ow_of_ne {a c : Addr} {l : List D} (h : c ≠ a) : ow c (some (.ref a), .mu l) = 0 := by simp [ow, Ne.symm h]
/-- an own list in a slot is frozen -/
theorem Stx.freeze (S : Stx K Z g σ ps H Hf) {i : Nat} {l : List D} (h : g[i]? = some (.mu l)) : ∃ Hf', Same Hf Hf' ∧ Stx K Z (g.set i (.im (.list l))) σ ps H Hf' := by
  obtain ⟨v, hv⟩ := sl_get S.len h
  obtain ⟨a, xs, e1, e2, e3, e4, e5⟩ := S.rel _ (S.slot hv h)
  dsimp only at e1
  subst e1
  have hs : Same Hf (upd Hf a (.lst xs)) := same_new e3
  refine ⟨upd Hf a (.lst xs), hs, S.rebind hv h (fun a => by rw [ow_im]; exact Nat.zero_le _) ⟨_, rfl, .lst (.inl (.inl upd_same)) (dpa_mono hs l xs e5)⟩ (fun c o _ e => e) hs (fun b u e => ?_) (fun c o e => ?_) (fun c k1 k2 _ => ?_) (fun c o k _ => ?_) S.iol⟩
  · by_cases hb : b = a
    · subst hb; rw [upd_same] at e; rw [e4]; exact e
    · rw [upd_ne hb] at e; exact S.frz b u e
  · by_cases hb : c = a
    · subst hb; exact .inr e2
    · rw [upd_ne hb] at e; exact .inl e
  · rw [upd_ne (ow_ne k1)]; exact k2
  · refine ow_of_ne ?_
    rintro rfl
    rw [e2] at k; cases k
/-- an own list in a slot is changed -/
theorem Stx.write (S : Stx K Z g σ ps H Hf) {i : Nat} {l l' : List D} {a : Addr} {xs' : List V} (h : g[i]? = some (.mu l)) (hv : σ[i]? = some (some (.ref a))) (h' : DpAll K Hf xs' l') : Stx K Z (g.set i (.mu l')) σ ps (upd H a (.lst xs')) Hf := by
  obtain ⟨a', xs, e1, e2, e3, e4, e5⟩ := S.rel _ (S.slot hv h)
  cases e1
  refine S.rebind hv h (fun c => Nat.le_refl _) ⟨a, xs', rfl, e2, e3, upd_same, h'⟩ (fun c o k e => ?_) (Same.refl _) (fun b u e => ?_) (fun c o e => .inl e) (fun c _ k2 _ => k2) (fun c o k _ => ?_) (fun c e => ?_)
  · rw [upd_ne (ow_ne k)]; exact e
  · rw [upd_ne (ne_of_none e e3)]; exact S.frz b u e
  · refine ow_of_ne ?_
    rintro rfl
    rw [e2] at k; cases k
  · by_cases hb : c = a
    · subst hb; exact ⟨_, upd_same⟩
    · rw [upd_ne hb]; exact S.iol c e
theorem Stx.writeIo (S : Stx K Z g σ ps H Hf) {i : Nat} {l l' : List D} {a : Addr} {xs' : List V} (h : g[i]? = some (.io l)) (hv : σ[i]? = some (some (.ref a))) (h' : DpAll K Hf xs' l') : Stx K Z (g.set i (.io l')) σ ps (upd H a (.lst xs')) Hf := by
  obtain ⟨a', xs, e1, e2, e3, e4, e5⟩ := S.rel _ (S.slot hv h)
  cases e1
  refine S.rebind hv h (fun c => Nat.le_refl _) ⟨a, xs', rfl, e2, e3, upd_same, h'⟩ (fun c o k e => ?_) (Same.refl _) (fun b u e => ?_) (fun c o e => .inl e) (fun c _ k2 _ => k2) (fun c o k k2 => ?_) (fun c e => ?_)
  · rw [upd_ne (ow_ne_io k)]; exact e
  · rw [upd_ne (ne_of_none e e3)]; exact S.frz b u e
  · show (if a = c then 1 else 0) = 0
    rw [if_neg]
    rintro rfl
    exact k2 e2
  · by_cases hb : c = a
    · subst hb; exact ⟨_, upd_same⟩
    · rw [upd_ne hb]; exact S.iol c e
/-- the last operand goes into the slot i (not the caller's list) -/
def noIo : Option B → Bool
  | some (.io _) => false
  | none => false
  | _ => true
theorem Stx.store {b : B} (S : Stx K Z g σ (ps ++ [(x, .v b)]) H Hf) {i : Nat} (hi : noIo g[i]? = true) (na : ∀ y j, (y, W.s j) ∉ ps) : Stx K Z (g.set i b) (σ.set i (some x)) ps H Hf := by
  obtain ⟨b0, h2⟩ : ∃ b0, g[i]? = some b0 := by
    cases e : g[i]? with
    | none => rw [e] at hi; cases hi
    | some b0 => exact ⟨b0, rfl⟩
  obtain ⟨v, h1⟩ := sl_get S.len h2
  have er : rts (σ.set i (some x)) (g.set i b) ps = (rts σ g ps).set i (some x, b) := by
    unfold rts
    rw [zip_set, List.set_append_left]
    rw [List.length_zip]
    have : i < σ.length := (List.getElem?_eq_some_iff.mp h1).1
    have : i < g.length := (List.getElem?_eq_some_iff.mp h2).1
    omega
  refine ⟨by rw [List.length_set, List.length_set]; exact S.len, S.frz, S.out, S.old, S.new, S.iol, fun p hp => ?_, fun a => ?_, fun y j hm => ?_⟩
  · rw [er] at hp
    rcases mem_set_or hp with rfl | ⟨j, hj, hp⟩
    · exact S.rel (root (x, .v b)) (by rw [rts_app]; exact List.mem_append_right _ (by simp))
    · exact S.rel p (by rw [rts_app]; exact List.mem_append_left _ (List.mem_of_getElem? hp))
  · rw [er]
    have c1 := cnt_set (a := a) (q := (some x, b)) (rts_get ps h1 h2)
    have c2 := S.nod a
    rw [rts_app, cnt_append] at c2
    have c3 : cnt a ([(x, W.v b)].map root) = ow a (some x, b) := Nat.add_zero _
    omega
  · exact (na y j hm).elim
/-- a slot is forgotten -/
theorem Stx.forget (S : Stx K Z g σ ps H Hf) {i : Nat} (hi : noIo g[i]? = true) : Stx K Z (g.set i .un) σ ps H Hf := by
  obtain ⟨b0, h2⟩ : ∃ b0, g[i]? = some b0 := by
    cases e : g[i]? with
    | none => rw [e] at hi; cases hi
    | some b0 => exact ⟨b0, rfl⟩
  obtain ⟨v, h1⟩ := sl_get S.len h2
  refine ⟨by rw [List.length_set]; exact S.len, S.frz, S.out, S.old, S.new, S.iol, fun p hp => ?_, fun a => ?_, S.als⟩
  · rw [rts_setb σ g ps .un h1 S.len] at hp
    rcases mem_set_or hp with rfl | ⟨j, hj, hp⟩
    · trivial
    · exact S.rel p (List.mem_of_getElem? hp)
  · rw [rts_setb σ g ps .un h1 S.len]
    have c1 := cnt_set (a := a) (q := (v, B.un)) (rts_get ps h1 h2)
    rw [ow_un] at c1
    have := S.nod a
    omega
/-- the list in a slot moves out of it, onto the operands -/
theorem Stx.moveOut (S : Stx K Z g σ (ps ++ [(x, .s i)]) H Hf) {l : List D} (h : g[i]? = some (.mu l)) : Stx K Z (g.set i .un) σ (ps ++ [(x, .v (.mu l))]) H Hf := by
  have hs := S.als x i (List.mem_append_right _ (by simp))
  have r := S.rel _ (S.slot hs h)
  have S1 := S.drop
  have S2 := S1.forget (i := i) (by rw [h]; rfl)
  refine S2.push r fun a => ?_
  rw [rts_setb σ g ps .un hs S1.len]
  have c1 := cnt_set (a := a) (q := (some x, B.un)) (rts_get ps hs h)
  rw [ow_un] at c1
  have := S1.nod a
  omega
/-- the last operand, a new list, is frozen -/
theorem Stx.freezeLast (S : Stx K Z g σ (ps ++ [(x, .v (.mu l))]) H Hf) : ∃ Hf', Same Hf Hf' ∧ Stx K Z g σ (ps ++ [(x, .v (.im (.list l)))]) H Hf' := by
  have S1 := S.drop
  obtain ⟨a, xs, e1, e2, e3, e4, e5⟩ := S.rel (root (x, .v (.mu l))) (S.root_mem (List.mem_append_right _ (by simp)))
  cases e1
  have hs : Same Hf (upd Hf a (.lst xs)) := same_new e3
  have c0 : cnt a (rts σ g ps) = 0 := by
    have := S.nod a
    rw [rts_app, cnt_append] at this
    have e : cnt a ([(V.ref a, W.v (.mu l))].map root) = 1 := by simp [cnt, root, ow]
    omega
  refine ⟨upd Hf a (.lst xs), hs, ?_⟩
  have S2 : Stx K Z g σ ps H (upd Hf a (.lst xs)) := by
    refine ⟨S1.len, fun b u e => ?_, S1.out, S1.old.trans hs, fun c o e => ?_, S1.iol, fun p hp => ?_, S1.nod, S1.als⟩
    · by_cases hb : b = a
      · subst hb; rw [upd_same] at e; rw [e4]; exact e
      · rw [upd_ne hb] at e; exact S.frz b u e
    · by_cases hb : c = a
      · subst hb; exact .inr e2
      · rw [upd_ne hb] at e; exact S1.new c o e
    · refine rb_step (S1.rel p hp) hs fun c hc => ⟨rfl, ?_⟩
      obtain ⟨k1, _⟩ := rb_ow (S1.rel p hp) hc
      rw [upd_ne]
      · exact k1
      · intro e
        have hc' : 0 < ow c p := hc
        rw [e] at hc'
        have := cnt_mem (a := a) hp
        omega
  exact S2.pushIm (.lst (.inl (.inl upd_same)) (dpa_mono hs l xs e5))
end
end DL
/-! ## DLc.lean -/
set_option Elab.async false
set_option linter.all false
set_option maxRecDepth 100000
set_option maxHeartbeats 4000000
namespace DL
open PySem L2

theorem PE.imp {X : Cx} {e : Expr} {t t' : TE} (h : PE X e t) (i : ∀ σ H Q, t' σ H Q → t σ H Q) : PE X e t' := ⟨fun pins s σ H Q I k => h.run pins s σ H Q I (i σ H Q k)⟩
theorem PT.imp {X : Cx} {e : Expr} {t t' : TT} (h : PT X e t) (i : ∀ σ H Q, t' σ H Q → t σ H Q) : PT X e t' := ⟨fun pins s σ H Q I k => h.run pins s σ H Q I (i σ H Q k)⟩
theorem PW.imp {X : Cx} {e : Expr} {t t' : TT} (h : PW X e t) (i : ∀ σ H Q, t' σ H Q → t σ H Q) : PW X e t' := ⟨fun wh pins s σ H Q I k => h.run wh pins s σ H Q I (i σ H Q k)⟩
theorem PA.imp {X : Cx} {e : List Expr} {t t' : TA} (h : PA X e t) (i : ∀ σ H Q, t' σ H Q → t σ H Q) : PA X e t' := ⟨fun p pins s σ H Q I k => h.run p pins s σ H Q I (i σ H Q k)⟩
theorem PS.imp {X : Cx} {e : Stmt} {t t' : TS} (h : PS X e t) (i : ∀ D σ H, t' D σ H → t D σ H) : PS X e t' := ⟨fun pins s σ H D I k => h.run pins s σ H D I (i D σ H k)⟩
theorem PSs.imp {X : Cx} {e : List Stmt} {t t' : TS} (h : PSs X e t) (i : ∀ D σ H, t' D σ H → t D σ H) : PSs X e t' := ⟨fun pins s σ H D I k => h.run pins s σ H D I (i D σ H k)⟩

/-! ### ends -/
def FsRep (K : PySem.W.Frag) (Hf : Hp) : List (Str × V) → List (Str × D) → Prop := Paired fun p q => p.1 = q.1 ∧ Dp K Hf p.2 q.2
/-- the exception of the class cls, its own dict at d -/
def IsEx (K : PySem.W.Frag) (mg : Str → Option Value) (Hf : Hp) (cls : Value) (d : Option Addr) (e : Exn) : Prop :=
  ∃ C, mg e.1 = some (.ref C) ∧ cls = .ref C ∧ (e.2 = [] ∧ d = none ∨ ∃ dd fs, d = some dd ∧ Hf dd = some (.xd fs) ∧ FsRep K Hf fs e.2)
def XEnd (X : Cx) (Wx : WX) (Z : Zs) (σ : L2.St) (e : Exn) (g : Gm) : Prop := ∀ cls d H' Hf', Stx X.K Z g σ [] H' Hf' → IsEx X.K X.mg Hf' cls d e → Wx cls d σ H'
def GEnd {α : Type} (X : Cx) (Wx : WX) (Z : Zs) (σ : L2.St) (post : α → Gm → Prop) : Res α → Prop
  | .ok a g => post a g
  | .ex e g => XEnd X Wx Z σ e g
  | .no => False
def RP (X : Cx) (Z : Zs) (σ : L2.St) (ps : List (V × W)) (Hf : Hp) (Q : VK) : W → Gm → Prop := fun w g' => ∀ x H' Hf', Same Hf Hf' → Stx X.K Z g' σ (ps ++ [(x, w)]) H' Hf' → Q x H'
def TPo (X : Cx) (Z : Zs) (σ : L2.St) (ps : List (V × W)) (Hf : Hp) (Q : Bool → Hp → Prop) : Bool → Gm → Prop := fun b g' => ∀ H' Hf', Same Hf Hf' → Stx X.K Z g' σ ps H' Hf' → Q b H'
def AP' (X : Cx) (Z : Zs) (σ : L2.St) (ps : List (V × W)) (Hf : Hp) (Q : List V → Hp → Prop) : List W → Gm → Prop := fun ws g' => ∀ xs H' Hf', Same Hf Hf' → xs.length = ws.length → Stx X.K Z g' σ (ps ++ xs.zip ws) H' Hf' → Q xs H'
def SEnd (X : Cx) (Wx : WX) (Z : Zs) (Hf : Hp) (D : Ends) : SR → Prop
  | .nx g => ∀ σ H' Hf', Same Hf Hf' → Stx X.K Z g σ [] H' Hf' → D.nx σ H'
  | .rt b g => ∀ x σ H' Hf', Same Hf Hf' → Stx X.K Z g σ [(x, .v b)] H' Hf' → D.rt x H'
  | .bk g => ∀ σ H' Hf', Same Hf Hf' → Stx X.K Z g σ [] H' Hf' → D.bk σ H'
  | .ct g => ∀ σ H' Hf', Same Hf Hf' → Stx X.K Z g σ [] H' Hf' → D.ct σ H'
  | .ex e g => ∀ σ, XEnd X Wx Z σ e g
  | .no => False

structure DE (X : Cx) (Wx : WX) (e : Expr) (t : Gm → Res W) : Prop where
  pe : PE X e (fun σ H Q => ∃ Z g ps Hf, Stx X.K Z g σ ps H Hf ∧ GEnd X Wx Z σ (RP X Z σ ps Hf Q) (t g))
structure DT (X : Cx) (Wx : WX) (e : Expr) (t : Gm → Res Bool) : Prop where
  pt : PT X e (fun σ H Q => ∃ Z g ps Hf, Stx X.K Z g σ ps H Hf ∧ GEnd X Wx Z σ (TPo X Z σ ps Hf Q) (t g))
structure DW (X : Cx) (Wx : WX) (e : Expr) (t : Gm → Res Bool) : Prop where
  pw : PW X e (fun σ H Q => ∃ Z g ps Hf, Stx X.K Z g σ ps H Hf ∧ GEnd X Wx Z σ (TPo X Z σ ps Hf Q) (t g))
structure DA (X : Cx) (Wx : WX) (e : List Expr) (t : Gm → Res (List W)) : Prop where
  pa : PA X e (fun σ H Q => ∃ Z g ps Hf, Stx X.K Z g σ ps H Hf ∧ GEnd X Wx Z σ (AP' X Z σ ps Hf Q) (t g))
structure DS (X : Cx) (Wx : WX) (e : Stmt) (t : Gm → SR) : Prop where
  ps : PS X e (fun D σ H => ∃ Z g Hf, Stx X.K Z g σ [] H Hf ∧ SEnd X Wx Z Hf D (t g))
structure DSs (X : Cx) (Wx : WX) (e : List Stmt) (t : Gm → SR) : Prop where
  ps : PSs X e (fun D σ H => ∃ Z g Hf, Stx X.K Z g σ [] H Hf ∧ SEnd X Wx Z Hf D (t g))

section
variable {X : Cx} {Wx : WX} {Z : Zs} {σ : L2.St} {ps : List (V × W)} {H H' Hf Hf' : Hp} {α β : Type} {g : Gm}
theorem GEnd.bind {p : β → Gm → Prop} {r : Res α} {k : α → Gm → Res β} (h : GEnd X Wx Z σ p (r.bind k)) : GEnd X Wx Z σ (fun a g => GEnd X Wx Z σ p (k a g)) r := by
  cases r with
  | ok a g => exact h
  | ex e g => exact h
  | no => exact h
theorem GEnd.mono {p q : α → Gm → Prop} {r : Res α} (h : GEnd X Wx Z σ p r) (i : ∀ a g, p a g → q a g) : GEnd X Wx Z σ q r := by
  cases r with
  | ok a g => exact i a g h
  | ex e g => exact h
  | no => exact h
theorem RP.mono {Q : VK} {w : W} {g : Gm} (h : RP X Z σ ps Hf Q w g) (e : Same Hf Hf') : RP X Z σ ps Hf' Q w g := fun x H' Hf2 k S => h x H' Hf2 (e.trans k) S
theorem TPo.mono {Q : Bool → Hp → Prop} {b : Bool} {g : Gm} (h : TPo X Z σ ps Hf Q b g) (e : Same Hf Hf') : TPo X Z σ ps Hf' Q b g := fun H' Hf2 k S => h H' Hf2 (e.trans k) S
theorem AP'.mono {Q : List V → Hp → Prop} {w : List W} {g : Gm} (h : AP' X Z σ ps Hf Q w g) (e : Same Hf Hf') : AP' X Z σ ps Hf' Q w g := fun x H' Hf2 k l S => h x H' Hf2 (e.trans k) l S
theorem SEnd.mono {D : Ends} {r : SR} (h : SEnd X Wx Z Hf D r) (e : Same Hf Hf') : SEnd X Wx Z Hf' D r := by
  cases r with
  | nx g => exact fun σ H' Hf2 k S => h σ H' Hf2 (e.trans k) S
  | rt b g => exact fun x σ H' Hf2 k S => h x σ H' Hf2 (e.trans k) S
  | bk g => exact fun σ H' Hf2 k S => h σ H' Hf2 (e.trans k) S
  | ct g => exact fun σ H' Hf2 k S => h σ H' Hf2 (e.trans k) S
  | ex e g => exact h
  | no => exact h
def Res.bindS {α : Type} (r : Res α) (k : α → Gm → SR) : SR := match r with
  | .ok a g => k a g
  | .ex e g => .ex e g
  | .no => .no
theorem SEnd.bindS {D : Ends} {r : Res α} {k : α → Gm → SR} (h : SEnd X Wx Z Hf D (r.bindS k)) : GEnd X Wx Z σ (fun a g => SEnd X Wx Z Hf D (k a g)) r := by
  cases r with
  | ok a g => exact h
  | ex e g => exact h σ
  | no => exact h
/-- what to give for an operand -/
theorem giveE {e : Expr} {ta : Gm → Res W} (he : DE X Wx e ta) {Q : VK} (S : Stx X.K Z g σ ps H Hf) {p : W → Gm → Prop} (h : GEnd X Wx Z σ p (ta g))
    (k : ∀ w g' x H' Hf', p w g' → Same Hf Hf' → Stx X.K Z g' σ (ps ++ [(x, w)]) H' Hf' → Q x H') : ∃ Z g ps Hf, Stx X.K Z g σ ps H Hf ∧ GEnd X Wx Z σ (RP X Z σ ps Hf Q) (ta g) :=
  ⟨Z, g, ps, Hf, S, h.mono fun w g' q x H' Hf' s S' => k w g' x H' Hf' q s S'⟩
theorem giveT {e : Expr} {ta : Gm → Res Bool} (he : DT X Wx e ta) {Q : Bool → Hp → Prop} (S : Stx X.K Z g σ ps H Hf) {p : Bool → Gm → Prop} (h : GEnd X Wx Z σ p (ta g))
    (k : ∀ b g' H' Hf', p b g' → Same Hf Hf' → Stx X.K Z g' σ ps H' Hf' → Q b H') : ∃ Z g ps Hf, Stx X.K Z g σ ps H Hf ∧ GEnd X Wx Z σ (TPo X Z σ ps Hf Q) (ta g) :=
  ⟨Z, g, ps, Hf, S, h.mono fun b g' q H' Hf' s S' => k b g' H' Hf' q s S'⟩
theorem giveA {e : List Expr} {ta : Gm → Res (List W)} (he : DA X Wx e ta) {Q : List V → Hp → Prop} (S : Stx X.K Z g σ ps H Hf) {p : List W → Gm → Prop} (h : GEnd X Wx Z σ p (ta g))
    (k : ∀ ws g' xs H' Hf', p ws g' → Same Hf Hf' → xs.length = ws.length → Stx X.K Z g' σ (ps ++ xs.zip ws) H' Hf' → Q xs H') : ∃ Z g ps Hf, Stx X.K Z g σ ps H Hf ∧ GEnd X Wx Z σ (AP' X Z σ ps Hf Q) (ta g) :=
  ⟨Z, g, ps, Hf, S, h.mono fun w g' q x H' Hf' s l S' => k w g' x H' Hf' q s l S'⟩

/-! ### names, constants -/
def eV (i : Nat) (g : Gm) : Res W := match g[i]? with
  | some .ob => .ok (.s i) g
  | some (.im _) => .ok (.s i) g
  | some (.mu _) => .ok (.s i) g
  | some (.io _) => .ok (.s i) g
  | _ => .no
def eC (d : D) (g : Gm) : Res W := .ok (.v (.im d)) g
theorem de_var (i : Nat) {e : Expr} (h : PE X e (tVar i)) : DE X Wx e (eV i) := ⟨PE.imp h fun σ H Q ⟨Z, g, ps, Hf, S, q⟩ => by
  unfold eV at q
  cases e : g[i]? with
  | none => rw [e] at q; exact q.elim
  | some b =>
    obtain ⟨v, hv⟩ := sl_get S.len e
    have r := S.rel _ (S.slot hv e)
    have fin : ∀ x, v = some x → RP X Z σ ps Hf Q (.s i) g → ∃ v, σ[i]? = some (some v) ∧ Q v H := fun x hx k => by
      subst hx
      exact ⟨x, hv, k x H Hf (Same.refl _) (S.pushS hv)⟩
    rw [e] at q
    cases b with
    | un => exact q.elim
    | ob => exact fin _ r q
    | im d => obtain ⟨x, e1, _⟩ := r; exact fin x e1 q
    | mu l => obtain ⟨a, xs, e1, _⟩ := r; exact fin _ e1 q
    | io l => obtain ⟨a, xs, e1, _⟩ := r; exact fin _ e1 q⟩
theorem de_v (i : Nat) {x : Str} {pos : Pos} (hN : X.N[i]? = some x := by rfl) (hv : Vis X.env.scope x := by first | exact Or.inl rfl | exact Or.inr (Or.inl rfl) | exact Or.inr (Or.inr rfl)) (hd : (x == ("__debug__" : Str)) = false := by decide)
    (hcd : (x == ("__classdict__" : Str)) = false := by decide) : DE X Wx (.Name x pos) (eV i) := de_var i (pe_var hN hv hd hcd)
theorem de_tc {e : Expr} {v : V} {d : D} (h : PE X e (tC v)) (hd : ∀ H, Dp X.K H v d) : DE X Wx e (eC d) := ⟨PE.imp h fun σ H Q ⟨Z, g, ps, Hf, S, q⟩ => q v H Hf (Same.refl _) (S.pushIm (hd Hf))⟩
theorem de_int {i : Int} {j pos} : DE X Wx (.Constant (.int i) j pos) (eC (.int i)) := de_tc pe_int fun _ => .int i
theorem de_bl {b : Bool} {j pos} : DE X Wx (.Constant (.bool b) j pos) (eC (.bool b)) := de_tc pe_bl fun _ => .bl b
theorem de_non {j pos} : DE X Wx (.Constant .none j pos) (eC .none) := de_tc pe_non fun _ => .non
theorem de_str {x : Str} {j pos} : DE X Wx (.Constant (.str x) j pos) (eC (.str x)) := de_tc pe_str fun _ => .str x
theorem de_g {x : Str} {v : V} {d : D} {pos : Pos} (hg : Gl X x) (hm : ∃ u, X.mg x = some u ∧ RelV v u) (hd : ∀ H, Dp X.K H v d) (hdb : (x == ("__debug__" : Str)) = false := by decide) : DE X Wx (.Name x pos) (eC d) := by
  obtain ⟨u, h1, h2⟩ := hm
  exact de_tc (pe_glob hg h1 h2 hdb) hd

/-! ### operators on data -/
def put (g : Gm) : Option B → Res W
  | some b => .ok (.v b) g
  | none => .no
/-- two operands, read when both are there -/
def eOp2 (f : D → D → Option B) (ta tb : Gm → Res W) (g : Gm) : Res W := (ta g).bind fun v g1 => (tb g1).bind fun w g2 => put g2 ((rd g2 v).bind fun d => (rd g2 w).bind fun e => f d e)
def eOp1 (f : D → Option B) (ta : Gm → Res W) (g : Gm) : Res W := (ta g).bind fun v g1 => put g1 ((rd g1 v).bind f)
def rdAll (g : Gm) : List W → Option (List D)
  | [] => some []
  | w :: ws => (rd g w).bind fun d => (rdAll g ws).bind fun ds => some (d :: ds)
def eOpN (f : List D → Option B) (ta : Gm → Res (List W)) (g : Gm) : Res W := (ta g).bind fun ws g1 => put g1 ((rdAll g1 ws).bind f)
def Op2 (K : PySem.W.Frag) (r : R2) (f : D → D → Option B) : Prop := ∀ (H Hf : Hp) (x y : V) (d e : D) (b : B) (Q : VK), Same Hf H → Rdb K H Hf x d → Rdb K H Hf y e → f d e = some b →
  (∀ z H' Hf', Grow K H Hf H' Hf' z b → Q z H') → r x y H Q
def Op1 (K : PySem.W.Frag) (r : V → Hp → VK → Prop) (f : D → Option B) : Prop := ∀ (H Hf : Hp) (x : V) (d : D) (b : B) (Q : VK), Same Hf H → Rdb K H Hf x d → f d = some b →
  (∀ z H' Hf', Grow K H Hf H' Hf' z b → Q z H') → r x H Q
inductive RdA (K : PySem.W.Frag) (H Hf : Hp) : List V → List D → Prop
  | nil : RdA K H Hf [] []
  | cons {x : V} {xs : List V} {d : D} {ds : List D} : Rdb K H Hf x d → RdA K H Hf xs ds → RdA K H Hf (x :: xs) (d :: ds)
def OpN (K : PySem.W.Frag) (r : List V → Hp → VK → Prop) (f : List D → Option B) : Prop := ∀ (H Hf : Hp) (xs : List V) (ds : List D) (b : B) (Q : VK), Same Hf H → RdA K H Hf xs ds → f ds = some b →
  (∀ z H' Hf', Grow K H Hf H' Hf' z b → Q z H') → r xs H Q

theorem put_end {o : Option B} {Q : VK} (h : GEnd X Wx Z σ (RP X Z σ ps Hf Q) (put g o)) : ∃ b, o = some b ∧ RP X Z σ ps Hf Q (.v b) g := by
  cases o with
  | none => exact h.elim
  | some b => exact ⟨b, rfl, h⟩
theorem mem_last {x : V} {w : W} : (x, w) ∈ ps ++ [(x, w)] := List.mem_append_right _ (by simp)
theorem rdAll_ok {K : PySem.W.Frag} : ∀ {ws : List W} {xs : List V} {ds : List D} {qs : List (V × W)}, Stx K Z g σ qs H Hf → xs.length = ws.length → (∀ p ∈ xs.zip ws, p ∈ qs) → rdAll g ws = some ds → RdA K H Hf xs ds
  | [], [], ds, qs, S, _, _, h => by simp [rdAll] at h; subst h; exact .nil
  | [], _ :: _, ds, qs, S, l, _, h => by simp at l
  | _ :: _, [], ds, qs, S, l, _, h => by simp at l
  | w :: ws, x :: xs, ds, qs, S, l, m, h => by
    simp only [rdAll] at h
    cases e : DL.rd g w with
    | none => rw [e] at h; simp at h
    | some d =>
      rw [e] at h
      cases e2 : rdAll g ws with
      | none => rw [e2] at h; simp at h
      | some es =>
        rw [e2] at h
        simp at h
        subst h
        exact .cons (S.rd (m _ (by simp)) e) (rdAll_ok S (by simpa using l) (fun p hp => m p (by simp only [List.zip_cons_cons]; exact List.mem_cons_of_mem _ hp)) e2)
/-- the core of a two-place operation -/
theorem op2_core {a b e : Expr} {ta tb : Gm → Res W} {r : R2} {f : D → D → Option B} (ha : DE X Wx a ta) (hb : DE X Wx b tb) (hf : Op2 X.K r f)
    (h : ∀ {TA TB : TE}, PE X a TA → PE X b TB → PE X e (tOp r TA TB)) : DE X Wx e (eOp2 f ta tb) := ⟨PE.imp (h ha.pe hb.pe) fun σ H Q ⟨Z, g, ps, Hf, S, q⟩ => by
  refine giveE ha S q.bind fun w1 g1 x H1 Hf1 q1 s1 S1 => ?_
  refine giveE hb S1 q1.bind fun w2 g2 y H2 Hf2 q2 s2 S2 => ?_
  obtain ⟨c, e1, q3⟩ := put_end q2
  cases e2 : rd g2 w1 with
  | none => rw [e2] at e1; simp at e1
  | some d =>
    cases e3 : rd g2 w2 with
    | none => rw [e2, e3] at e1; simp at e1
    | some d' =>
      rw [e2, e3] at e1
      have m1 : (x, w1) ∈ (ps ++ [(x, w1)]) ++ [(y, w2)] := List.mem_append_left _ mem_last
      refine hf H2 Hf2 x y d d' c Q S2.frz (S2.rd m1 e2) (S2.rd mem_last e3) e1 fun z H3 Hf3 G => ?_
      rw [List.append_assoc] at S2
      exact q3 z H3 Hf3 ((s1.trans s2).trans G.hf) (S2.drop.grow G)⟩
theorem de_bin {a b : Expr} {ta tb : Gm → Res W} {op : Operator} {pos : Pos} {r : R2} {f : D → D → Option B} (ho : OpR X (binaryOp op) r) (hf : Op2 X.K r f) (ha : DE X Wx a ta) (hb : DE X Wx b tb) : DE X Wx (.BinOp a op b pos) (eOp2 f ta tb) :=
  op2_core ha hb hf fun h1 h2 => pe_op ho h1 h2
theorem de_cmp {a b : Expr} {ta tb : Gm → Res W} {op : CmpOp} {pos : Pos} {r : R2} {f : D → D → Option B} (ho : OpR X (compareOp op) r) (hf : Op2 X.K r f) (ha : DE X Wx a ta) (hb : DE X Wx b tb) (hm : behindInMarks op b = false) : DE X Wx (.Compare a [op] [b] pos) (eOp2 f ta tb) :=
  op2_core ha hb hf fun h1 h2 => pe_cmpR ho h1 h2 hm
theorem de_ix {a b : Expr} {ta tb : Gm → Res W} {pos : Pos} {r : R2} {f : D → D → Option B} (ho : IxR X r) (hf : Op2 X.K r f) (ha : DE X Wx a ta) (hb : DE X Wx b tb) (hs : PlainIx b := by exact fun _ _ => rfl) : DE X Wx (.Subscript a b pos) (eOp2 f ta tb) :=
  op2_core ha hb hf fun h1 h2 => pe_ix ho h1 h2 hs
theorem de_un {a : Expr} {ta : Gm → Res W} {op : UnaryOp} {pos : Pos} {r : V → Hp → VK → Prop} {f : D → Option B} (ho : UnR X (unaryOp op) r) (hf : Op1 X.K r f) (ha : DE X Wx a ta) : DE X Wx (.UnaryOp op a pos) (eOp1 f ta) := ⟨PE.imp (pe_un ho ha.pe) fun σ H Q ⟨Z, g, ps, Hf, S, q⟩ => by
  refine giveE ha S q.bind fun w1 g1 x H1 Hf1 q1 s1 S1 => ?_
  obtain ⟨c, e1, q3⟩ := put_end q1
  cases e2 : rd g1 w1 with
  | none => rw [e2] at e1; simp at e1
  | some d =>
    rw [e2] at e1
    refine hf H1 Hf1 x d c Q S1.frz (S1.rd mem_last e2) e1 fun z H3 Hf3 G => ?_
    exact q3 z H3 Hf3 (s1.trans G.hf) (S1.drop.grow G)⟩

/-! ### argument lists -/
def aNil (g : Gm) : Res (List W) := .ok [] g
def aCons (ta : Gm → Res W) (tb : Gm → Res (List W)) (g : Gm) : Res (List W) := (ta g).bind fun w g1 => (tb g1).bind fun ws g2 => .ok (w :: ws) g2
theorem da_nil : DA X Wx [] aNil := ⟨PA.imp pa_nil fun σ H Q ⟨Z, g, ps, Hf, S, q⟩ => by
  have q' : AP' X Z σ ps Hf Q [] g := q
  exact q' [] H Hf (Same.refl _) rfl (by simpa using S)⟩
theorem da_cons {e : Expr} {es : List Expr} {ta : Gm → Res W} {tb : Gm → Res (List W)} (ha : DE X Wx e ta) (hb : DA X Wx es tb) (hs : starEach (e :: es) X.env = (false, eval e X.env) :: starEach es X.env := by rfl) : DA X Wx (e :: es) (aCons ta tb) := ⟨PA.imp (pa_cons ha.pe hb.pa hs) fun σ H Q ⟨Z, g, ps, Hf, S, q⟩ => by
  refine giveE ha S q.bind fun w1 g1 x H1 Hf1 q1 s1 S1 => ?_
  refine giveA hb S1 q1.bind fun ws g2 xs H2 Hf2 q2 s2 l S2 => ?_
  have q' : AP' X Z σ ps Hf Q (w1 :: ws) g2 := q2
  refine q' (x :: xs) H2 Hf2 (s1.trans s2) (by simp [l]) ?_
  rw [List.append_assoc] at S2
  exact S2⟩
theorem de_cb {x : Str} {id : String} {p pos : Pos} {e : Expr} {es : List Expr} {ta : Gm → Res (List W)} {r : List V → Hp → VK → Prop} {f : List D → Option B} (hc : CallR X (.builtin id) r) (hf : OpN X.K r f) (hg : Gl X x) (hm : X.mg x = none) (hv : bootBuiltins x = some (.builtin id)) (ha : DA X Wx (e :: es) ta) (hn : x ≠ "__name__" := by decide) (hdb : (x == ("__debug__" : Str)) = false := by decide)
    (he : starEach (e :: es) X.env = (false, eval e X.env) :: starEach es X.env := by rfl) (hpl : (backTo pos (starEach es X.env)).any (·.1) = false := by rfl) : DE X Wx (.Call (.Name x p) (e :: es) [] pos) (eOpN f ta) := ⟨PE.imp (pe_callB hc hg hm hv ha.pa hn hdb he hpl) fun σ H Q ⟨Z, g, ps, Hf, S, q⟩ => by
  refine giveA ha S q.bind fun ws g1 xs H1 Hf1 q1 s1 l S1 => ?_
  obtain ⟨c, e1, q3⟩ := put_end q1
  cases e2 : rdAll g1 ws with
  | none => rw [e2] at e1; simp at e1
  | some ds =>
    rw [e2] at e1
    refine hf H1 Hf1 xs ds c Q S1.frz (rdAll_ok S1 l (fun p hp => List.mem_append_right _ hp) e2) e1 fun z H3 Hf3 G => ?_
    exact q3 z H3 Hf3 (s1.trans G.hf) (S1.drop.grow G)⟩
theorem de_cty {x : Str} {T : String} {p pos : Pos} {e : Expr} {es : List Expr} {ta : Gm → Res (List W)} {r : List V → Hp → VK → Prop} {f : List D → Option B} (hc : CallR X (.type T) r) (hf : OpN X.K r f) (hg : Gl X x) (hm : X.mg x = none) (hv : bootBuiltins x = some (.type T)) (ha : DA X Wx (e :: es) ta) (hn : x ≠ "__name__" := by decide) (hdb : (x == ("__debug__" : Str)) = false := by decide)
    (he : starEach (e :: es) X.env = (false, eval e X.env) :: starEach es X.env := by rfl) (hpl : (backTo pos (starEach es X.env)).any (·.1) = false := by rfl) : DE X Wx (.Call (.Name x p) (e :: es) [] pos) (eOpN f ta) := ⟨PE.imp (pe_callTy hc hg hm hv ha.pa hn hdb he hpl) fun σ H Q ⟨Z, g, ps, Hf, S, q⟩ => by
  refine giveA ha S q.bind fun ws g1 xs H1 Hf1 q1 s1 l S1 => ?_
  obtain ⟨c, e1, q3⟩ := put_end q1
  cases e2 : rdAll g1 ws with
  | none => rw [e2] at e1; simp at e1
  | some ds =>
    rw [e2] at e1
    refine hf H1 Hf1 xs ds c Q S1.frz (rdAll_ok S1 l (fun p hp => List.mem_append_right _ hp) e2) e1 fun z H3 Hf3 G => ?_
    exact q3 z H3 Hf3 (s1.trans G.hf) (S1.drop.grow G)⟩
end
end DL
/-! ## DLd.lean -/
set_option Elab.async false
set_option linter.all false
set_option maxRecDepth 100000
set_option maxHeartbeats 4000000
namespace DL
open PySem L2

/-! ### operands become values -/
def esc (g : Gm) : W → Option (D × Gm)
  | .v (.im d) => some (d, g)
  | .v (.mu l) => some (.list l, g)
  | .v _ => none
  | .s i => match g[i]? with
    | some (.im d) => some (d, g)
    | some (.mu l) => some (.list l, g.set i (.im (.list l)))
    | _ => none
def settle (g : Gm) : List W → Option (List B × Gm)
  | [] => some ([], g)
  | .v b :: ws => (settle g ws).map fun r => (b :: r.1, r.2)
  | .s i :: ws => match g[i]? with
    | some (.im d) => (settle g ws).map fun r => (.im d :: r.1, r.2)
    | some (.mu l) => (settle (g.set i (.im (.list l))) ws).map fun r => (.im (.list l) :: r.1, r.2)
    | _ => none
section
variable {X : Cx} {Wx : WX} {K : PySem.W.Frag} {Z : Zs} {g g' : Gm} {σ σ' : L2.St} {ps ps' qs : List (V × W)} {H H' Hf Hf' : Hp} {x : V} {d : D} {l : List D} {i : Nat} {α β : Type}
theorem Stx.reps (S : Stx K Z g σ ps H Hf) (h : ∀ p ∈ ps'.map root, RB K Z H Hf p.1 p.2) (hc : ∀ a, cnt a (ps'.map root) ≤ cnt a (ps.map root)) (ha : ∀ x i, (x, W.s i) ∈ ps' → σ[i]? = some (some x)) : Stx K Z g σ ps' H Hf where
  len := S.len
  frz := S.frz
  out := S.out
  old := S.old
  new := S.new
  iol := S.iol
  rel := fun p hp => by
    rcases List.mem_append.mp hp with k | k
    · exact S.rel p (List.mem_append_left _ k)
    · exact h p k
  nod := fun a => by
    have k := S.nod a
    unfold rts at k ⊢
    rw [cnt_append] at k ⊢
    have := hc a
    omega
  als := ha
theorem Stx.esc {w : W} (S : Stx K Z g σ (ps ++ [(x, w)]) H Hf) (h : esc g w = some (d, g')) : ∃ Hf', Same Hf Hf' ∧ Dp K Hf' x d ∧ Stx K Z g' σ (ps ++ [(x, .v (.im d))]) H Hf' := by
  cases w with
  | v b =>
    cases b with
    | un => simp [DL.esc] at h
    | ob => simp [DL.esc] at h
    | io l => simp [DL.esc] at h
    | im e =>
      simp [DL.esc] at h
      obtain ⟨rfl, rfl⟩ := h
      obtain ⟨y, e1, e2⟩ := S.rel _ (S.root_mem mem_last)
      cases e1
      exact ⟨Hf, Same.refl _, e2, S⟩
    | mu l =>
      simp [DL.esc] at h
      obtain ⟨rfl, rfl⟩ := h
      obtain ⟨Hf', s, S'⟩ := S.freezeLast
      obtain ⟨y, e1, e2⟩ := S'.rel _ (S'.root_mem mem_last)
      cases e1
      exact ⟨Hf', s, e2, S'⟩
  | s i =>
    have hs := S.als x i mem_last
    simp only [DL.esc] at h
    cases e : g[i]? with
    | none => rw [e] at h; simp at h
    | some b =>
      rw [e] at h
      cases b with
      | un => simp at h
      | ob => simp at h
      | io l => simp at h
      | im e' =>
        simp at h
        obtain ⟨rfl, rfl⟩ := h
        obtain ⟨y, e1, e2⟩ := S.rel _ (S.slot hs e)
        cases e1
        exact ⟨Hf, Same.refl _, e2, S.drop.pushIm e2⟩
      | mu l =>
        simp at h
        obtain ⟨rfl, rfl⟩ := h
        obtain ⟨Hf', s, S'⟩ := S.freeze e
        have hl : i < g.length := (List.getElem?_eq_some_iff.mp e).1
        have e' : (g.set i (.im (.list l)))[i]? = some (.im (.list l)) := by rw [List.getElem?_set_self hl]
        obtain ⟨y, e1, e2⟩ := S'.rel _ (S'.slot hs e')
        cases e1
        exact ⟨Hf', s, e2, S'.drop.pushIm e2⟩
theorem cnt_map_app (a : Addr) (ps qs : List (V × W)) : cnt a ((ps ++ qs).map root) = cnt a (ps.map root) + cnt a (qs.map root) := by rw [List.map_append, cnt_append]
theorem Stx.settle : ∀ {ws : List W} {xs : List V} {g g' : Gm} {bs : List B} {ps qs : List (V × W)} {Hf : Hp}, (∀ y j, (y, W.s j) ∉ ps) → xs.length = ws.length → Stx K Z g σ (ps ++ xs.zip ws) H Hf → settle g ws = some (bs, g') →
    ∃ Hf', Same Hf Hf' ∧ bs.length = ws.length ∧ Stx K Z g' σ (ps ++ xs.zip (bs.map W.v)) H Hf'
  | [], xs, g, g', bs, ps, qs, Hf, na, hl, S, h => by
    simp [DL.settle] at h
    obtain ⟨rfl, rfl⟩ := h
    exact ⟨Hf, Same.refl _, rfl, by simpa using S⟩
  | w :: ws, [], g, g', bs, ps, qs, Hf, na, hl, S, h => by simp at hl
  | .v b :: ws, x :: xs, g, g', bs, ps, qs, Hf, na, hl, S, h => by
    simp only [DL.settle] at h
    cases e : DL.settle g ws with
    | none => rw [e] at h; simp at h
    | some r =>
      obtain ⟨cs, g2⟩ := r
      rw [e] at h
      simp at h
      obtain ⟨rfl, rfl⟩ := h
      have S1 : Stx K Z g σ ((ps ++ [(x, W.v b)]) ++ xs.zip ws) H Hf := by rw [List.append_assoc]; exact S
      obtain ⟨Hf', s, l2, S2⟩ := Stx.settle (qs := qs) (fun y j m => by
        rcases List.mem_append.mp m with m | m
        · exact na y j m
        · simp at m) (by simpa using hl) S1 e
      refine ⟨Hf', s, by simp [l2], ?_⟩
      rw [List.append_assoc] at S2
      exact S2
  | .s i :: ws, x :: xs, g, g', bs, ps, qs, Hf, na, hl, S, h => by
    have hs := S.als x i (List.mem_append_right _ (by simp))
    simp only [DL.settle] at h
    have rep : ∀ {g Hf d}, Stx K Z g σ (ps ++ (x :: xs).zip (W.s i :: ws)) H Hf → Dp K Hf x d → Stx K Z g σ ((ps ++ [(x, W.v (.im d))]) ++ xs.zip ws) H Hf := fun {g Hf d} S hd => by
      refine S.reps (fun p hp => ?_) (fun a => ?_) (fun y j m => ?_)
      · rw [List.map_append, List.map_append] at hp
        rcases List.mem_append.mp hp with hp | hp
        · rcases List.mem_append.mp hp with hp | hp
          · exact S.rel p (List.mem_append_right _ (by rw [List.map_append]; exact List.mem_append_left _ hp))
          · simp [root] at hp
            subst hp
            exact ⟨x, rfl, hd⟩
        · exact S.rel p (List.mem_append_right _ (by rw [List.map_append]; exact List.mem_append_right _ (List.mem_cons_of_mem _ hp)))
      · rw [cnt_map_app, cnt_map_app, cnt_map_app]
        have e1 : cnt a ([(x, W.v (.im d))].map root) = 0 := by
          show ow a (some x, B.im d) + 0 = 0
          rw [ow_im]
        have e2 : cnt a (((x :: xs).zip (W.s i :: ws)).map root) = ow a (some x, B.un) + cnt a ((xs.zip ws).map root) := rfl
        omega
      · rcases List.mem_append.mp m with m | m
        · rcases List.mem_append.mp m with m | m
          · exact (na y j m).elim
          · simp at m
        · exact S.als y j (List.mem_append_right _ (List.mem_cons_of_mem _ m))
    have go : ∀ {g Hf d r}, Stx K Z g σ (ps ++ (x :: xs).zip (W.s i :: ws)) H Hf → Dp K Hf x d → DL.settle g ws = some r → ∃ Hf', Same Hf Hf' ∧ r.1.length = ws.length ∧ Stx K Z r.2 σ (ps ++ (x :: xs).zip ((B.im d :: r.1).map W.v)) H Hf' := fun {g Hf d r} S hd e => by
      obtain ⟨cs, g2⟩ := r
      obtain ⟨Hf', s, l2, S2⟩ := Stx.settle (qs := qs) (fun y j m => by
        rcases List.mem_append.mp m with m | m
        · exact na y j m
        · simp at m) (by simpa using hl) (rep S hd) e
      refine ⟨Hf', s, l2, ?_⟩
      rw [List.append_assoc] at S2
      exact S2
    cases e : g[i]? with
    | none => rw [e] at h; simp at h
    | some b =>
      rw [e] at h
      cases b with
      | un => simp at h
      | ob => simp at h
      | io l => simp at h
      | im d =>
        obtain ⟨y, e1, e2⟩ := S.rel _ (S.slot hs e)
        cases e1
        simp only [Option.map_eq_some_iff] at h
        obtain ⟨r, h1, h2⟩ := h
        cases h2
        obtain ⟨Hf', s, l2, S2⟩ := go S e2 h1
        exact ⟨Hf', s, by simp [l2], S2⟩
      | mu l =>
        obtain ⟨Hf1, s1, S1⟩ := S.freeze e
        have hli : i < g.length := (List.getElem?_eq_some_iff.mp e).1
        have e' : (g.set i (.im (.list l)))[i]? = some (.im (.list l)) := by rw [List.getElem?_set_self hli]
        obtain ⟨y, e1, e2⟩ := S1.rel _ (S1.slot hs e')
        cases e1
        simp only [Option.map_eq_some_iff] at h
        obtain ⟨r, h1, h2⟩ := h
        cases h2
        obtain ⟨Hf', s, l2, S2⟩ := go S1 e2 h1
        exact ⟨Hf', s1.trans s, by simp [l2], S2⟩
def setAll (g : Gm) : List Nat → List B → Gm
  | i :: is, b :: bs => (setAll g is bs).set i b
  | _, _ => g
def setAllσ (σ : L2.St) : List Nat → List V → L2.St
  | i :: is, x :: xs => (setAllσ σ is xs).set i (some x)
  | _, _ => σ
def noIoAll (g : Gm) (is : List Nat) : Bool := is.all fun i => noIo g[i]?
theorem noIo_set {g : Gm} {i j : Nat} {b : B} (h : noIo g[i]? = true) (hb : noIo (some b) = true) : noIo (g.set j b)[i]? = true := by
  by_cases e : j = i
  · subst e
    cases q : g[j]? with
    | none => rw [q] at h; cases h
    | some c => rw [List.getElem?_set_self (List.getElem?_eq_some_iff.mp q).1]; exact hb
  · rw [List.getElem?_set_ne e]; exact h
def noIoB : List B → Bool := fun bs => bs.all fun b => noIo (some b)
theorem Stx.storeAll : ∀ {is : List Nat} {xs : List V} {bs : List B} {σ : L2.St} {ps : List (V × W)}, is.length = xs.length → xs.length = bs.length → (∀ y j, (y, W.s j) ∉ ps) → Stx K Z g σ (ps ++ xs.zip (bs.map W.v)) H Hf → noIoAll g is = true → noIoB bs = true →
    Stx K Z (setAll g is bs) (setAllσ σ is xs) ps H Hf := by
  intro is
  induction is with
  | nil =>
    intro xs bs σ ps h1 h2 na S hg hb
    cases xs with
    | nil => simpa [setAll, setAllσ] using S
    | cons x xs => simp at h1
  | cons i is ih =>
    intro xs bs σ ps h1 h2 na S hg hb
    cases xs with
    | nil => simp at h1
    | cons x xs =>
      cases bs with
      | nil => simp at h2
      | cons b bs =>
        have na' : ∀ y j, (y, W.s j) ∉ ps ++ [(x, W.v b)] := fun y j m => by
          rcases List.mem_append.mp m with m | m
          · exact na y j m
          · simp at m
        simp only [noIoAll, List.all_cons, Bool.and_eq_true] at hg
        simp only [noIoB, List.all_cons, Bool.and_eq_true] at hb
        have S1 : Stx K Z g σ ((ps ++ [(x, W.v b)]) ++ xs.zip (bs.map W.v)) H Hf := by rw [List.append_assoc]; exact S
        have S2 := ih (by simpa using h1) (by simpa using h2) na' S1 hg.2 hb.2
        refine S2.store ?_ na
        have : ∀ (is : List Nat) (bs : List B), noIoB bs = true → noIo (setAll g is bs)[i]? = true := by
          intro is
          induction is with
          | nil => intro bs _; exact hg.1
          | cons j is ih2 =>
            intro bs hb
            cases bs with
            | nil => exact hg.1
            | cons c bs =>
              simp only [noIoB, List.all_cons, Bool.and_eq_true] at hb
              exact noIo_set (ih2 bs hb.2) hb.1
        exact this is bs hb.2

/-! ### displays -/
def aConsE (ta : Gm → Res W) (tb : Gm → Res (List D)) (g : Gm) : Res (List D) := (ta g).bind fun w g1 => match esc g1 w with
  | some (d, g2) => (tb g2).bind fun ds g3 => .ok (d :: ds) g3
  | none => .no
def aNilE (g : Gm) : Res (List D) := .ok [] g
def AE (X : Cx) (Z : Zs) (σ : L2.St) (ps : List (V × W)) (Hf : Hp) (Q : List V → Hp → Prop) : List D → Gm → Prop := fun ds g' => ∀ xs H' Hf', Same Hf Hf' → DpAll X.K Hf' xs ds → Stx X.K Z g' σ ps H' Hf' → Q xs H'
structure DAe (X : Cx) (Wx : WX) (e : List Expr) (t : Gm → Res (List D)) : Prop where
  pa : PA X e (fun σ H Q => ∃ Z g ps Hf, Stx X.K Z g σ ps H Hf ∧ GEnd X Wx Z σ (AE X Z σ ps Hf Q) (t g))
theorem giveAe {e : List Expr} {ta : Gm → Res (List D)} (he : DAe X Wx e ta) {Q : List V → Hp → Prop} (S : Stx X.K Z g σ ps H Hf) {p : List D → Gm → Prop} (h : GEnd X Wx Z σ p (ta g))
    (k : ∀ ds g' xs H' Hf', p ds g' → Same Hf Hf' → DpAll X.K Hf' xs ds → Stx X.K Z g' σ ps H' Hf' → Q xs H') : ∃ Z g ps Hf, Stx X.K Z g σ ps H Hf ∧ GEnd X Wx Z σ (AE X Z σ ps Hf Q) (ta g) :=
  ⟨Z, g, ps, Hf, S, h.mono fun w g' q x H' Hf' s l S' => k w g' x H' Hf' q s l S'⟩
theorem dae_nil : DAe X Wx [] aNilE := ⟨PA.imp pa_nil fun σ H Q ⟨Z, g, ps, Hf, S, q⟩ => by
  have q' : AE X Z σ ps Hf Q [] g := q
  exact q' [] H Hf (Same.refl _) .nil S⟩
theorem dae_cons {e : Expr} {es : List Expr} {ta : Gm → Res W} {tb : Gm → Res (List D)} (ha : DE X Wx e ta) (hb : DAe X Wx es tb) (hs : starEach (e :: es) X.env = (false, eval e X.env) :: starEach es X.env := by rfl) : DAe X Wx (e :: es) (aConsE ta tb) := ⟨PA.imp (pa_cons ha.pe hb.pa hs) fun σ H Q ⟨Z, g, ps, Hf, S, q⟩ => by
  refine giveE ha S q.bind fun w1 g1 x H1 Hf1 q1 s1 S1 => ?_
  cases e1 : esc g1 w1 with
  | none => rw [e1] at q1; exact q1.elim
  | some r =>
    obtain ⟨d, g2⟩ := r
    rw [e1] at q1
    obtain ⟨Hf2, s2, hd, S2⟩ := S1.esc e1
    have q1' : GEnd X Wx Z σ (AE X Z σ ps Hf Q) ((tb g2).bind fun ds g3 => .ok (d :: ds) g3) := q1
    refine giveAe hb S2.drop q1'.bind fun ds g3 xs H3 Hf3 q3 s3 l S3 => ?_
    have q3' : AE X Z σ ps Hf Q (d :: ds) g3 := q3
    exact q3' (x :: xs) H3 Hf3 ((s1.trans s2).trans s3) (.cons (dp_mono s3 d x hd) l) S3⟩
def small (n : Nat) : Bool := decide (n ≤ 100000)
theorem small_le {n : Nat} (h : small n = true) : n ≤ sizeLine := Nat.le_trans (of_decide_eq_true h) (by decide)
theorem small_lt {n : Nat} (h : small n = true) : n < sizeLine := Nat.lt_of_le_of_lt (of_decide_eq_true h) (by decide)
def eTup (ta : Gm → Res (List D)) (g : Gm) : Res W := (ta g).bind fun ds g1 => if small ds.length = true then .ok (.v (.im (.tuple ds))) g1 else .no
def eLst (ta : Gm → Res (List D)) (g : Gm) : Res W := (ta g).bind fun ds g1 => if small ds.length = true then .ok (.v (.mu ds)) g1 else .no
theorem de_tup {es : List Expr} {x1} {pos : Pos} {ta : Gm → Res (List D)} (ha : DAe X Wx es ta) : DE X Wx (.Tuple es x1 pos) (eTup ta) := ⟨PE.imp (pe_tup ha.pa) fun σ H Q ⟨Z, g, ps, Hf, S, q⟩ => by
  refine giveAe ha S q.bind fun ds g1 xs H1 Hf1 q1 s1 l S1 => ?_
  by_cases c : small ds.length = true
  · rw [if_pos c] at q1
    refine ⟨by rw [dpa_len l]; exact small_le c, fun p hp => ?_⟩
    have G := Grow.tup S1.frz hp l
    exact q1 (.ref p) _ _ (s1.trans G.hf) (S1.grow G)
  · rw [if_neg c] at q1; exact q1.elim⟩
theorem de_lst {es : List Expr} {pos : Pos} {ta : Gm → Res (List D)} (ha : DAe X Wx es ta) : DE X Wx (.List es pos) (eLst ta) := ⟨PE.imp (pe_lst ha.pa) fun σ H Q ⟨Z, g, ps, Hf, S, q⟩ => by
  refine giveAe ha S q.bind fun ds g1 xs H1 Hf1 q1 s1 l S1 => ?_
  by_cases c : small ds.length = true
  · rw [if_pos c] at q1
    refine ⟨by rw [dpa_len l]; exact small_le c, fun p hp => ?_⟩
    have G := Grow.lst S1.frz hp l
    exact q1 (.ref p) _ _ (s1.trans G.hf) (S1.grow G)
  · rw [if_neg c] at q1; exact q1.elim⟩

/-! ### tests -/
def tOf (ta : Gm → Res W) (g : Gm) : Res Bool := (ta g).bind fun w g1 => match rd g1 w with
  | some (.bool b) => .ok b g1
  | _ => .no
theorem rdb_bool {K : PySem.W.Frag} {b : Bool} (h : Rdb K H Hf x (.bool b)) : x = .bl b := by
  rcases h with h | ⟨_, _, _, _, e, _⟩
  · cases h; rfl
  · cases e
theorem dt_gen {e : Expr} {ta : Gm → Res W} (he : DE X Wx e ta) (h : ∀ {TA : TE}, PE X e TA → PT X e (tB TA)) : DT X Wx e (tOf ta) := ⟨PT.imp (h he.pe) fun σ H Q ⟨Z, g, ps, Hf, S, q⟩ => by
  refine giveE he S q.bind fun w g1 x H1 Hf1 q1 s1 S1 => ?_
  cases e1 : rd g1 w with
  | none => rw [e1] at q1; exact q1.elim
  | some d =>
    rw [e1] at q1
    have r := S1.rd mem_last e1
    cases d with
    | bool b => exact ⟨b, rdb_bool r, q1 H1 Hf1 s1 S1.drop⟩
    | _ => exact q1.elim⟩
theorem dt_val {e : Expr} {ta : Gm → Res W} (he : DE X Wx e ta) (hw : ∀ whole, isTrue e X.env whole = (do let v ← whole; standAt e.pos; holding [v] (truthy v)) := by intro _; rfl) : DT X Wx e (tOf ta) := dt_gen he fun h => pt_val h hw
theorem dt_cmp {a b : Expr} {ta tb : Gm → Res W} {op : CmpOp} {pos : Pos} {r : R2} {f : D → D → Option B} (ho : OpR X (compareOp op) r) (hf : Op2 X.K r f) (ha : DE X Wx a ta) (hb : DE X Wx b tb) (hm : behindInMarks op b = false) : DT X Wx (.Compare a [op] [b] pos) (tOf (eOp2 f ta tb)) := ⟨PT.imp (pt_cmpR ho ha.pe hb.pe hm) fun σ H Q ⟨Z, g, ps, Hf, S, q⟩ => by
  refine giveE ha S q.bind.bind fun w1 g1 x H1 Hf1 q1 s1 S1 => ?_
  refine giveE hb S1 q1.bind fun w2 g2 y H2 Hf2 q2 s2 S2 => ?_
  have q2' := q2
  cases e2 : rd g2 w1 with
  | none => rw [e2] at q2'; exact q2'.elim
  | some d =>
    cases e3 : rd g2 w2 with
    | none => rw [e2, e3] at q2'; exact q2'.elim
    | some d' =>
      rw [e2, e3] at q2'
      have m1 : (x, w1) ∈ (ps ++ [(x, w1)]) ++ [(y, w2)] := List.mem_append_left _ mem_last
      cases e4 : f d d' with
      | none => simp only [Option.bind_some, e4] at q2'; exact q2'.elim
      | some c =>
        simp only [Option.bind_some, e4] at q2'
        refine hf H2 Hf2 x y d d' c _ S2.frz (S2.rd m1 e2) (S2.rd mem_last e3) e4 fun z H3 Hf3 G => ?_
        have q3 : GEnd X Wx Z σ (TPo X Z σ ps Hf Q) (match rd g2 (.v c) with | some (.bool b) => .ok b g2 | _ => .no) := q2'
        rw [List.append_assoc] at S2
        have S3 := S2.drop.grow G
        cases e5 : rd g2 (.v c) with
        | none => rw [e5] at q3; exact q3.elim
        | some d2 =>
          rw [e5] at q3
          have r := S3.rd mem_last e5
          cases d2 with
          | bool b => exact ⟨b, rdb_bool r, q3 H3 Hf3 ((s1.trans s2).trans G.hf) S3.drop⟩
          | _ => exact q3.elim⟩
def tNo (t : Gm → Res Bool) (g : Gm) : Res Bool := (t g).bind fun b g1 => .ok (!b) g1
theorem dt_not {a : Expr} {t : Gm → Res Bool} {pos : Pos} (ha : DT X Wx a t) : DT X Wx (.UnaryOp .Not a pos) (tNo t) := ⟨PT.imp (pt_not ha.pt) fun σ H Q ⟨Z, g, ps, Hf, S, q⟩ => by
  refine giveT ha S q.bind fun b g1 H1 Hf1 q1 s1 S1 => ?_
  exact q1 H1 Hf1 s1 S1⟩
def tAn (t u : Gm → Res Bool) (g : Gm) : Res Bool := (t g).bind fun b g1 => if b = true then u g1 else .ok false g1
def tOr' (t u : Gm → Res Bool) (g : Gm) : Res Bool := (t g).bind fun b g1 => if b = true then .ok true g1 else u g1
theorem dw_one {op} {a : Expr} {t : Gm → Res Bool} {pos : Pos} (ha : DT X Wx a t) (h : ∀ {T : TT}, PT X a T → PW X (.BoolOp op [a] pos) T) : DW X Wx (.BoolOp op [a] pos) t := ⟨h ha.pt⟩
theorem dw_and1 {a : Expr} {t : Gm → Res Bool} {pos : Pos} (ha : DT X Wx a t) : DW X Wx (.BoolOp .And [a] pos) t := ⟨pw_and1 ha.pt⟩
theorem dw_or1 {a : Expr} {t : Gm → Res Bool} {pos : Pos} (ha : DT X Wx a t) : DW X Wx (.BoolOp .Or [a] pos) t := ⟨pw_or1 ha.pt⟩
theorem dw_and {a b : Expr} {rest : List Expr} {t u : Gm → Res Bool} {pos : Pos} (ha : DT X Wx a t) (hb : DW X Wx (.BoolOp .And (b :: rest) pos) u) : DW X Wx (.BoolOp .And (a :: b :: rest) pos) (tAn t u) := ⟨PW.imp (pw_and ha.pt hb.pw) fun σ H Q ⟨Z, g, ps, Hf, S, q⟩ => by
  refine giveT ha S q.bind fun c g1 H1 Hf1 q1 s1 S1 => ?_
  cases c with
  | true =>
    rw [if_pos rfl] at q1 ⊢
    exact ⟨Z, g1, ps, Hf1, S1, q1.mono fun b g q => q.mono s1⟩
  | false =>
    rw [if_neg Bool.false_ne_true] at q1 ⊢
    exact q1 H1 Hf1 s1 S1⟩
theorem dw_or {a b : Expr} {rest : List Expr} {t u : Gm → Res Bool} {pos : Pos} (ha : DT X Wx a t) (hb : DW X Wx (.BoolOp .Or (b :: rest) pos) u) : DW X Wx (.BoolOp .Or (a :: b :: rest) pos) (tOr' t u) := ⟨PW.imp (pw_or ha.pt hb.pw) fun σ H Q ⟨Z, g, ps, Hf, S, q⟩ => by
  refine giveT ha S q.bind fun c g1 H1 Hf1 q1 s1 S1 => ?_
  cases c with
  | false =>
    rw [if_neg Bool.false_ne_true] at q1 ⊢
    exact ⟨Z, g1, ps, Hf1, S1, q1.mono fun b g q => q.mono s1⟩
  | true =>
    rw [if_pos rfl] at q1 ⊢
    exact q1 H1 Hf1 s1 S1⟩
theorem dt_w {e : Expr} {t : Gm → Res Bool} (h : DW X Wx e t) : DT X Wx e t := ⟨h.pw.pt⟩

/-! ### and, or, not, if-else as values -/
def eOfT (t : Gm → Res Bool) (g : Gm) : Res W := (t g).bind fun b g1 => .ok (.v (.im (.bool b))) g1
def bE (ta : Gm → Res W) (k : Bool → Gm → Res W) (g : Gm) : Res W := (ta g).bind fun w g1 => match rd g1 w with
  | some (.bool b) => k b g1
  | _ => .no
def eAnd (ta tb : Gm → Res W) : Gm → Res W := bE ta fun b g => if b = true then tb g else .ok (.v (.im (.bool false))) g
def eOr (ta tb : Gm → Res W) : Gm → Res W := bE ta fun b g => if b = true then .ok (.v (.im (.bool true))) g else tb g
def eNot (ta : Gm → Res W) : Gm → Res W := bE ta fun b g => .ok (.v (.im (.bool !b))) g
theorem giveB {e : Expr} {ta : Gm → Res W} {k : Bool → Gm → Res W} (he : DE X Wx e ta) {Q Q' : VK} (S : Stx X.K Z g σ ps H Hf) (h : GEnd X Wx Z σ (RP X Z σ ps Hf Q) (bE ta k g))
    (hk : ∀ b g' H' Hf', GEnd X Wx Z σ (RP X Z σ ps Hf Q) (k b g') → Same Hf Hf' → Stx X.K Z g' σ ps H' Hf' → Q' (.bl b) H') : ∃ Z g ps Hf, Stx X.K Z g σ ps H Hf ∧ GEnd X Wx Z σ (RP X Z σ ps Hf Q') (ta g) := by
  refine giveE he S h.bind fun w g1 x H1 Hf1 q1 s1 S1 => ?_
  cases e1 : rd g1 w with
  | none => rw [e1] at q1; exact q1.elim
  | some d =>
    rw [e1] at q1
    have r := S1.rd mem_last e1
    cases d with
    | bool b => rw [rdb_bool r]; exact hk b g1 H1 Hf1 q1 s1 S1.drop
    | _ => exact q1.elim
theorem de_and1 {op} {a : Expr} {ta : Gm → Res W} {pos : Pos} (ha : DE X Wx a ta) : DE X Wx (.BoolOp op [a] pos) ta := ⟨pe_one ha.pe⟩
theorem de_and {a b : Expr} {rest : List Expr} {ta tb : Gm → Res W} {pos : Pos} (ha : DE X Wx a ta) (hb : DE X Wx (.BoolOp .And (b :: rest) pos) tb) : DE X Wx (.BoolOp .And (a :: b :: rest) pos) (eAnd ta tb) := ⟨PE.imp (pe_and ha.pe hb.pe) fun σ H Q ⟨Z, g, ps, Hf, S, q⟩ => by
  refine giveB ha S q fun b g1 H1 Hf1 q1 s1 S1 => ⟨b, rfl, ?_⟩
  cases b with
  | true =>
    rw [if_pos rfl] at q1 ⊢
    exact ⟨Z, g1, ps, Hf1, S1, q1.mono fun b g q => q.mono s1⟩
  | false =>
    rw [if_neg Bool.false_ne_true] at q1 ⊢
    exact q1 (.bl false) H1 Hf1 s1 (S1.pushIm (.bl false))⟩
theorem de_or {a b : Expr} {rest : List Expr} {ta tb : Gm → Res W} {pos : Pos} (ha : DE X Wx a ta) (hb : DE X Wx (.BoolOp .Or (b :: rest) pos) tb) : DE X Wx (.BoolOp .Or (a :: b :: rest) pos) (eOr ta tb) := ⟨PE.imp (pe_or ha.pe hb.pe) fun σ H Q ⟨Z, g, ps, Hf, S, q⟩ => by
  refine giveB ha S q fun b g1 H1 Hf1 q1 s1 S1 => ⟨b, rfl, ?_⟩
  cases b with
  | false =>
    rw [if_neg Bool.false_ne_true] at q1 ⊢
    exact ⟨Z, g1, ps, Hf1, S1, q1.mono fun b g q => q.mono s1⟩
  | true =>
    rw [if_pos rfl] at q1 ⊢
    exact q1 (.bl true) H1 Hf1 s1 (S1.pushIm (.bl true))⟩
theorem de_not {a : Expr} {ta : Gm → Res W} {pos : Pos} (ha : DE X Wx a ta) : DE X Wx (.UnaryOp .Not a pos) (eNot ta) := ⟨PE.imp (pe_not ha.pe) fun σ H Q ⟨Z, g, ps, Hf, S, q⟩ => by
  refine giveB ha S q fun b g1 H1 Hf1 q1 s1 S1 => ⟨b, rfl, ?_⟩
  exact q1 (.bl !b) H1 Hf1 s1 (S1.pushIm (.bl !b))⟩
def eIf (t : Gm → Res Bool) (ta tb : Gm → Res W) (g : Gm) : Res W := (t g).bind fun b g1 => if b = true then ta g1 else tb g1
theorem de_if {c a b : Expr} {t : Gm → Res Bool} {ta tb : Gm → Res W} {pos : Pos} (hc : DT X Wx c t) (ha : DE X Wx a ta) (hb : DE X Wx b tb) : DE X Wx (.IfExp c a b pos) (eIf t ta tb) := ⟨PE.imp (pe_ifExp hc.pt ha.pe hb.pe) fun σ H Q ⟨Z, g, ps, Hf, S, q⟩ => by
  refine giveT hc S q.bind fun c g1 H1 Hf1 q1 s1 S1 => ?_
  cases c with
  | true =>
    rw [if_pos rfl] at q1 ⊢
    exact ⟨Z, g1, ps, Hf1, S1, q1.mono fun b g q => q.mono s1⟩
  | false =>
    rw [if_neg Bool.false_ne_true] at q1 ⊢
    exact ⟨Z, g1, ps, Hf1, S1, q1.mono fun b g q => q.mono s1⟩⟩

/-! ### statements -/
def sNext (g : Gm) : SR := .nx g
def SR.then (r : SR) (u : Gm → SR) : SR := match r with
  | .nx g => u g
  | r => r
def sSeq (t u : Gm → SR) (g : Gm) : SR := (t g).then u
theorem dss_nil : DSs X Wx [] sNext := ⟨PSs.imp pss_nil fun D σ H ⟨Z, g, Hf, S, q⟩ => q σ H Hf (Same.refl _) S⟩
theorem SEnd.then {D : Ends} {r : SR} {u : Gm → SR} (h : SEnd X Wx Z Hf D (r.then u)) : SEnd X Wx Z Hf { D with nx := fun σ H => ∃ Z g Hf, Stx X.K Z g σ [] H Hf ∧ SEnd X Wx Z Hf D (u g) } r := by
  cases r with
  | nx g => exact fun σ H' Hf' s S => ⟨Z, g, Hf', S, SEnd.mono (r := u g) h s⟩
  | rt b g => exact h
  | bk g => exact h
  | ct g => exact h
  | ex e g => exact h
  | no => exact h
theorem dss_cons {st : Stmt} {rest : List Stmt} {t u : Gm → SR} (h1 : DS X Wx st t) (h2 : DSs X Wx rest u) : DSs X Wx (st :: rest) (sSeq t u) := ⟨PSs.imp (pss_cons h1.ps h2.ps) fun D σ H ⟨Z, g, Hf, S, q⟩ => ⟨Z, g, Hf, S, q.then⟩⟩
theorem dss_one {st : Stmt} {t : Gm → SR} (h1 : DS X Wx st t) : DSs X Wx [st] t := ⟨PSs.imp (pss_one h1.ps) fun D σ H h => h⟩
def sPass (g : Gm) : SR := .nx g
theorem ds_pass {pos : Pos} : DS X Wx (.Pass pos) sPass := ⟨PS.imp ps_pass fun D σ H ⟨Z, g, Hf, S, q⟩ => q σ H Hf (Same.refl _) S⟩
def sBreak (g : Gm) : SR := .bk g
def sCont (g : Gm) : SR := .ct g
theorem ds_break {pos : Pos} : DS X Wx (.Break pos) sBreak := ⟨PS.imp ps_break fun D σ H ⟨Z, g, Hf, S, q⟩ => q σ H Hf (Same.refl _) S⟩
theorem ds_cont {pos : Pos} : DS X Wx (.Continue pos) sCont := ⟨PS.imp ps_continue fun D σ H ⟨Z, g, Hf, S, q⟩ => q σ H Hf (Same.refl _) S⟩
/-- what is never reached -/
def sNo (g : Gm) : SR := .no
theorem ds_no {st : Stmt} : DS X Wx st sNo := ⟨PS.imp ps_never fun D σ H ⟨Z, g, Hf, S, q⟩ => q⟩
theorem giveES {e : Expr} {ta : Gm → Res W} {k : W → Gm → SR} {D : Ends} (he : DE X Wx e ta) {Q : VK} (S : Stx X.K Z g σ [] H Hf) (h : SEnd X Wx Z Hf D ((ta g).bindS k))
    (hk : ∀ w g' x H' Hf', SEnd X Wx Z Hf' D (k w g') → Stx X.K Z g' σ ([] ++ [(x, w)]) H' Hf' → Q x H') : ∃ Z g ps Hf, Stx X.K Z g σ ps H Hf ∧ GEnd X Wx Z σ (RP X Z σ ps Hf Q) (ta g) :=
  giveE he S h.bindS fun w g' x H' Hf' q s S' => hk w g' x H' Hf' (q.mono s) S'
def stor (i : Nat) (w : W) (g : Gm) : SR := match settle g [w] with
  | some ([b], g2) => if (noIo g2[i]? && noIo (some b)) = true then .nx (g2.set i b) else .no
  | _ => .no
def sSet (i : Nat) (ta : Gm → Res W) (g : Gm) : SR := (ta g).bindS (stor i)
theorem stor_end {D : Ends} {i : Nat} {w : W} {y : V} (S : Stx X.K Z g σ ([] ++ [(y, w)]) H Hf) (q : SEnd X Wx Z Hf D (stor i w g)) : D.nx (σ.set i (some y)) H := by
  unfold stor at q
  cases e : DL.settle g [w] with
  | none => rw [e] at q; exact q.elim
  | some r =>
    obtain ⟨bs, g2⟩ := r
    rw [e] at q
    obtain ⟨Hf', s, l2, S2⟩ := Stx.settle (xs := [y]) (qs := []) (fun _ _ m => by simp at m) rfl S e
    match bs, l2, S2, q with
    | [b], _, S2, q =>
      have q' : SEnd X Wx Z Hf D (if (noIo g2[i]? && noIo (some b)) = true then .nx (g2.set i b) else .no) := q
      by_cases c : (noIo g2[i]? && noIo (some b)) = true
      · rw [if_pos c] at q'
        simp only [Bool.and_eq_true] at c
        exact q' _ H Hf' s (Stx.store (ps := []) S2 c.1 (fun _ _ m => by simp at m))
      · rw [if_neg c] at q'; exact q'.elim
theorem ds_set {i : Nat} {x : Str} {e : Expr} {ta : Gm → Res W} {pos pos' : Pos} (hN : X.N.Nodup) (hi : X.N[i]? = some x) (hx : Loc X.env.scope x) (he : DE X Wx e ta) (hs : swapsWith e (some (.Name x pos')) pos.line X.env = pure false := by rfl) (hf : X.fn x = true ∨ X.env.scope.names.lookup x = some .local := by first | exact .inl rfl | exact .inr rfl | assumption) :
    DS X Wx (.Assign [.Name x pos'] e pos) (sSet i ta) := ⟨PS.imp (ps_set hN hi hx he.pe hs hf) fun D σ H ⟨Z, g, Hf, S, q⟩ => by
  refine giveES he S q fun w g1 y H1 Hf1 q1 S1 => ?_
  exact stor_end S1 q1⟩
def sRet (ta : Gm → Res W) (g : Gm) : SR := (ta g).bindS fun w g1 => match w with
  | .v b => .rt b g1
  | .s j => match g1[j]? with
    | some (.im d) => .rt (.im d) g1
    | some (.mu l) => .rt (.mu l) (g1.set j .un)
    | _ => .no
theorem ds_ret {e : Expr} {ta : Gm → Res W} {pos : Pos} (he : DE X Wx e ta) : DS X Wx (.Return (some e) pos) (sRet ta) := ⟨PS.imp (ps_ret he.pe) fun D σ H ⟨Z, g, Hf, S, q⟩ => by
  refine giveES he S q fun w g1 y H1 Hf1 q1 S1 => ?_
  cases w with
  | v b => exact q1 y σ H1 Hf1 (Same.refl _) S1
  | s j =>
    have hs := S1.als y j mem_last
    have q1' : SEnd X Wx Z Hf1 D (match g1[j]? with | some (.im d) => .rt (.im d) g1 | some (.mu l) => .rt (.mu l) (g1.set j .un) | _ => .no) := q1
    cases e : g1[j]? with
    | none => rw [e] at q1'; exact q1'.elim
    | some b =>
      rw [e] at q1'
      cases b with
      | un => exact q1'.elim
      | ob => exact q1'.elim
      | io l => exact q1'.elim
      | im d =>
        obtain ⟨z, e1, e2⟩ := S1.rel _ (S1.slot hs e)
        cases e1
        exact q1' y σ H1 Hf1 (Same.refl _) (S1.drop.pushIm e2)
      | mu l => exact q1' y σ H1 Hf1 (Same.refl _) (Stx.moveOut (ps := []) S1 e)⟩
def sRetN (g : Gm) : SR := .rt (.im .none) g
theorem ds_retN {pos : Pos} : DS X Wx (.Return none pos) sRetN := ⟨PS.imp ps_retN fun D σ H ⟨Z, g, Hf, S, q⟩ => q .non σ H Hf (Same.refl _) (Stx.pushIm (ps := []) S .non)⟩
def sExpr (ta : Gm → Res W) (g : Gm) : SR := (ta g).bindS fun _ g1 => .nx g1
theorem ds_expr {e : Expr} {ta : Gm → Res W} {pos : Pos} (he : DE X Wx e ta) (hs : swapsWith e none pos.line X.env = pure false := by rfl) : DS X Wx (.Expr e pos) (sExpr ta) := ⟨PS.imp (ps_expr he.pe hs) fun D σ H ⟨Z, g, Hf, S, q⟩ => by
  refine giveES he S q fun w g1 y H1 Hf1 q1 S1 => ?_
  exact q1 σ H1 Hf1 (Same.refl _) (Stx.drop (ps := []) S1)⟩
def sIf (c : Gm → Res Bool) (t u : Gm → SR) (g : Gm) : SR := (c g).bindS fun b g1 => if b = true then t g1 else u g1
theorem ds_if {c : Expr} {a b : List Stmt} {tc : Gm → Res Bool} {t u : Gm → SR} {pos : Pos} (hc : DT X Wx c tc) (ha : DSs X Wx a t) (hb : DSs X Wx b u) : DS X Wx (.If c a b pos) (sIf tc t u) := ⟨PS.imp (ps_if hc.pt ha.ps hb.ps) fun D σ H ⟨Z, g, Hf, S, q⟩ => by
  refine giveT hc S q.bindS fun b g1 H1 Hf1 q1 s1 S1 => ?_
  have q2 := q1.mono s1
  cases b with
  | true => rw [if_pos rfl] at q2 ⊢; exact ⟨Z, g1, Hf1, S1, q2⟩
  | false => rw [if_neg Bool.false_ne_true] at q2 ⊢; exact ⟨Z, g1, Hf1, S1, q2⟩⟩
def sWhile (c : Gm → Res Bool) (t : Gm → SR) : Nat → Gm → SR
  | 0, _ => .no
  | n + 1, g => (c g).bindS fun b g1 => if b = true then (match t g1 with
    | .nx g2 => sWhile c t n g2
    | .ct g2 => sWhile c t n g2
    | .bk g2 => .nx g2
    | r => r) else .nx g1
theorem ds_while {c : Expr} {body : List Stmt} {tc : Gm → Res Bool} {t : Gm → SR} {pos : Pos} {n : Nat} (hp : PassesOwn (model X.prog X.w) X.A X.env X.xe) (hc : DT X Wx c tc) (hb : DSs X Wx body t) : DS X Wx (.While c body [] pos) (sWhile tc t n) := ⟨PS.imp (ps_while hp hc.pt hb.ps) fun D σ H ⟨Z, g, Hf, S, q⟩ => by
  refine ⟨fun m σ H => ∃ g Hf, Stx X.K Z g σ [] H Hf ∧ SEnd X Wx Z Hf D (sWhile tc t m g), ⟨n, g, Hf, S, q⟩, fun m σ H ⟨g, Hf, S, q⟩ => ?_⟩
  cases m with
  | zero => exact q.elim
  | succ m =>
    refine giveT hc S (SEnd.bindS (σ := σ) q) fun b g1 H1 Hf1 q1 s1 S1 => ?_
    have q2 := q1.mono s1
    cases b with
    | false => rw [if_neg Bool.false_ne_true] at q2 ⊢; exact q2 σ H1 Hf1 (Same.refl _) S1
    | true =>
      rw [if_pos rfl] at q2 ⊢
      refine ⟨fun σ' H' => ∃ g' Hf', Stx X.K Z g' σ' [] H' Hf' ∧ SEnd X Wx Z Hf' D (sWhile tc t m g'), fun σ' H' h => ⟨m, Nat.lt_succ_self _, h⟩, Z, g1, Hf1, S1, ?_⟩
      cases e : t g1 with
      | nx g2 => rw [e] at q2; exact fun σ' H' Hf' s' S' => ⟨g2, Hf', S', SEnd.mono (r := sWhile tc t m g2) q2 s'⟩
      | ct g2 => rw [e] at q2; exact fun σ' H' Hf' s' S' => ⟨g2, Hf', S', SEnd.mono (r := sWhile tc t m g2) q2 s'⟩
      | bk g2 => rw [e] at q2; exact q2
      | rt b g2 => rw [e] at q2; exact q2
      | ex e2 g2 => rw [e] at q2; exact q2
      | no => rw [e] at q2; exact q2⟩
end
end DL
/-! ## DLe.lean -/
set_option Elab.async false
set_option linter.all false
set_option maxRecDepth 100000
set_option maxHeartbeats 4000000
namespace DL
open PySem L2

section
variable {X : Cx} {Wx : WX} {K : PySem.W.Frag} {Z : Zs} {g g' : Gm} {σ σ' : L2.St} {ps ps' qs : List (V × W)} {H H' Hf Hf' : Hp} {x : V} {d : D} {l : List D} {i : Nat} {α β : Type}

/-! ### a list in a slot is changed -/
def lstOf : Option B → Option (List D)
  | some (.mu l) => some l
  | some (.io l) => some l
  | _ => none
/-- the slot's list becomes l' -/
def put' (g : Gm) (i : Nat) (l' : List D) : Gm := match g[i]? with
  | some (.mu _) => g.set i (.mu l')
  | some (.io _) => g.set i (.io l')
  | _ => g
theorem Stx.lst (S : Stx K Z g σ ps H Hf) (h : lstOf g[i]? = some l) : ∃ a xs, σ[i]? = some (some (.ref a)) ∧ H a = some (.lst xs) ∧ DpAll K Hf xs l := by
  cases e : g[i]? with
  | none => rw [e] at h; simp [lstOf] at h
  | some b =>
    rw [e] at h
    obtain ⟨v, hv⟩ := sl_get S.len e
    have r := S.rel _ (S.slot hv e)
    cases b with
    | un => simp [lstOf] at h
    | ob => simp [lstOf] at h
    | im d => simp [lstOf] at h
    | mu l' =>
      simp [lstOf] at h; subst h
      obtain ⟨a, xs, e1, _, _, e4, e5⟩ := r
      dsimp only at e1; subst e1
      exact ⟨a, xs, hv, e4, e5⟩
    | io l' =>
      simp [lstOf] at h; subst h
      obtain ⟨a, xs, e1, _, _, e4, e5⟩ := r
      dsimp only at e1; subst e1
      exact ⟨a, xs, hv, e4, e5⟩
theorem Stx.put (S : Stx K Z g σ ps H Hf) {l' : List D} {a : Addr} {xs' : List V} (h : lstOf g[i]? = some l) (hv : σ[i]? = some (some (.ref a))) (h' : DpAll K Hf xs' l') : Stx K Z (put' g i l') σ ps (upd H a (.lst xs')) Hf := by
  cases e : g[i]? with
  | none => rw [e] at h; simp [lstOf] at h
  | some b =>
    rw [e] at h
    unfold put'
    rw [e]
    cases b with
    | un => simp [lstOf] at h
    | ob => simp [lstOf] at h
    | im d => simp [lstOf] at h
    | mu l' => exact S.write e hv h'
    | io l' => exact S.writeIo e hv h'
/-- xs.append(e), xs in the slot i -/
def eAppend (i : Nat) (ta : Gm → Res W) (g : Gm) : Res W := match lstOf g[i]? with
  | none => .no
  | some _ => (ta g).bind fun w g1 => match esc g1 w with
    | none => .no
    | some (d, g2) => match lstOf g2[i]? with
      | none => .no
      | some l => if small l.length = true then .ok (.v (.im .none)) (put' g2 i (l ++ [d])) else .no
theorem de_append {o e : Expr} {ta : Gm → Res W} {apos cpos : Pos} (hi : PE X o (tVar i)) (ha : DE X Wx e ta)
    (h : ∀ {TA : TE}, PE X e TA → PE X (.Call (.Attribute o "append" apos) [e] [] cpos) (tBM X.K "list" rAppend (tVar i) (tCons TA tNil))) : DE X Wx (.Call (.Attribute o "append" apos) [e] [] cpos) (eAppend i ta) := ⟨PE.imp (h ha.pe) fun σ H Q ⟨Z, g, ps, Hf, S, q⟩ => by
  unfold eAppend at q
  cases e0 : lstOf g[i]? with
  | none => rw [e0] at q; exact q.elim
  | some l0 =>
    rw [e0] at q
    obtain ⟨a, xs, hv, ha', _⟩ := S.lst e0
    refine ⟨_, hv, Or.inl ⟨rfl, xs, Or.inl (Or.inl ha')⟩, ?_⟩
    have q' : GEnd X Wx Z σ (RP X Z σ ps Hf Q) ((ta g).bind fun w g1 => match esc g1 w with
      | none => .no
      | some (d, g2) => match lstOf g2[i]? with
        | none => .no
        | some l => if small l.length = true then .ok (.v (.im .none)) (put' g2 i (l ++ [d])) else .no) := q
    refine giveE ha S q'.bind fun w g1 y H1 Hf1 q1 s1 S1 => ?_
    cases e1 : esc g1 w with
    | none => rw [e1] at q1; exact q1.elim
    | some r =>
      obtain ⟨d, g2⟩ := r
      rw [e1] at q1
      obtain ⟨Hf2, s2, hd, S2⟩ := S1.esc e1
      have q2 : GEnd X Wx Z σ (RP X Z σ ps Hf Q) (match lstOf g2[i]? with
        | none => .no
        | some l => if small l.length = true then .ok (.v (.im .none)) (put' g2 i (l ++ [d])) else .no) := q1
      cases e2 : lstOf g2[i]? with
      | none => rw [e2] at q2; exact q2.elim
      | some l =>
        rw [e2] at q2
        have q3 : GEnd X Wx Z σ (RP X Z σ ps Hf Q) (if small l.length = true then .ok (.v (.im .none)) (put' g2 i (l ++ [d])) else .no) := q2
        obtain ⟨a2, xs2, hv2, ha2, hl2⟩ := S2.lst e2
        have ea : a2 = a := by
          rw [hv] at hv2; cases hv2; rfl
        subst ea
        by_cases c : small l.length = true
        · rw [if_pos c] at q3
          refine ⟨a2, xs2, y, rfl, rfl, ha2, by rw [dpa_len hl2]; exact small_lt c, ?_⟩
          have S3 := S2.drop.put e2 hv (dpa_append hl2 (.cons hd .nil))
          exact q3 .non _ Hf2 (s1.trans s2) (S3.pushIm .non)
        · rw [if_neg c] at q3; exact q3.elim⟩
/-- xs.pop() -/
def ePop (i : Nat) (g : Gm) : Res W := match lstOf g[i]? with
  | none => .no
  | some l => match l[l.length - 1]? with
    | none => .no
    | some d => .ok (.v (.im d)) (put' g i l.dropLast)
theorem dpa_dropLast {K : PySem.W.Frag} {H : Hp} {vs : List V} {ds : List D} (h : DpAll K H vs ds) : DpAll K H vs.dropLast ds.dropLast := by
  rw [List.dropLast_eq_take, List.dropLast_eq_take, dpa_len h]
  exact dpa_take _ h
theorem de_pop {o : Expr} {apos cpos : Pos} (h : PE X (.Call (.Attribute o "pop" apos) [] [] cpos) (tBM0 X.K "list" rPop (tVar i))) : DE X Wx (.Call (.Attribute o "pop" apos) [] [] cpos) (ePop i) := ⟨PE.imp h fun σ H Q ⟨Z, g, ps, Hf, S, q⟩ => by
  unfold ePop at q
  cases e0 : lstOf g[i]? with
  | none => rw [e0] at q; exact q.elim
  | some l =>
    rw [e0] at q
    have q' : GEnd X Wx Z σ (RP X Z σ ps Hf Q) (match l[l.length - 1]? with
      | none => .no
      | some d => .ok (.v (.im d)) (put' g i l.dropLast)) := q
    obtain ⟨a, xs, hv, ha', hl⟩ := S.lst e0
    cases e1 : l[l.length - 1]? with
    | none => rw [e1] at q'; exact q'.elim
    | some d =>
      rw [e1] at q'
      obtain ⟨y, hy, hd⟩ := dpa_get hl e1
      refine ⟨_, hv, Or.inl ⟨rfl, xs, Or.inl (Or.inl ha')⟩, a, xs, y, rfl, rfl, ha', by rw [dpa_len hl]; exact hy, ?_⟩
      exact q' y _ Hf (Same.refl _) ((S.put e0 hv (dpa_dropLast hl)).pushIm hd)⟩

/-! ### targets: names -/
/-- a name, or a tuple of names (in tuples): every slot gets its data -/
inductive Tg where
  | nm (i : Nat)
  | tp (ts : List Tg)
mutual
def Tg.put : Tg → D → Gm → Option Gm
  | .nm i, d, g => if noIo g[i]? = true then some (g.set i (.im d)) else none
  | .tp ts, d, g => match d with
    | .tuple ds => if ds.length = ts.length then Tg.putAll ts ds g else none
    | _ => none
def Tg.putAll : List Tg → List D → Gm → Option Gm
  | [], _, g => some g
  | t :: ts, d :: ds, g => (Tg.put t d g).bind fun g1 => Tg.putAll ts ds g1
  | _ :: _, [], _ => none
end
mutual
def Tg.slots : Tg → List Nat
  | .nm i => [i]
  | .tp ts => Tg.slotsAll ts
def Tg.slotsAll : List Tg → List Nat
  | [] => []
  | t :: ts => Tg.slots t ++ Tg.slotsAll ts
end
def NoAl (ps : List (V × W)) : Prop := ∀ y j, (y, W.s j) ∉ ps
structure DG (X : Cx) (tg : Expr) (t : Tg) : Prop where
  pg : PG X tg (fun v σ H Q => ∃ Z g ps Hf d g', Stx X.K Z g σ ps H Hf ∧ NoAl ps ∧ Dp X.K Hf v d ∧ t.put d g = some g' ∧ ∀ σ', Stx X.K Z g' σ' ps H Hf → (∀ j, j ∉ t.slots → σ'[j]? = σ[j]?) → Q σ' H)
structure DGs (X : Cx) (tgs : List Expr) (ts : List Tg) : Prop where
  pg : PGs X tgs (fun vs σ H Q => ∃ Z g ps Hf ds g', Stx X.K Z g σ ps H Hf ∧ NoAl ps ∧ DpAll X.K Hf vs ds ∧ ds.length = ts.length ∧ Tg.putAll ts ds g = some g' ∧ ∀ σ', Stx X.K Z g' σ' ps H Hf → (∀ j, j ∉ Tg.slotsAll ts → σ'[j]? = σ[j]?) → Q σ' H)
theorem PG.imp {X : Cx} {e : Expr} {t t' : TG} (h : PG X e t) (i : ∀ v σ H Q, t' v σ H Q → t v σ H Q) : PG X e t' := ⟨fun pins s σ H v u Q I r k => h.run pins s σ H v u Q I r (i v σ H Q k)⟩
theorem PGs.imp {X : Cx} {e : List Expr} {t t' : TGs} (h : PGs X e t) (i : ∀ v σ H Q, t' v σ H Q → t v σ H Q) : PGs X e t' := ⟨fun pins s σ H v u Q I r k => h.run pins s σ H v u Q I r (i v σ H Q k)⟩
theorem dg_nm {i : Nat} {tg : Expr} (h : PG X tg (gName i)) : DG X tg (.nm i) := ⟨PG.imp h fun v σ H Q ⟨Z, g, ps, Hf, d, g', S, na, hd, hp, k⟩ => by
  simp only [Tg.put] at hp
  by_cases c : noIo g[i]? = true
  · rw [if_pos c] at hp
    cases hp
    refine k _ ((S.pushIm hd).store c na) fun j hj => ?_
    have : i ≠ j := fun e => hj (by simp [Tg.slots, e])
    rw [List.getElem?_set_ne this]
  · rw [if_neg c] at hp; cases hp⟩
theorem dgs_nil : DGs X [] [] := ⟨PGs.imp pgs_nil fun v σ H Q ⟨Z, g, ps, Hf, ds, g', S, na, hd, hl, hp, k⟩ => by
  cases ds with
  | nil =>
    cases hd
    simp [Tg.putAll] at hp
    subst hp
    exact ⟨rfl, k σ S fun j _ => rfl⟩
  | cons d ds => simp at hl⟩
theorem dgs_cons {e : Expr} {es : List Expr} {t : Tg} {ts : List Tg} (h1 : DG X e t) (h2 : DGs X es ts) (h : ∀ {T : TG} {U : TGs}, PG X e T → PGs X es U → PGs X (e :: es) (gCons T U)) : DGs X (e :: es) (t :: ts) := ⟨PGs.imp (h h1.pg h2.pg) fun v σ H Q ⟨Z, g, ps, Hf, ds, g', S, na, hd, hl, hp, k⟩ => by
  cases ds with
  | nil => simp at hl
  | cons d ds =>
    cases hd with
    | cons hd1 hd2 =>
      simp only [Tg.putAll, Option.bind_eq_some_iff] at hp
      obtain ⟨g1, hp1, hp2⟩ := hp
      refine ⟨_, _, rfl, Z, g, ps, Hf, d, g1, S, na, hd1, hp1, fun σ1 S1 e1 => ?_⟩
      refine ⟨Z, g1, ps, Hf, ds, g', S1, na, hd2, by simpa using hl, hp2, fun σ2 S2 e2 => k σ2 S2 fun j hj => ?_⟩
      simp only [Tg.slotsAll, List.mem_append, not_or] at hj
      rw [e2 j hj.2, e1 j hj.1]⟩
theorem dg_tup {es : List Expr} {k : Nat} {pos : Pos} {ts : List Tg} {n : Nat} (hc : X.calm = true) (h : DGs X es ts) (hn : ts.length = n)
    (ht : ∀ {U : TGs}, PGs X es U → PG X (.Tuple es k pos) (gTup X.K n U)) : DG X (.Tuple es k pos) (.tp ts) := ⟨PG.imp (ht h.pg) fun v σ H Q ⟨Z, g, ps, Hf, d, g', S, na, hd, hp, k⟩ => by
  cases d with
  | tuple ds =>
    simp only [Tg.put] at hp
    by_cases c : ds.length = ts.length
    · rw [if_pos c] at hp
      cases hd with
      | tup hs hl =>
        refine ⟨_, _, rfl, ?_, by rw [dpa_len hl, c, hn], Z, g, ps, Hf, ds, g', S, na, hl, c, hp, fun σ' S' e' => k σ' S' e'⟩
        rcases hs with (h | ⟨o, h⟩) | h
        · exact .inl (.inl (S.frz _ _ h))
        · exact .inl (.inr ⟨o, S.frz _ _ h⟩)
        · exact .inr h
    · rw [if_neg c] at hp; cases hp
  | _ => simp [Tg.put] at hp⟩
end
end DL
/-! ## DLf.lean -/
set_option Elab.async false
set_option linter.all false
set_option maxRecDepth 100000
set_option maxHeartbeats 4000000
namespace DL
open PySem L2

section
variable {X : Cx} {Wx : WX} {K : PySem.W.Frag} {Z : Zs} {g g' : Gm} {σ σ' : L2.St} {ps ps' qs : List (V × W)} {H H' Hf Hf' : Hp} {x : V} {d : D} {l : List D} {i : Nat} {α β : Type}

/-! ### what a for walks -/
/-- J yields ds, whatever frozen things stand more -/
structure ItD (K : PySem.W.Frag) (Hf : Hp) (J : It) (ds : List D) : Prop where
  go : ∀ i H2 Hf2, Same Hf Hf2 → Same Hf2 H2 → i < ds.length → J.go i H2
  stop : ∀ i H2 Hf2, Same Hf Hf2 → Same Hf2 H2 → ds.length ≤ i → J.stop i H2
  yld : ∀ i H2 Hf2 x H3 d, Same Hf Hf2 → Same Hf2 H2 → ds[i]? = some d → J.yld i H2 x H3 → ∃ Hf3, Grow K H2 Hf2 H3 Hf3 x (.im d)
theorem ItD.mono {J : It} {ds : List D} (h : ItD K Hf J ds) (e : Same Hf Hf') : ItD K Hf' J ds :=
  ⟨fun i H2 Hf2 a b c => h.go i H2 Hf2 (e.trans a) b c, fun i H2 Hf2 a b c => h.stop i H2 Hf2 (e.trans a) b c, fun i H2 Hf2 x H3 d a b c k => h.yld i H2 Hf2 x H3 d (e.trans a) b c k⟩
def IP (X : Cx) (Z : Zs) (σ : L2.St) (ps : List (V × W)) (Hf : Hp) (R : It → Hp → Prop) : List D → Gm → Prop := fun ds g' => ∀ J H' Hf', Same Hf Hf' → Stx X.K Z g' σ ps H' Hf' → ItD X.K Hf' J ds → R J H'
structure DI (X : Cx) (Wx : WX) (tg e : Expr) (t : Gm → Res (List D)) : Prop where
  pi : PI X tg e (fun σ H R => ∃ Z g ps Hf, Stx X.K Z g σ ps H Hf ∧ GEnd X Wx Z σ (IP X Z σ ps Hf R) (t g))
theorem PI.imp {X : Cx} {tg e : Expr} {t t' : TI} (h : PI X tg e t) (i : ∀ σ H R, t' σ H R → t σ H R) : PI X tg e t' := ⟨fun pins s σ H R I k => h.run pins s σ H R I (i σ H R k)⟩
theorem PI.or {X : Cx} {tg e : Expr} {t t' : TI} (h : PI X tg e t) (h' : PI X tg e t') : PI X tg e (fun σ H R => t σ H R ∨ t' σ H R) := ⟨fun pins s σ H R I k => k.elim (h.run pins s σ H R I) (h'.run pins s σ H R I)⟩
def itE (ta : Gm → Res W) (g : Gm) : Res (List D) := (ta g).bind fun w g1 => match esc g1 w with
  | some (.list ds, g2) => .ok ds g2
  | some (.tuple ds, g2) => .ok ds g2
  | _ => .no
theorem itd_list {a : Addr} {xs : List V} {ds : List D} (hs : SqL K Hf a xs) (hl : DpAll K Hf xs ds) : ItD K Hf (Itl K a) ds where
  go := fun i H2 Hf2 a1 a2 c => by
    have : i < xs.length := by rw [dpa_len hl]; exact c
    exact ⟨xs, xs[i], (a1.trans a2).seq hs, List.getElem?_eq_getElem this⟩
  stop := fun i H2 Hf2 a1 a2 c => ⟨xs, (a1.trans a2).seq hs, by rw [dpa_len hl]; exact c⟩
  yld := fun i H2 Hf2 x H3 d a1 a2 c k => by
    obtain ⟨rfl, k⟩ := k
    obtain ⟨y, hy, hd⟩ := dpa_get hl c
    have := k xs ((a1.trans a2).seq hs)
    rw [hy] at this
    cases this
    exact ⟨Hf2, Grow.same a2 (dp_mono a1 d _ hd)⟩
theorem same_t {H H' : Hp} {a : Addr} {xs : List V} (e : Same H H') (h : SqT K H a xs) : SqT K H' a xs := by
  rcases h with (h | ⟨o, h⟩) | h
  · exact .inl (.inl (e _ _ h))
  · exact .inl (.inr ⟨o, e _ _ h⟩)
  · exact .inr h
theorem itd_tup {a : Addr} {xs : List V} {ds : List D} (hs : SqT K Hf a xs) (hl : DpAll K Hf xs ds) : ItD K Hf (Itt K a) ds where
  go := fun i H2 Hf2 a1 a2 c => by
    have : i < xs.length := by rw [dpa_len hl]; exact c
    exact ⟨xs, xs[i], same_t (a1.trans a2) hs, List.getElem?_eq_getElem this⟩
  stop := fun i H2 Hf2 a1 a2 c => ⟨xs, same_t (a1.trans a2) hs, by rw [dpa_len hl]; exact c⟩
  yld := fun i H2 Hf2 x H3 d a1 a2 c k => by
    obtain ⟨rfl, k⟩ := k
    obtain ⟨y, hy, hd⟩ := dpa_get hl c
    have := k xs (same_t (a1.trans a2) hs)
    rw [hy] at this
    cases this
    exact ⟨Hf2, Grow.same a2 (dp_mono a1 d _ hd)⟩
/-- over a list or a tuple -/
theorem di_e {tg e : Expr} {ta : Gm → Res W} (he : DE X Wx e ta) : DI X Wx tg e (itE ta) := ⟨PI.imp (PI.or (pi_list he.pe) (pi_tup he.pe)) fun σ H R ⟨Z, g, ps, Hf, S, q⟩ => by
  unfold itE at q
  have q0 := q.bind
  cases er : ta g with
  | no => rw [er] at q0; exact q0.elim
  | ex e g => rw [er] at q0; exact .inl ⟨Z, _, ps, Hf, S, by rw [er]; exact q0⟩
  | ok w g1 =>
    rw [er] at q0
    have q1 : GEnd X Wx Z σ (IP X Z σ ps Hf R) (match esc g1 w with
      | some (.list ds, g2) => .ok ds g2
      | some (.tuple ds, g2) => .ok ds g2
      | _ => .no) := q0
    have known : GEnd X Wx Z σ (fun w' g' => w' = w ∧ g' = g1) (ta g) := by rw [er]; exact ⟨rfl, rfl⟩
    cases e1 : esc g1 w with
    | none => rw [e1] at q1; exact q1.elim
    | some r =>
      obtain ⟨d, g2⟩ := r
      rw [e1] at q1
      cases d with
      | list ds =>
        refine .inl (giveE he S known fun w' g1' x H1 Hf1 kn s1 S1 => ?_)
        obtain ⟨rfl, rfl⟩ := kn
        obtain ⟨Hf2, s2, hd, S2⟩ := S1.esc e1
        cases hd with
        | lst hs hl => exact ⟨_, rfl, ⟨_, S2.frz.seq hs⟩, q1 _ H1 Hf2 (s1.trans s2) S2.drop (itd_list hs hl)⟩
      | tuple ds =>
        refine .inr (giveE he S known fun w' g1' x H1 Hf1 kn s1 S1 => ?_)
        obtain ⟨rfl, rfl⟩ := kn
        obtain ⟨Hf2, s2, hd, S2⟩ := S1.esc e1
        cases hd with
        | tup hs hl => exact ⟨_, rfl, ⟨_, same_t S2.frz hs⟩, q1 _ H1 Hf2 (s1.trans s2) S2.drop (itd_tup hs hl)⟩
      | _ => exact q1.elim⟩
def rngD (a : Int) (n : Nat) : List D := (List.range n).map fun k => .int (a + ((k : Nat) : Int))
theorem rngD_len (a : Int) (n : Nat) : (rngD a n).length = n := by simp [rngD]
theorem rngD_get {a : Int} {n i : Nat} {d : D} (h : (rngD a n)[i]? = some d) : d = .int (a + (i : Nat)) := by
  unfold rngD at h
  rw [List.getElem?_map] at h
  cases e : (List.range n)[i]? with
  | none => rw [e] at h; simp at h
  | some k =>
    rw [e] at h
    simp at h
    have := List.getElem?_range (n := n) (i := i) (by
      have := (List.getElem?_eq_some_iff.mp e).1
      simpa using this)
    rw [this] at e
    cases e
    exact h.symm
theorem itd_rng {a : Int} {n : Nat} : ItD K Hf (Itr a n) (rngD a n) where
  go := fun i H2 Hf2 a1 a2 c => by rw [rngD_len] at c; exact c
  stop := fun i H2 Hf2 a1 a2 c => by rw [rngD_len] at c; exact c
  yld := fun i H2 Hf2 x H3 d a1 a2 c k => by
    obtain ⟨rfl, rfl⟩ := k
    rw [rngD_get c]
    exact ⟨Hf2, Grow.same a2 (.int _)⟩
def bd62 (j : Int) : Bool := decide (-(2 ^ 62) ≤ j) && decide (j < 2 ^ 62)
theorem bd62_of {j : Int} (h : bd62 j = true) : -(2 ^ 62) ≤ j ∧ j < 2 ^ 62 := by
  simp only [bd62, Bool.and_eq_true, decide_eq_true_eq] at h
  exact h
/-- range(..) of data -/
def rngOf : List D → Option (List D)
  | [.int j] => if bd62 j = true then some (rngD 0 j.toNat) else none
  | [.int i, .int j] => if (bd62 i && bd62 j) = true then some (rngD i (j - i).toNat) else none
  | _ => none
def itR (ta : Gm → Res (List D)) (g : Gm) : Res (List D) := (ta g).bind fun ds g1 => match rngOf ds with
  | some l => .ok l g1
  | none => .no
theorem di_range1 {tg a : Expr} {ta : Gm → Res (List D)} {p pos : Pos} (ha : DAe X Wx [a] ta) (h : ∀ {T : TA}, PA X [a] T → PI X tg (.Call (.Name "range" p) [a] [] pos) (iRng1 T)) (h1 : ∀ g ds g', ta g = .ok ds g' → ds.length = 1) : DI X Wx tg (.Call (.Name "range" p) [a] [] pos) (itR ta) := ⟨PI.imp (h ha.pa) fun σ H R ⟨Z, g, ps, Hf, S, q⟩ => by
  have kn : GEnd X Wx Z σ (fun ds g' => ds.length = 1 ∧ GEnd X Wx Z σ (IP X Z σ ps Hf R) (match rngOf ds with | some l => .ok l g' | none => .no)) (ta g) := by
    have q' := q.bind
    cases er : ta g with
    | ok ds g' => rw [er] at q'; exact ⟨h1 g ds g' er, q'⟩
    | ex e g' => rw [er] at q'; exact q'
    | no => rw [er] at q'; exact q'
  refine giveAe ha S kn fun ds g1 xs H1 Hf1 q1 s1 l S1 => ?_
  obtain ⟨hl, q1⟩ := q1
  match ds, hl, q1, l with
  | [.int j], _, q1, l =>
    cases l with
    | cons h1 h2 =>
      cases h1; cases h2
      simp only [rngOf] at q1
      by_cases c : bd62 j = true
      · rw [if_pos c] at q1
        exact ⟨j, rfl, (bd62_of c).1, (bd62_of c).2, q1 _ H1 Hf1 s1 S1 itd_rng⟩
      · rw [if_neg c] at q1; exact q1.elim
  | [.none], _, q1, _ => exact q1.elim
  | [.bool _], _, q1, _ => exact q1.elim
  | [.str _], _, q1, _ => exact q1.elim
  | [.list _], _, q1, _ => exact q1.elim
  | [.tuple _], _, q1, _ => exact q1.elim
  | [.dict _], _, q1, _ => exact q1.elim⟩
theorem di_range2 {tg a b : Expr} {ta : Gm → Res (List D)} {p pos : Pos} (ha : DAe X Wx [a, b] ta) (h : ∀ {T : TA}, PA X [a, b] T → PI X tg (.Call (.Name "range" p) [a, b] [] pos) (iRng2 T)) (h1 : ∀ g ds g', ta g = .ok ds g' → ds.length = 2) : DI X Wx tg (.Call (.Name "range" p) [a, b] [] pos) (itR ta) := ⟨PI.imp (h ha.pa) fun σ H R ⟨Z, g, ps, Hf, S, q⟩ => by
  have kn : GEnd X Wx Z σ (fun ds g' => ds.length = 2 ∧ GEnd X Wx Z σ (IP X Z σ ps Hf R) (match rngOf ds with | some l => .ok l g' | none => .no)) (ta g) := by
    have q' := q.bind
    cases er : ta g with
    | ok ds g' => rw [er] at q'; exact ⟨h1 g ds g' er, q'⟩
    | ex e g' => rw [er] at q'; exact q'
    | no => rw [er] at q'; exact q'
  refine giveAe ha S kn fun ds g1 xs H1 Hf1 q1 s1 l S1 => ?_
  obtain ⟨hl, q1⟩ := q1
  match ds, hl with
  | [d1, d2], _ =>
    have key : ∀ o, rngOf [d1, d2] = some o → ∃ i j, d1 = .int i ∧ d2 = .int j ∧ bd62 i = true ∧ bd62 j = true ∧ o = rngD i (j - i).toNat := fun o e => by
      cases d1 with
      | int i =>
        cases d2 with
        | int j =>
          simp only [rngOf] at e
          by_cases c : (bd62 i && bd62 j) = true
          · rw [if_pos c] at e
            cases e
            simp only [Bool.and_eq_true] at c
            exact ⟨i, j, rfl, rfl, c.1, c.2, rfl⟩
          · rw [if_neg c] at e; cases e
        | _ => simp [rngOf] at e
      | _ => simp [rngOf] at e
    cases e : rngOf [d1, d2] with
    | none => rw [e] at q1; exact q1.elim
    | some o =>
      rw [e] at q1
      obtain ⟨i, j, rfl, rfl, c1, c2, rfl⟩ := key o e
      cases l with
      | cons h1 h2 =>
        cases h2 with
        | cons h2 h3 =>
          cases h1; cases h2; cases h3
          exact ⟨i, j, rfl, ⟨(bd62_of c1).1, (bd62_of c1).2, (bd62_of c2).1, (bd62_of c2).2⟩, q1 _ H1 Hf1 s1 S1 itd_rng⟩⟩
theorem len1 {ta : Gm → Res W} : ∀ g ds g', aConsE ta aNilE g = .ok ds g' → ds.length = 1 := fun g ds g' e => by
  unfold aConsE at e
  cases e1 : ta g with
  | ok w g1 =>
    rw [e1] at e
    have e' : (match esc g1 w with | some (d, g2) => (aNilE g2).bind fun ds g3 => Res.ok (d :: ds) g3 | none => .no) = .ok ds g' := e
    cases e2 : esc g1 w with
    | none => rw [e2] at e'; cases e'
    | some r => obtain ⟨d, g2⟩ := r; rw [e2] at e'; cases e'; rfl
  | ex e2 g1 => rw [e1] at e; cases e
  | no => rw [e1] at e; cases e
theorem len2 {ta tb : Gm → Res W} : ∀ g ds g', aConsE ta (aConsE tb aNilE) g = .ok ds g' → ds.length = 2 := fun g ds g' e => by
  unfold aConsE at e
  cases e1 : ta g with
  | ok w g1 =>
    rw [e1] at e
    have e' : (match esc g1 w with | some (d, g2) => (aConsE tb aNilE g2).bind fun ds g3 => Res.ok (d :: ds) g3 | none => .no) = .ok ds g' := e
    cases e2 : esc g1 w with
    | none => rw [e2] at e'; cases e'
    | some r =>
      obtain ⟨d, g2⟩ := r
      rw [e2] at e'
      have e'' : ((aConsE tb aNilE g2).bind fun ds g3 => Res.ok (d :: ds) g3) = .ok ds g' := e'
      cases e3 : aConsE tb aNilE g2 with
      | ok ds2 g3 => rw [e3] at e''; cases e''; simp [len1 _ _ _ e3]
      | ex e4 g3 => rw [e3] at e''; cases e''
      | no => rw [e3] at e''; cases e''
  | ex e2 g1 => rw [e1] at e; cases e
  | no => rw [e1] at e; cases e

/-! ### for -/
def forGo (t : D → Gm → Res Unit) (b : Gm → SR) : List D → Gm → SR
  | [], g => .nx g
  | d :: ds, g => (t d g).bindS fun _ g1 => match b g1 with
    | .nx g2 => forGo t b ds g2
    | .ct g2 => forGo t b ds g2
    | .bk g2 => .nx g2
    | r => r
def sFor (it : Gm → Res (List D)) (t : D → Gm → Res Unit) (b : Gm → SR) (g : Gm) : SR := (it g).bindS fun ds g1 => forGo t b ds g1
/-- a target of a statement -/
structure DGt (X : Cx) (Wx : WX) (tg : Expr) (t : D → Gm → Res Unit) : Prop where
  pg : PG X tg (fun v σ H Q => ∃ Z g Hf d, Stx X.K Z g σ [] H Hf ∧ Dp X.K Hf v d ∧ GEnd X Wx Z σ (fun _ g' => ∀ σ' H' Hf', Same Hf Hf' → Stx X.K Z g' σ' [] H' Hf' → Q σ' H') (t d g))
def tgN (t : Tg) (d : D) (g : Gm) : Res Unit := match t.put d g with
  | some g' => .ok () g'
  | none => .no
theorem dgt_n {tg : Expr} {t : Tg} (h : DG X tg t) : DGt X Wx tg (tgN t) := ⟨PG.imp h.pg fun v σ H Q ⟨Z, g, Hf, d, S, hd, q⟩ => by
  unfold tgN at q
  cases e : t.put d g with
  | none => rw [e] at q; exact q.elim
  | some g' => rw [e] at q; exact ⟨Z, g, [], Hf, d, g', S, fun _ _ m => by simp at m, hd, e, fun σ' S' _ => q σ' H Hf (Same.refl _) S'⟩⟩
theorem ds_for {tg it : Expr} {body : List Stmt} {ti : Gm → Res (List D)} {t : D → Gm → Res Unit} {b : Gm → SR} {pos : Pos} (hp : PassesOwn (model X.prog X.w) X.A X.env X.xe) (hc : X.calm = true) (hi : DI X Wx tg it ti) (hg : DGt X Wx tg t) (hb : DSs X Wx body b)
    (hs : ∀ x, foldedSetIterable it X.env x = pure x := by intro _; rfl) : DS X Wx (.For tg it body [] pos) (sFor ti t b) := ⟨PS.imp (ps_for hp hc hi.pi hg.pg hb.ps hs) fun D σ H ⟨Z, g, Hf, S, q⟩ => by
  refine ⟨Z, g, [], Hf, S, (SEnd.bindS (σ := σ) q).mono fun ds g1 q1 J H1 Hf1 s1 S1 it1 => ?_⟩
  refine ⟨fun i m σ H => i + m = ds.length ∧ ∃ g Hf, Stx X.K Z g σ [] H Hf ∧ ItD X.K Hf J ds ∧ SEnd X Wx Z Hf D (forGo t b (ds.drop i) g), ⟨ds.length, by omega, g1, Hf1, S1, it1, q1.mono s1⟩, fun i m σ H ⟨em, g, Hf, S, it, q⟩ => ?_⟩
  by_cases c : i < ds.length
  · refine .inr ⟨it.go i H Hf (Same.refl _) S.frz c, fun σ' H' => ∃ g' Hf', Stx X.K Z g' σ' [] H' Hf' ∧ ItD X.K Hf' J ds ∧ SEnd X Wx Z Hf' D (forGo t b (ds.drop (i + 1)) g'), fun σ' H' h => ⟨m - 1, by omega, by omega, h⟩, fun x H3 hy => ?_⟩
    have ed : ds.drop i = ds[i] :: ds.drop (i + 1) := List.drop_eq_getElem_cons c
    rw [ed] at q
    obtain ⟨Hf3, G⟩ := it.yld i H Hf x H3 _ (Same.refl _) S.frz (List.getElem?_eq_getElem c) hy
    have S3 := S.step G.hh G.hf G.fh G.nw
    have q3 : SEnd X Wx Z Hf3 D ((t ds[i] g).bindS fun _ g1 => match b g1 with
      | .nx g2 => forGo t b (ds.drop (i + 1)) g2
      | .ct g2 => forGo t b (ds.drop (i + 1)) g2
      | .bk g2 => .nx g2
      | r => r) := SEnd.mono q G.hf
    refine ⟨Z, g, Hf3, ds[i], S3, G.is, (SEnd.bindS (σ := σ) q3).mono fun _ g4 q4 σ4 H4 Hf4 s4 S4 => ?_⟩
    have q5 := q4.mono s4
    refine ⟨Z, g4, Hf4, S4, ?_⟩
    have it4 := (it.mono G.hf).mono s4
    cases e : b g4 with
    | nx g5 => rw [e] at q5; exact fun σ' H' Hf' s' S' => ⟨g5, Hf', S', it4.mono s', SEnd.mono (r := forGo t b (ds.drop (i + 1)) g5) q5 s'⟩
    | ct g5 => rw [e] at q5; exact fun σ' H' Hf' s' S' => ⟨g5, Hf', S', it4.mono s', SEnd.mono (r := forGo t b (ds.drop (i + 1)) g5) q5 s'⟩
    | bk g5 => rw [e] at q5; exact q5
    | rt b5 g5 => rw [e] at q5; exact q5
    | ex e5 g5 => rw [e] at q5; exact q5
    | no => rw [e] at q5; exact q5
  · have ed : ds.drop i = [] := List.drop_of_length_le (by omega)
    rw [ed] at q
    exact .inl ⟨it.stop i H Hf (Same.refl _) S.frz (by omega), q σ H Hf (Same.refl _) S⟩⟩
end
end DL
/-! ## DLg.lean -/
set_option Elab.async false
set_option linter.all false
set_option maxRecDepth 100000
set_option maxHeartbeats 4000000
namespace DL
open PySem L2

section
variable {X : Cx} {Wx : WX} {K : PySem.W.Frag} {Z : Zs} {g g' g1 g2 : Gm} {σ σ' : L2.St} {ps ps' qs : List (V × W)} {H H' Hf Hf' H1 H2 Hf1 Hf2 : Hp} {x : V} {d : D} {l : List D} {i : Nat} {α β : Type}

/-! ### a comprehension's own slots -/
def imUn : Option B → Bool
  | some .un => true
  | some (.im _) => true
  | _ => false
def wipeG (g : Gm) : List Nat → Gm
  | [] => g
  | v :: vs => (wipeG g vs).set v .un
/-- the slots vs as they were in g1 -/
def back (g1 : Gm) : List Nat → Gm → Gm
  | [], g2 => g2
  | v :: vs, g2 => back g1 vs (g2.set v (g1.getD v .un))
def deal : V × W → V × W
  | (x, .v b) => (x, .v b)
  | (x, .s _) => (x, .v .un)
theorem root_deal (p : V × W) : root (deal p) = root p := by
  obtain ⟨x, w⟩ := p
  cases w <;> rfl
theorem map_deal (ps : List (V × W)) : (ps.map deal).map root = ps.map root := by
  rw [List.map_map]
  exact List.map_congr_left fun p _ => root_deal p
theorem noAl_deal (ps : List (V × W)) : NoAl (ps.map deal) := fun y j m => by
  obtain ⟨p, _, e⟩ := List.mem_map.mp m
  obtain ⟨x, w⟩ := p
  cases w <;> simp [deal] at e
theorem Stx.deal (S : Stx K Z g σ ps H Hf) : Stx K Z g σ (ps.map DL.deal) H Hf := by
  refine ⟨S.len, S.frz, S.out, S.old, S.new, S.iol, fun p hp => ?_, fun a => ?_, fun y j m => (noAl_deal ps y j m).elim⟩
  · unfold rts at hp
    rw [map_deal] at hp
    exact S.rel p hp
  · unfold rts
    rw [map_deal]
    exact S.nod a
theorem Stx.wipe1 (S : Stx K Z g σ ps H Hf) (na : NoAl ps) {v : Nat} (hi : imUn g[v]? = true) : Stx K Z (g.set v .un) (σ.set v none) ps H Hf := by
  obtain ⟨b0, h2⟩ : ∃ b0, g[v]? = some b0 := by
    cases e : g[v]? with
    | none => rw [e] at hi; cases hi
    | some b0 => exact ⟨b0, rfl⟩
  obtain ⟨u, h1⟩ := sl_get S.len h2
  have er : rts (σ.set v none) (g.set v .un) ps = (rts σ g ps).set v (none, .un) := by
    unfold rts
    rw [zip_set, List.set_append_left]
    rw [List.length_zip]
    have : v < σ.length := (List.getElem?_eq_some_iff.mp h1).1
    have : v < g.length := (List.getElem?_eq_some_iff.mp h2).1
    omega
  refine ⟨by rw [List.length_set, List.length_set]; exact S.len, S.frz, S.out, S.old, S.new, S.iol, fun p hp => ?_, fun a => ?_, fun y j hm => (na y j hm).elim⟩
  · rw [er] at hp
    rcases mem_set_or hp with rfl | ⟨j, hj, hp⟩
    · trivial
    · exact S.rel p (List.mem_of_getElem? hp)
  · rw [er]
    have c1 := cnt_set (a := a) (q := ((none : Option V), B.un)) (rts_get ps h1 h2)
    rw [ow_un] at c1
    have := S.nod a
    omega
theorem imUn_set {g : Gm} {i j : Nat} (h : imUn g[i]? = true) : imUn (g.set j .un)[i]? = true := by
  by_cases e : j = i
  · subst e
    cases q : g[j]? with
    | none => rw [q] at h; cases h
    | some c => rw [List.getElem?_set_self (List.getElem?_eq_some_iff.mp q).1]; rfl
  · rw [List.getElem?_set_ne e]; exact h
theorem imUn_wipe {g : Gm} {i : Nat} (h : imUn g[i]? = true) : ∀ vs, imUn (wipeG g vs)[i]? = true
  | [] => h
  | v :: vs => imUn_set (imUn_wipe h vs)
theorem Stx.wipe (S : Stx K Z g σ ps H Hf) (na : NoAl ps) : ∀ vs : List Nat, (vs.all fun v => imUn g[v]?) = true → Stx K Z (wipeG g vs) (wipe σ vs) ps H Hf
  | [], _ => S
  | v :: vs, h => by
    simp only [List.all_cons, Bool.and_eq_true] at h
    exact (S.wipe na vs h.2).wipe1 na (imUn_wipe h.1 vs)
theorem Stx.unwipe1 {σ0 : L2.St} {v : Nat} {b : B} {u : Option V} (S : Stx K Z g (σ0.set v none) ps H Hf) (na : NoAl ps) (hu : σ0[v]? = some u) (r : RB K Z H Hf u b) (hb : imUn (some b) = true) (hg : noIo g[v]? = true) : Stx K Z (g.set v b) σ0 ps H Hf := by
  have hl : v < σ0.length := (List.getElem?_eq_some_iff.mp hu).1
  obtain ⟨b0, h2⟩ : ∃ b0, g[v]? = some b0 := by
    cases e : g[v]? with
    | none => rw [e] at hg; cases hg
    | some b0 => exact ⟨b0, rfl⟩
  have h1 : (σ0.set v none)[v]? = some none := List.getElem?_set_self hl
  have es : (σ0.set v none).set v u = σ0 := by
    rw [List.set_set]
    apply List.ext_getElem?
    intro j
    by_cases e : v = j
    · subst e; rw [List.getElem?_set_self hl]; exact hu.symm
    · rw [List.getElem?_set_ne e]
  have er : rts σ0 (g.set v b) ps = (rts (σ0.set v none) g ps).set v (u, b) := by
    unfold rts
    rw [List.set_append_left, ← zip_set, es]
    rw [List.length_zip]
    have : v < g.length := (List.getElem?_eq_some_iff.mp h2).1
    rw [List.length_set]
    omega
  have ho : ∀ a, ow a (u, b) = 0 := fun a => by
    cases b with
    | un => exact ow_un
    | ob => exact ow_ob
    | im d => exact ow_im
    | mu l => cases hb
    | io l => cases hb
  refine ⟨by rw [List.length_set]; exact (by have := S.len; rw [List.length_set] at this; exact this), S.frz, S.out, S.old, S.new, S.iol, fun p hp => ?_, fun a => ?_, fun y j hm => (na y j hm).elim⟩
  · rw [er] at hp
    rcases mem_set_or hp with rfl | ⟨j, hj, hp⟩
    · exact r
    · exact S.rel p (List.mem_of_getElem? hp)
  · rw [er]
    have c1 := cnt_set (a := a) (q := (u, b)) (rts_get ps h1 h2)
    have := ho a
    have := S.nod a
    omega
theorem wipe_get {σ : L2.St} {v : Nat} : ∀ {vs : List Nat}, v ∉ vs → (L2.wipe σ vs)[v]? = σ[v]?
  | [], _ => rfl
  | w :: vs, h => by
    simp only [List.mem_cons, not_or] at h
    show ((L2.wipe σ vs).set w none)[v]? = _
    rw [List.getElem?_set_ne (Ne.symm h.1)]
    exact wipe_get h.2
theorem noIo_setU {g : Gm} {i j : Nat} {b : B} (h : noIo g[i]? = true) (hb : imUn (some b) = true) : noIo (g.set j b)[i]? = true :=
  noIo_set h (by cases b <;> first | rfl | cases hb)
theorem Stx.unwipe (S1 : Stx K Z g1 σ ps' H1 Hf1) (na : NoAl ps) (e : Same Hf1 Hf) : ∀ (vs : List Nat) (g : Gm), vs.Nodup → (vs.all fun v => imUn g1[v]?) = true → (vs.all fun v => noIo g[v]?) = true → Stx K Z g (L2.wipe σ vs) ps H Hf → Stx K Z (back g1 vs g) σ ps H Hf
  | [], g, _, _, _, S => S
  | v :: vs, g, nd, h, hg, S => by
    simp only [List.all_cons, Bool.and_eq_true] at h hg
    have nv : v ∉ vs := (List.nodup_cons.mp nd).1
    obtain ⟨b0, hb0⟩ : ∃ b0, g1[v]? = some b0 := by
      cases e : g1[v]? with
      | none => rw [e] at h; cases h.1
      | some b0 => exact ⟨b0, rfl⟩
    obtain ⟨u, hu⟩ := sl_get S1.len hb0
    have r1 := S1.rel _ (S1.slot hu hb0)
    have hb : imUn (some b0) = true := by have := h.1; rw [hb0] at this; exact this
    have r : RB K Z H Hf u b0 := by
      cases b0 with
      | un => trivial
      | ob => cases hb
      | im d => obtain ⟨y, e1, e2⟩ := r1; exact ⟨y, e1, dp_mono e d y e2⟩
      | mu l => cases hb
      | io l => cases hb
    have S' : Stx K Z (g.set v b0) (L2.wipe σ vs) ps H Hf := Stx.unwipe1 S na (by rw [wipe_get nv]; exact hu) r hb hg.1
    have eg : g1.getD v .un = b0 := by rw [List.getD_eq_getElem?_getD, hb0]; rfl
    show Stx K Z (back g1 vs (g.set v (g1.getD v .un))) σ ps H Hf
    rw [eg]
    refine Stx.unwipe S1 na e vs _ (List.nodup_cons.mp nd).2 h.2 ?_ S'
    rw [List.all_eq_true] at hg ⊢
    exact fun w hw => noIo_setU (hg.2 w hw) hb
/-- aliases wait again -/
theorem Stx.undeal (S : Stx K Z g σ (ps.map DL.deal ++ qs) H Hf) (na : NoAl qs) (ha : ∀ x i, (x, W.s i) ∈ ps → σ[i]? = some (some x)) : Stx K Z g σ (ps ++ qs) H Hf := by
  have er : rts σ g (ps.map DL.deal ++ qs) = rts σ g (ps ++ qs) := by
    unfold rts
    rw [List.map_append, List.map_append, map_deal]
  refine ⟨S.len, S.frz, S.out, S.old, S.new, S.iol, fun p hp => S.rel p (by rw [er]; exact hp), fun a => by rw [← er]; exact S.nod a, fun y j m => ?_⟩
  rcases List.mem_append.mp m with m | m
  · exact ha y j m
  · exact (na y j m).elim
def Res.noex {α : Type} : Res α → Res α
  | .ex _ _ => .no
  | r => r
def okw (vs : List Nat) (g : Gm) : Bool := vs.all fun v => imUn g[v]?
/-- a comprehension's turns: acc so far -/
def compGo (vs : List Nat) (t : Tg) (c : Gm → Res Bool) (e : Gm → Res W) : List D → List D → Gm → Res (List D)
  | [], acc, g => .ok acc g
  | d :: ds, acc, g => match t.put d g with
    | none => .no
    | some g1 => (c g1).noex.bind fun b g2 => if b = true then (e g2).noex.bind fun w g3 => match esc g3 w with
        | none => .no
        | some (y, g4) => if (small acc.length && okw vs g4) = true then compGo vs t c e ds (acc ++ [y]) (wipeG g4 vs) else .no
      else if okw vs g2 = true then compGo vs t c e ds acc (wipeG g2 vs) else .no
def eComp (vs : List Nat) (it : Gm → Res (List D)) (t : Tg) (c : Gm → Res Bool) (e : Gm → Res W) (g : Gm) : Res W := (it g).bind fun ds g1 =>
  if (okw vs g1 && decide (vs.Nodup)) = true then (compGo vs t c e ds [] (wipeG g1 vs)).bind fun acc g2 => if (vs.all fun v => noIo g2[v]?) = true then .ok (.v (.mu acc)) (back g1 vs g2) else .no else .no
abbrev W0 : WX := fun _ _ _ _ => False
structure DTs (X : Cx) (Wx : WX) (e : List Expr) (t : Gm → Res Bool) : Prop where
  pt : PTs X e (fun σ H Q => ∃ Z g ps Hf, Stx X.K Z g σ ps H Hf ∧ GEnd X Wx Z σ (TPo X Z σ ps Hf Q) (t g))
theorem PTs.imp {X : Cx} {e : List Expr} {t t' : TT} (h : PTs X e t) (i : ∀ σ H Q, t' σ H Q → t σ H Q) : PTs X e t' := ⟨fun pins s σ H Q I k => h.run pins s σ H Q I (i σ H Q k)⟩
def tYs (g : Gm) : Res Bool := .ok true g
theorem dts_nil : DTs X Wx [] tYs := ⟨PTs.imp pts_nil fun σ H Q ⟨Z, g, ps, Hf, S, q⟩ => q H Hf (Same.refl _) S⟩
theorem dts_one {e : Expr} {t : Gm → Res Bool} (h : DT X Wx e t) : DTs X Wx [e] t := ⟨pts_one h.pt⟩
theorem noex_end {p : α → Gm → Prop} {r : Res α} (h : GEnd X Wx Z σ p r.noex) : ∃ a g, r = .ok a g ∧ p a g := by
  cases r with
  | ok a g => exact ⟨a, g, rfl, h⟩
  | ex e g => exact h.elim
  | no => exact h.elim
theorem wipe_of {σ σ2 : L2.St} : ∀ {vs : List Nat}, (∀ j, j ∉ vs → σ2[j]? = σ[j]?) → σ2.length = σ.length → L2.wipe σ2 vs = L2.wipe σ vs := fun {vs} h hl => by
  apply List.ext_getElem?
  intro j
  by_cases e : j ∈ vs
  · have key : ∀ (σ : L2.St) (vs : List Nat), j ∈ vs → (L2.wipe σ vs)[j]? = if j < σ.length then some none else none := by
      intro σ vs
      induction vs with
      | nil => intro m; cases m
      | cons v vs ih =>
        intro m
        show ((L2.wipe σ vs).set v none)[j]? = _
        by_cases e2 : v = j
        · subst e2
          rw [List.getElem?_set]
          simp [wipe_length]
        · rw [List.getElem?_set_ne e2]
          exact ih (by rcases List.mem_cons.mp m with m | m; exact absurd m.symm e2; exact m)
    rw [key σ2 vs e, key σ vs e, hl]
  · rw [wipe_get e, wipe_get e, h j e]
theorem wipe_wipe (σ : L2.St) (vs : List Nat) : L2.wipe (L2.wipe σ vs) vs = L2.wipe σ vs :=
  wipe_of (fun j hj => wipe_get hj) (wipe_length _ _)
theorem Stx.rewipe (S : Stx K Z g σ' ps H Hf) (na : NoAl ps) (vs : List Nat) (h : (vs.all fun v => imUn g[v]?) = true) (e : L2.wipe σ' vs = L2.wipe σ vs) : Stx K Z (wipeG g vs) (L2.wipe σ vs) ps H Hf := e ▸ S.wipe na vs h
theorem conv_pe {X' : Cx} {e : Expr} {t : Gm → Res W} (hk : X'.K = X.K) (h : DE X' W0 e t) : PE X' e (fun σ H Q => ∃ Z g ps Hf, Stx X.K Z g σ ps H Hf ∧ GEnd X W0 Z σ (RP X Z σ ps Hf Q) (t g).noex) := PE.imp h.pe fun σ H Q ⟨Z, g, ps, Hf, S, q⟩ => by
  obtain ⟨a, g', e1, q1⟩ := noex_end q
  refine ⟨Z, g, ps, Hf, hk ▸ S, ?_⟩
  rw [e1]
  exact fun x H' Hf' s S' => q1 x H' Hf' s (hk ▸ S')
theorem conv_pt {X' : Cx} {e : List Expr} {t : Gm → Res Bool} (hk : X'.K = X.K) (h : DTs X' W0 e t) : PTs X' e (fun σ H Q => ∃ Z g ps Hf, Stx X.K Z g σ ps H Hf ∧ GEnd X W0 Z σ (TPo X Z σ ps Hf Q) (t g).noex) := PTs.imp h.pt fun σ H Q ⟨Z, g, ps, Hf, S, q⟩ => by
  obtain ⟨a, g', e1, q1⟩ := noex_end q
  refine ⟨Z, g, ps, Hf, hk ▸ S, ?_⟩
  rw [e1]
  exact fun H' Hf' s S' => q1 H' Hf' s (hk ▸ S')
theorem conv_pg {X' : Cx} {tg : Expr} {t : Tg} (hk : X'.K = X.K) (h : DG X' tg t) : PG X' tg (fun v σ H Q => ∃ Z g ps Hf d g', Stx X.K Z g σ ps H Hf ∧ NoAl ps ∧ Dp X.K Hf v d ∧ t.put d g = some g' ∧ ∀ σ', Stx X.K Z g' σ' ps H Hf → (∀ j, j ∉ t.slots → σ'[j]? = σ[j]?) → Q σ' H) := PG.imp h.pg fun v σ H Q ⟨Z, g, ps, Hf, d, g', S, na, hd, hp, k⟩ =>
  ⟨Z, g, ps, Hf, d, g', hk ▸ S, na, hk ▸ hd, hp, fun σ' S' e => k σ' (hk ▸ S') e⟩
mutual
theorem tg_len : ∀ (t : Tg) (d : D) (g g' : Gm), t.put d g = some g' → g'.length = g.length
  | .nm i, d, g, g', h => by
    simp only [Tg.put] at h
    split at h
    · cases h; simp
    · cases h
  | .tp ts, d, g, g', h => by
    cases d with
    | tuple ds =>
      simp only [Tg.put] at h
      split at h
      · exact tg_lenA ts ds g g' h
      · cases h
    | _ => simp [Tg.put] at h
theorem tg_lenA : ∀ (ts : List Tg) (ds : List D) (g g' : Gm), Tg.putAll ts ds g = some g' → g'.length = g.length
  | [], ds, g, g', h => by simp [Tg.putAll] at h; rw [h]
  | t :: ts, [], g, g', h => by simp [Tg.putAll] at h
  | t :: ts, d :: ds, g, g', h => by
    simp only [Tg.putAll, Option.bind_eq_some_iff] at h
    obtain ⟨g1, h1, h2⟩ := h
    rw [tg_lenA ts ds g1 g' h2, tg_len t d g g1 h1]
end
theorem comp_imp {own : List (Str × Nat)} {ti : Gm → Res (List D)} {t : Tg} {c : Gm → Res Bool} {e : Gm → Res W} (hv : ∀ j ∈ t.slots, j ∈ own.map (·.2)) : ∀ (σ : L2.St) (H : Hp) (Q : VK), (∃ Z g ps Hf, Stx X.K Z g σ ps H Hf ∧ GEnd X Wx Z σ (RP X Z σ ps Hf Q) (eComp (own.map (·.2)) ti t c e g)) →
    tLc (fun σ H R => ∃ Z g ps Hf, Stx X.K Z g σ ps H Hf ∧ GEnd X Wx Z σ (IP X Z σ ps Hf R) (ti g)) (fun v σ H Q => ∃ Z g ps Hf d g', Stx X.K Z g σ ps H Hf ∧ NoAl ps ∧ Dp X.K Hf v d ∧ t.put d g = some g' ∧ ∀ σ', Stx X.K Z g' σ' ps H Hf → (∀ j, j ∉ t.slots → σ'[j]? = σ[j]?) → Q σ' H)
      (fun σ H Q => ∃ Z g ps Hf, Stx X.K Z g σ ps H Hf ∧ GEnd X W0 Z σ (TPo X Z σ ps Hf Q) (c g).noex) (fun σ H Q => ∃ Z g ps Hf, Stx X.K Z g σ ps H Hf ∧ GEnd X W0 Z σ (RP X Z σ ps Hf Q) (e g).noex) (own.map (·.2)) σ H Q := fun σ H Q ⟨Z, g, ps, Hf, S, q⟩ => by
  generalize hvs : own.map (·.2) = vs at *
  refine ⟨Z, g, ps, Hf, S, q.bind.mono fun ds g1 q1 J H1 Hf1 s1 S1 it1 => ?_⟩
  by_cases cc : (okw vs g1 && decide (vs.Nodup)) = true
  rotate_left
  · rw [if_neg cc] at q1; exact q1.elim
  rw [if_pos cc] at q1
  simp only [Bool.and_eq_true, decide_eq_true_eq] at cc
  intro Da hD
  have na := noAl_deal ps
  have Sd := S1.deal
  have Sw := Sd.wipe na vs cc.1
  -- the new list waits
  have Gl : Grow X.K H1 Hf1 (upd H1 Da (.lst [])) Hf1 (.ref Da) (.mu []) := Grow.lst S1.frz hD .nil
  have S2 := Sw.grow Gl
  have nq : ∀ acc, NoAl (ps.map deal ++ [(V.ref Da, W.v (.mu acc))]) := fun acc y j m => by
    rcases List.mem_append.mp m with m | m
    · exact na y j m
    · simp at m
  refine ⟨fun i m H => i + m = ds.length ∧ ∃ g Hf acc, Same Hf1 Hf ∧ Stx X.K Z g (L2.wipe σ vs) (ps.map deal ++ [(V.ref Da, W.v (.mu acc))]) H Hf ∧ ItD X.K Hf J ds ∧
      GEnd X Wx Z σ (fun acc g2 => GEnd X Wx Z σ (RP X Z σ ps Hf Q) (if (vs.all fun v => noIo g2[v]?) = true then .ok (.v (.mu acc)) (back g1 vs g2) else .no)) (compGo vs t c e (ds.drop i) acc g),
    ⟨ds.length, by omega, wipeG g1 vs, Hf1, [], Same.refl _, S2, it1, (q1.bind).mono fun acc g2 q2 => q2.mono fun w g3 q3 => q3.mono s1⟩, fun i m H ⟨em, g, Hf, acc, sf, S, it, q⟩ => ?_⟩
  by_cases cl : i < ds.length
  · refine .inr ⟨it.go i H Hf (Same.refl _) S.frz cl, fun H' => ∃ g Hf acc, Same Hf1 Hf ∧ Stx X.K Z g (L2.wipe σ vs) (ps.map deal ++ [(V.ref Da, W.v (.mu acc))]) H' Hf ∧ ItD X.K Hf J ds ∧
      GEnd X Wx Z σ (fun acc g2 => GEnd X Wx Z σ (RP X Z σ ps Hf Q) (if (vs.all fun v => noIo g2[v]?) = true then .ok (.v (.mu acc)) (back g1 vs g2) else .no)) (compGo vs t c e (ds.drop (i + 1)) acc g), fun H' h => ⟨m - 1, by omega, by omega, h⟩, fun x H3 hy => ?_⟩
    have ed : ds.drop i = ds[i] :: ds.drop (i + 1) := List.drop_eq_getElem_cons cl
    rw [ed] at q
    obtain ⟨Hf3, G⟩ := it.yld i H Hf x H3 _ (Same.refl _) S.frz (List.getElem?_eq_getElem cl) hy
    have S3 := S.step G.hh G.hf G.fh G.nw
    have it3 := it.mono G.hf
    simp only [compGo] at q
    cases ep : t.put ds[i] g with
    | none => rw [ep] at q; exact q.elim
    | some g4 =>
      rw [ep] at q
      refine ⟨Z, g, _, Hf3, ds[i], g4, S3, nq acc, G.is, ep, fun σ4 S4 e4 => ?_⟩
      have ew : L2.wipe σ4 vs = L2.wipe (L2.wipe σ vs) vs := wipe_of (fun j hj => e4 j fun m => hj (hv j m)) (by rw [S4.len, S3.len]; exact tg_len t _ _ _ ep)
      refine ⟨by rw [ew, wipe_wipe], ?_⟩
      have q' : GEnd X Wx Z σ (fun acc g2 => GEnd X Wx Z σ (RP X Z σ ps Hf Q) (if (vs.all fun v => noIo g2[v]?) = true then .ok (.v (.mu acc)) (back g1 vs g2) else .no)) ((c g4).noex.bind fun b g2 => if b = true then (e g2).noex.bind fun w g3 => match esc g3 w with
        | none => .no
        | some (y, g4) => if (small acc.length && okw vs g4) = true then compGo vs t c e (ds.drop (i + 1)) (acc ++ [y]) (wipeG g4 vs) else .no
        else if okw vs g2 = true then compGo vs t c e (ds.drop (i + 1)) acc (wipeG g2 vs) else .no) := q
      obtain ⟨b, g5, eb, q5⟩ := noex_end q'.bind
      refine ⟨Z, g4, _, Hf3, S4, ?_⟩
      rw [eb]
      intro H5 Hf5 s5 S5
      have mono5 : ∀ {Hx}, Same Hf Hx → ∀ {acc g}, GEnd X Wx Z σ (fun acc g2 => GEnd X Wx Z σ (RP X Z σ ps Hf Q) (if (vs.all fun v => noIo g2[v]?) = true then .ok (.v (.mu acc)) (back g1 vs g2) else .no)) (compGo vs t c e (ds.drop (i + 1)) acc g) →
          GEnd X Wx Z σ (fun acc g2 => GEnd X Wx Z σ (RP X Z σ ps Hx Q) (if (vs.all fun v => noIo g2[v]?) = true then .ok (.v (.mu acc)) (back g1 vs g2) else .no)) (compGo vs t c e (ds.drop (i + 1)) acc g) :=
        by intro Hx k acc g h; exact h.mono fun _ _ h2 => h2.mono fun _ _ h3 => h3.mono k
      cases b with
      | false =>
        rw [if_neg Bool.false_ne_true] at q5 ⊢
        by_cases co : okw vs g5 = true
        · rw [if_pos co] at q5
          have k := (G.hf.trans s5)
          have S6 := S5.wipe (nq acc) vs co
          rw [ew, wipe_wipe] at S6
          exact ⟨_, Hf5, acc, sf.trans k, S6, it3.mono s5, mono5 k q5⟩
        · rw [if_neg co] at q5; exact q5.elim
      | true =>
        rw [if_pos rfl] at q5 ⊢
        obtain ⟨w, g6, e6, q6⟩ := noex_end (GEnd.bind q5)
        refine ⟨Z, g5, _, Hf5, S5, ?_⟩
        rw [e6]
        intro y H6 Hf6 s6 S6
        cases e7 : esc g6 w with
        | none => rw [e7] at q6; exact q6.elim
        | some r =>
          obtain ⟨y', g7⟩ := r
          rw [e7] at q6
          obtain ⟨Hf7, s7, hd, S7⟩ := S6.esc e7
          have q7 : GEnd X Wx Z σ (fun acc g2 => GEnd X Wx Z σ (RP X Z σ ps Hf Q) (if (vs.all fun v => noIo g2[v]?) = true then .ok (.v (.mu acc)) (back g1 vs g2) else .no)) (if (small acc.length && okw vs g7) = true then compGo vs t c e (ds.drop (i + 1)) (acc ++ [y']) (wipeG g7 vs) else .no) := q6
          by_cases co : (small acc.length && okw vs g7) = true
          · rw [if_pos co] at q7
            simp only [Bool.and_eq_true] at co
            have S8 := S7.drop
            obtain ⟨a2, xs2, f1, f2, f3, f4, f5⟩ := S8.rel (root (V.ref Da, W.v (.mu acc))) (S8.root_mem mem_last)
            cases f1
            refine ⟨xs2, f4, by rw [dpa_len f5]; exact small_lt co.1, ?_⟩
            have k := ((G.hf.trans s5).trans s6).trans s7
            -- the list grows by y
            have S9 : Stx X.K Z g7 σ4 (ps.map deal ++ [(V.ref Da, W.v (.mu (acc ++ [y'])))]) (upd H6 Da (.lst (xs2 ++ [y]))) Hf7 := by
              have cz : cnt Da (rts σ4 g7 (ps.map deal)) = 0 := by
                have := S8.nod Da
                rw [rts_app, cnt_append] at this
                have e1 : cnt Da ([(V.ref Da, W.v (.mu acc))].map root) = 1 := by simp [cnt, root, ow]
                omega
              have Sb := S8.drop
              have Sc : Stx X.K Z g7 σ4 (ps.map deal) (upd H6 Da (.lst (xs2 ++ [y]))) Hf7 := by
                refine ⟨Sb.len, fun b u eb => ?_, fun b o eb hb => ?_, Sb.old, Sb.new, fun a ea => ?_, fun p hp => ?_, Sb.nod, Sb.als⟩
                · rw [upd_ne (ne_of_none eb f3)]; exact Sb.frz b u eb
                · rw [upd_ne (ne_of_none eb f2)]; exact Sb.out b o eb hb
                · by_cases hb : a = Da
                  · subst hb; exact ⟨_, upd_same⟩
                  · rw [upd_ne hb]; exact Sb.iol a ea
                · refine rb_step (Sb.rel p hp) (Same.refl _) fun a ha => ?_
                  obtain ⟨k1, _⟩ := rb_ow (Sb.rel p hp) ha
                  refine ⟨?_, k1⟩
                  rw [upd_ne]
                  intro ea
                  subst ea
                  have ha' : 0 < ow a p := ha
                  have := cnt_mem (a := a) hp
                  omega
              refine Sc.push ⟨Da, _, rfl, f2, f3, upd_same, dpa_append f5 (.cons hd .nil)⟩ fun a => ?_
              by_cases ea : Da = a
              · subst ea
                rw [cz]
                simp [ow]
              · have : ow a (some (V.ref Da), B.mu (acc ++ [y'])) = 0 := by simp [ow, ea]
                rw [this]
                exact Sb.nod a
            have S10 := S9.wipe (nq _) vs co.2
            rw [ew, wipe_wipe] at S10
            exact ⟨_, Hf7, acc ++ [y'], sf.trans k, S10, ((it3.mono s5).mono s6).mono s7, mono5 k q7⟩
          · rw [if_neg co] at q7; exact q7.elim
  · have ed : ds.drop i = [] := List.drop_of_length_le (by omega)
    rw [ed] at q
    refine .inl ⟨it.stop i H Hf (Same.refl _) S.frz (by omega), ?_⟩
    have q' : GEnd X Wx Z σ (RP X Z σ ps Hf Q) (if (vs.all fun v => noIo g[v]?) = true then .ok (.v (.mu acc)) (back g1 vs g) else .no) := q
    by_cases co : (vs.all fun v => noIo g[v]?) = true
    · rw [if_pos co] at q'
      refine q' (.ref Da) H Hf (Same.refl _) ?_
      have Su := Stx.unwipe Sd (nq acc) sf vs g cc.2 cc.1 co S
      exact Su.undeal (fun y j m => by simp at m) S1.als
    · rw [if_neg co] at q'; exact q'.elim
theorem de_comp {elt tg iter : Expr} {ifs : List Expr} {scope : Scope} {own : List (Str × Nat)} {pos : Pos} {ti : Gm → Res (List D)} {t : Tg} {c : Gm → Res Bool} {e : Gm → Res W} (hc : X.calm = true) (hN : X.N.Nodup) (hi : DI X Wx tg iter ti) (ok : BlkOk X.N X.env.scope scope own)
    (hg : ∀ (s : Shared) (H : Hp) (C : Addr) (cl : List (Str × Addr)) (fp : List Addr), DG (X.blk s H scope (compEnvC scope cl C X.env) fp) tg t) (ht : ∀ (s : Shared) (H : Hp) (C : Addr) (cl : List (Str × Addr)) (fp : List Addr), DTs (X.blk s H scope (compEnvC scope cl C X.env) fp) W0 ifs c)
    (he : ∀ (s : Shared) (H : Hp) (C : Addr) (cl : List (Str × Addr)) (fp : List Addr), DE (X.blk s H scope (compEnvC scope cl C X.env) fp) W0 elt e) (hv : ∀ j ∈ t.slots, j ∈ own.map (·.2) := by decide) (hs : ∀ x, foldedSetIterable iter X.env x = pure x := by intro _; rfl) :
    DE X Wx (.ListComp elt [⟨tg, iter, ifs, 0⟩] scope pos) (eComp (own.map (·.2)) ti t c e) := ⟨PE.imp (pe_lc hc hN hi.pi ok (fun s H C cl fp => conv_pg (X := X) rfl (hg s H C cl fp)) (fun s H C cl fp => conv_pt (X := X) rfl (ht s H C cl fp)) (fun s H C cl fp => conv_pe (X := X) rfl (he s H C cl fp)) hs) fun σ H Q ⟨Z, g, ps, Hf, S, q⟩ => comp_imp (X := X) (Wx := Wx) (own := own) (ti := ti) (t := t) (c := c) (e := e) hv σ H Q ⟨Z, g, ps, Hf, S, q⟩⟩
/-- a name for a comprehension on the same row -/
theorem ds_setLc {i : Nat} {y : Str} {py spos : Pos} {elt tg iter : Expr} {ifs : List Expr} {scope : Scope} {own : List (Str × Nat)} {pos : Pos} {ti : Gm → Res (List D)} {t : Tg} {c : Gm → Res Bool} {e : Gm → Res W} (hc : X.calm = true) (hN : X.N.Nodup) (hy : X.N[i]? = some y) (hyl : X.env.scope.names.lookup y = some .local)
    (hsw : swapsWith (.ListComp elt [⟨tg, iter, ifs, 0⟩] scope pos) (some (.Name y py)) spos.line X.env = pure true) (hi : DI X Wx tg iter ti) (ok : BlkOk X.N X.env.scope scope own)
    (hg : ∀ (s : Shared) (H : Hp) (C : Addr) (cl : List (Str × Addr)) (fp : List Addr), DG (X.blk s H scope (compEnvC scope cl C X.env) fp) tg t) (ht : ∀ (s : Shared) (H : Hp) (C : Addr) (cl : List (Str × Addr)) (fp : List Addr), DTs (X.blk s H scope (compEnvC scope cl C X.env) fp) W0 ifs c)
    (he : ∀ (s : Shared) (H : Hp) (C : Addr) (cl : List (Str × Addr)) (fp : List Addr), DE (X.blk s H scope (compEnvC scope cl C X.env) fp) W0 elt e) (hv : ∀ j ∈ t.slots, j ∈ own.map (·.2) := by decide) (hs : ∀ x, foldedSetIterable iter X.env x = pure x := by intro _; rfl) :
    DS X Wx (.Assign [.Name y py] (.ListComp elt [⟨tg, iter, ifs, 0⟩] scope pos) spos) (sSet i (eComp (own.map (·.2)) ti t c e)) := ⟨PS.imp (ps_setLc hc hN hy hyl hsw hi.pi ok (fun s H C cl fp => conv_pg (X := X) rfl (hg s H C cl fp)) (fun s H C cl fp => conv_pt (X := X) rfl (ht s H C cl fp)) (fun s H C cl fp => conv_pe (X := X) rfl (he s H C cl fp)) hs) fun D σ H ⟨Z, g, Hf, S, q⟩ => by
  refine comp_imp (X := X) (Wx := Wx) (own := own) (ti := ti) (t := t) (c := c) (e := e) hv σ H _ ?_
  refine giveES (de_comp hc hN hi ok hg ht he hv hs (pos := pos)) S q fun w g1 y H1 Hf1 q1 S1 => ?_
  exact stor_end S1 q1⟩
end
end DL
/-! ## DLh0.lean -/
set_option Elab.async false
set_option linter.all false
set_option maxRecDepth 100000
set_option maxHeartbeats 4000000
namespace DL
open PySem PySem.Spec PyProof.Rows L2

/-- room, and no repr under way -/
structure Rg (k : Nat) (A : Around) : Prop where
  rm : Room k A
  gd : A.guards = some []
theorem Rg.mono {j k : Nat} {A : Around} (r : Rg k A) (h : j ≤ k) : Rg j A := ⟨r.rm.mono h, r.gd⟩
theorem Rg.deeper {k : Nat} {A : Around} (r : Rg (k + 1) A) (env : PySem.Env) : Rg k (A.deeper env) := ⟨r.rm.deeper env, r.gd⟩

/-- a def keeps its promise wherever no repr is under way -/
structure FnG (P : Program) (w : World) (K : PySem.W.Frag) (mg : Str → Option Value) (base : Heap) (k : Nat) (f : Addr) (fd : FuncData) (ps : List Str) (sp : Sp) : Prop where
  len : ∀ vs H Q E, sp vs H Q E → vs.length = ps.length
  run : ∀ (A : Around) (outer : List PySem.Env) (s : Shared) (H : Hp) (args : Args) (us : List Value) (vs : List V) (Q : VK) (E : XK), Rg k A → Env0 P w K mg base A outer s H →
    BindsTo s fd args (ps.zip us) → Vals vs us → sp vs H Q E → codeAny (model P w) A (.call (.ref f) args) (CR (L2.CX P w) outer P w H s Q E) s
section
variable {P : Program} {w : World} {K : PySem.W.Frag} {mg : Str → Option Value} {base : Heap} {k : Nat} {f : Addr} {fd : FuncData} {ps : List Str} {sp : Sp}
theorem FnG.mono {j : Nat} (F : FnG P w K mg base j f fd ps sp) (h : j ≤ k) : FnG P w K mg base k f fd ps sp :=
  ⟨F.len, fun A outer s H args us vs Q E hr => F.run A outer s H args us vs Q E (hr.mono h)⟩
theorem FnG.of {sp : Sp} (F : FnOk P w K mg base (L2.CX P w) k f fd ps sp) : FnG P w K mg base k f fd ps sp :=
  ⟨F.len, fun A outer s H args us vs Q E hr => F.run A outer s H args us vs Q E hr.rm⟩
/-- the rule for a def of the text -/
theorem Fun.okG {x qual : Str} {st : Stmt} {N : List Str} (F : Fun K x qual st f fd) (S : FnScope N ps (defScope st)) (len : ∀ vs H Q E, sp vs H Q E → vs.length = ps.length)
    (hb : ∀ (cdv : Value) (A : Around) (outer : List PySem.Env) (s : Shared) (H : Hp) (vs : List V) (Q : VK) (E : XK), Rg k (A.deeper (envOfC qual (defScope st) s.heap.objs.size f cdv)) → sp vs H Q E →
      ∃ t, PSs (cxOf (L2.CX P w) P w K mg base N qual (defScope st) f cdv A outer s H E) (defBody st) t ∧ t { nx := fun _ H' => Q .non H', rt := Q } (L2.start N vs) H) : FnG P w K mg base (k + 1) f fd ps sp := by
  obtain ⟨oc, od, kV, doc, pm, an, cdv, ct, osl, rfl, lk, hcd⟩ := F.ex
  constructor
  · exact len
  intro A outer s H args us vs Q E hr e0 hbd rv hsp
  have keepB : ∀ b o, base.get? b = some o → s.heap.get? b = some o := fun b o e => (e0.bs b o e).1
  have inK : K.In s.heap := e0.mod.kin.keeps keepB
  have parK : ∀ y ∈ ps.zip us, (defScope st).names.lookup y.1 = some .local ∨
      ((defScope st).names.lookup y.1 = some .cell ∧ ((cellsFrom (s.heap.objs.size + 1) (defScope st).names []).lookup y.1).isSome = true) := by
    intro y hy
    obtain ⟨n, v⟩ := y
    cases S.par n (List.of_mem_zip hy).1 with
    | inl q => exact Or.inl q
    | inr q => exact Or.inr ⟨q, PySem.W.cellsFrom_some _ _ _ (Or.inl q)⟩
  refine codeAny_call_function hr.rm.depth (inK _ _ lk) rfl S.co S.gen rfl (PySem.W.codeRec_of inK hcd) (hbd _ _ _ _ ?_)
  refine wpAny_newFunctionEnv_cells S.kind parK ?_
  intro env he s1 ic
  subst he
  refine ⟨(e0.mod.nolimit.keeps keepB).keeps ic.toInCall.keep, codeAny_func ?_⟩
  obtain ⟨t, pt, tq⟩ := hb cdv A outer s H vs Q E (hr.deeper _) hsp
  have J0 := inv_start (CX := L2.CX P w) (E := E) S hr.rm.hd e0 (len _ _ _ _ hsp) rv ic
  refine wpAny_mono (pt.run [] s1 (L2.start N vs) H _ J0 tq) ?_ fun e s' h => h
  intro fl s' h
  cases fl with
  | next => obtain ⟨σ', H', J, q⟩ := h; exact ⟨V.non, H', J.os, J.bare, J.base, J.hok, rfl, q⟩
  | brk => obtain ⟨_, _, _, q⟩ := h; exact q.elim
  | cont => obtain ⟨_, _, _, q⟩ := h; exact q.elim
  | ret u => obtain ⟨v, σ', H', J, r, q⟩ := h; exact ⟨v, H', J.os, J.bare, J.base, J.hok, r, q⟩
end
section
variable {X : Cx} {k : Nat} {f : Addr} {fd : FuncData} {prs ks : List Str} {sp : Sp} {W : WX} {pins : List (Addr × Obj)} {σ : L2.St} {H : Hp} {s : Shared} {Q : VK}
def RunP (X : Cx) (pins : List (Addr × Obj)) (σ : L2.St) (Q : VK) : Result → Shared → Prop
  | .ok (.ret u), s' => EP X pins σ Q u s'
  | .ok _, _ => False
  | .error e, s' => X.xe e s'
/-- behind the callee -/
theorem back_of (tk : Takes X W) (I : Inv X pins σ H s) {r : Result} {s' : Shared} (h : CR (L2.CX X.prog X.w) X.stack X.prog X.w H s Q (fun c d H => W c d σ H) r s') : RunP X pins σ Q r s' := by
  cases r with
  | error e => exact passAt tk σ pins H s e s' I h
  | ok fl =>
    cases fl with
    | ret u => exact I.after h
    | next => exact h
    | brk => exact h
    | cont => exact h
theorem runG (F : FnG X.prog X.w X.K X.mg X.base k f fd prs sp) (hr : Rg k X.A) (tk : Takes X W) {args : Args} {us : List Value} {vs : List V} (hb : BindsTo s fd args (prs.zip us)) (I : Inv X pins σ H s) (r : Vals vs us)
    (h : sp vs H Q (fun c d H => W c d σ H)) : codeAny (model X.prog X.w) X.A (.call (.ref f) args) (RunP X pins σ Q) s :=
  codeAny_mono (F.run X.A X.stack s H args us vs Q _ hr I.env0 hb r h) fun r s' q => back_of tk I q
theorem callG (F : FnG X.prog X.w X.K X.mg X.base k f fd prs sp) (hr : Rg k X.A) (tk : Takes X W) {us ws : List Value} {kw : List (Str × Value)} {vs : List V} (hb : BindsTo s fd ⟨us, kw⟩ (prs.zip ws)) (I : Inv X pins σ H s) (r : Vals vs ws)
    (h : sp vs H Q (fun c d H => W c d σ H)) : wpAny (model X.prog X.w) X.A (call (.ref f) us kw) (EP X pins σ Q) X.xe s := by
  refine wpAny_call (codeAny_mono (runG F hr tk hb I r h) fun r s' q => ?_)
  cases r with
  | error e => exact q
  | ok fl => cases fl <;> exact q
variable {x : Str} {p pos : Pos} {e : Expr} {es : List Expr} {t tk' : TA} {kws : List Keyword}
/-- f(e, ..) -/
theorem pe_callG (F : FnG X.prog X.w X.K X.mg X.base k f fd prs sp) (hr : Rg k X.A) (hg : Gl X x) (hm : X.mg x = some (.ref f)) (hk : PySem.W.keepIn X.K (.ref f) = true) (hb : Binds X.K fd prs []) (tk : Takes X W) (ha : PA X (e :: es) t)
    (hdb : (x == ("__debug__" : Str)) = false) (he : starEach (e :: es) X.env = (false, eval e X.env) :: starEach es X.env) (hpl : (backTo pos (starEach es X.env)).any (·.1) = false) :
    PE X (.Call (.Name x p) (e :: es) [] pos) (fun σ H Q => t σ H fun vs H1 => sp vs H1 Q (fun c d H => W c d σ H)) := by
  constructor
  intro pins s σ H Q I h
  refine wpAny_Call_Name_kw (ld_glob I hg hm ?_ hdb)
  refine PySem.W.callWith_K (h₀ := X.base) I.ok.mod.kin hk (thn (ha.run pos pins s σ H _ I h) ?_) he hpl
  rintro us s1 ⟨vs, H1, I1, r, q⟩
  refine ⟨I1.kIn, callG (ws := us) F hr tk ?_ I1 r q⟩
  have l : us.length = prs.length := by rw [← r.length]; exact F.len _ _ _ _ q
  have b := hb s1 us I1.kIn (by rw [List.append_nil]; exact l)
  rwa [List.append_nil] at b
/-- f() -/
theorem pe_callG0 (F : FnG X.prog X.w X.K X.mg X.base k f fd prs sp) (hr : Rg k X.A) (hg : Gl X x) (hm : X.mg x = some (.ref f)) (hk : PySem.W.keepIn X.K (.ref f) = true) (hb : Binds X.K fd prs []) (tk : Takes X W)
    (hdb : (x == ("__debug__" : Str)) = false) : PE X (.Call (.Name x p) [] [] pos) (fun σ H Q => sp [] H Q (fun c d H => W c d σ H)) := by
  constructor
  intro pins s σ H Q I h
  refine wpAny_Call_Name_kw (ld_glob I hg hm ?_ hdb)
  refine PySem.W.callWith_K0 I.kIn hk (callG (us := []) (ws := []) F hr tk ?_ I .nil h)
  have l : ([] : List Value).length = prs.length := F.len _ _ _ _ h
  have b := hb s [] I.kIn (by simpa using l)
  simpa using b
/-- f(k = v, ..) -/
theorem pe_callGK0 {g : List Value → List Value → List Value} {gV : List V → List V → List V} (F : FnG X.prog X.w X.K X.mg X.base k f fd prs sp) (hr : Rg k X.A) (hg : Gl X x) (hm : X.mg x = some (.ref f)) (hk : PySem.W.keepIn X.K (.ref f) = true) (hb : KBn X.K fd prs 0 ks g gV) (tk : Takes X W) (hkw : PK X kws tk')
    (hall : (backToKw pos (keywordEach kws X.env)).all (·.1.isSome) = true) (hks : (backToKw pos (keywordEach kws X.env)).filterMap (·.1) = ks) (hdb : (x == ("__debug__" : Str)) = false)
    (hpl : (backToKw pos (keywordEach kws X.env)).any (·.1.isNone) = false) : PE X (.Call (.Name x p) [] kws pos) (fun σ H Q => tk' σ H fun zs H1 => zs.length = ks.length ∧ sp (gV [] zs) H1 Q (fun c d H => W c d σ H)) := by
  constructor
  intro pins s σ H Q I h
  refine wpAny_Call_Name_kw (ld_glob I hg hm ?_ hdb)
  refine PySem.W.callWith_KW0 (h₀ := X.base) I.ok.mod.kin hk hall (thn (hkw.run pos pins s σ H _ I h) ?_) hpl
  rintro ws s1 ⟨zs, H1, I1, rz, lz, q⟩
  refine ⟨I1.kIn, ?_⟩
  rw [hks]
  exact callG (us := []) (ws := g [] ws) F hr tk (hb.to s1 [] ws I1.kIn rfl (rz.length.symm.trans lz)) I1 (hb.rel .nil rz) q
/-- f(e, .., k = v, ..) -/
theorem pe_callGK {n : Nat} {g : List Value → List Value → List Value} {gV : List V → List V → List V} (F : FnG X.prog X.w X.K X.mg X.base k f fd prs sp) (hr : Rg k X.A) (hg : Gl X x) (hm : X.mg x = some (.ref f)) (hk : PySem.W.keepIn X.K (.ref f) = true) (hb : KBn X.K fd prs n ks g gV) (tk : Takes X W) (ha : PA X (e :: es) t) (hkw : PK X kws tk')
    (hall : (backToKw pos (keywordEach kws X.env)).all (·.1.isSome) = true) (hks : (backToKw pos (keywordEach kws X.env)).filterMap (·.1) = ks) (hdb : (x == ("__debug__" : Str)) = false)
    (he : starEach (e :: es) X.env = (false, eval e X.env) :: starEach es X.env)
    (hpl : ((backTo pos (starEach (e :: es) X.env)).any (·.1) || (backToKw pos (keywordEach kws X.env)).any (·.1.isNone)) = false) :
    PE X (.Call (.Name x p) (e :: es) kws pos) (fun σ H Q => t σ H fun vs H1 => tk' σ H1 fun zs H2 => vs.length = n ∧ zs.length = ks.length ∧ sp (gV vs zs) H2 Q (fun c d H => W c d σ H)) := by
  constructor
  intro pins s σ H Q I h
  refine wpAny_Call_Name_kw (ld_glob I hg hm ?_ hdb)
  refine PySem.W.callWith_KW (h₀ := X.base) I.ok.mod.kin hk hall (thn (ha.run pos pins s σ H _ I h) ?_) hpl he
  rintro us s1 ⟨vs, H1, I1, r, q⟩
  refine thn (hkw.run pos pins s1 σ H1 _ I1 q) ?_
  rintro ws s2 ⟨zs, H2, I2, rz, lv, lz, q2⟩
  refine ⟨I2.kIn, ?_⟩
  rw [hks]
  exact callG (us := us) (ws := g us ws) F hr tk (hb.to s2 us ws I2.kIn (r.length.symm.trans lv) (rz.length.symm.trans lz)) I2 (hb.rel r rz) q2
end

/-! ### the law's call -/
section
variable {P : Program} {w : World} {K : PySem.W.Frag} {mg mb : Str → Option Value} {k : Nat} {fa a : Addr} {fd : FuncData} {x : Str} {sp : Sp} {s : Shared} {vs : List Value} {ns : List Int}
/-- what is tracked ahead of the law's call: the script, or nothing -/
def onlyAt (a : Addr) (o : Obj) (xs : List V) (b : Addr) : Option HO := if b = a then some (.frz o (.lst xs)) else none
theorem law_at (H : Hp) (hx : ∀ b u, H b = some u → b = a ∧ ∃ xs, u = .frz { cls := .type "list", data := .seq vs.toArray } (.lst xs)) (hkk : ∀ b u, H b = some u → K.lookup b = none)
    (KX : K.In s.heap) (hns : s.heap.Ns mainGlobals mg) (hb : s.heap.Ns builtinsNs mb) (hbb : ∀ x : Str, x ≠ "__name__" → mb x = bootBuiltins x) (hlim : s.heap.NoLimit) (hg : s.gens = #[])
    (ha : s.heap.get? a = some { cls := .type "list", data := .seq vs.toArray }) (hok : HOk P w H s.heap) (hr : Rg k callerA)
    (F : ∀ base : Heap, K.In base → base.Ns mainGlobals mg → FnG P w K mg base k fa fd [x] sp) (hbind : ∀ (s : Shared) (u : Value), BindsTo s fd ⟨[u], []⟩ [(x, u)])
    (hsp : sp [.ref a] H (fun v _ => v = .bl true) fun _ _ _ => False) :
    codeAny (model P w) callerA (.call (.ref fa) ⟨[.ref a], []⟩) (fun r s' => r = .ok (.ret (.bool true)) ∧ OldK s.heap s'.heap ∧ s'.os = s.os ∧ AllBare s'.gens) s := by
  let B := hidT s.heap H
  have dicts : ∀ {b : Addr} {o : Obj} {es : Array DictEntry} {ep : Nat}, s.heap.get? b = some o → o.data = .dict es ep → H b = none := by
    intro b o es ep e d
    cases q : H b with
    | none => rfl
    | some u =>
      obtain ⟨rfl, _⟩ := hx b u q
      rw [ha] at e
      cases e
      cases d
  have spaces : ∀ {b : Addr} {m : Str → Option Value}, s.heap.Ns b m → B.Ns b m := by
    rintro b m ⟨o, es, ep, e, d, r⟩
    exact ⟨o, es, ep, hidT_get e (dicts e d), d, r⟩
  have inB : K.In B := by
    intro b o e
    refine hidT_get (KX b o e) ?_
    cases q : H b with
    | none => rfl
    | some u => rw [hkk b u q] at e; cases e
  obtain ⟨mc, l1, l2⟩ := hlim
  have env : Env0 P w K mg B callerA [] s H :=
    { frames := rfl
      mod := { kin := inB, glob := spaces hns, blt := ⟨mb, spaces hb, hbb⟩, nolimit := ⟨mc, spaces l1, l2⟩ }
      bs := fun b o e => of_hidT e
      bsz := Nat.le_of_eq (hidT_size _ _)
      funs := trivial
      frf := fun b h => by cases h
      hok := hok
      bare := .of_eq hg }
  refine codeAny_mono ((F B inB (spaces hns)).run callerA [] s H ⟨[.ref a], []⟩ [.ref a] [.ref a] _ _ hr env (hbind s (.ref a)) (.cons rfl .nil) hsp) ?_
  intro r s' h
  cases r with
  | error e =>
    obtain ⟨_, _, _, _, _, _, _, _, _, _, _, _, z⟩ := h
    exact z.elim
  | ok fl =>
    cases fl with
    | next => exact h.elim
    | brk => exact h.elim
    | cont => exact h.elim
    | ret u =>
      obtain ⟨v, H', h1, h2, h3, h4, h5, h6⟩ := h
      have e1 : v = .bl true := h6
      rw [e1] at h5
      have e2 : u = Value.bool true := h5
      rw [e2]
      refine ⟨rfl, OldK.of_keep fun b o e => ?_, h1, h2⟩
      cases q : H b with
      | none => exact h3.keep b o e q (by intro z; cases z) (by intro z; cases z)
      | some u2 =>
        obtain ⟨rfl, xs, rfl⟩ := hx b u2 q
        have k1 := (h4 b _ (h3.frzs b _ _ q)).1
        rw [ha] at e
        cases e
        exact k1
theorem law_G (KX : K.In s.heap) (hns : s.heap.Ns mainGlobals mg) (hb : s.heap.Ns builtinsNs mb) (hbb : ∀ x : Str, x ≠ "__name__" → mb x = bootBuiltins x) (hlim : s.heap.NoLimit) (hg : s.gens = #[])
    (ha : s.heap.get? a = some { cls := .type "list", data := .seq vs.toArray }) (hi : PyProof.Rows.IntsAre vs ns) (hl : ns.length ≤ sizeLine) (hr : Rg k callerA)
    (F : ∀ base : Heap, K.In base → base.Ns mainGlobals mg → FnG P w K mg base k fa fd [x] sp) (hbind : ∀ (s : Shared) (u : Value), BindsTo s fd ⟨[u], []⟩ [(x, u)])
    (hsp : ∀ H : Hp, SqL K H a (ns.map V.int) → sp [.ref a] H (fun v _ => v = .bl true) fun _ _ _ => False) :
    codeAny (model P w) callerA (.call (.ref fa) ⟨[.ref a], []⟩) (fun r s' => r = .ok (.ret (.bool true)) ∧ OldK s.heap s'.heap ∧ s'.os = s.os ∧ AllBare s'.gens) s := by
  have rv := vals_ints hi
  cases hk : K.lookup a with
  | none =>
    have hit : onlyAt a { cls := .type "list", data := .seq vs.toArray } (ns.map V.int) a = some (.frz { cls := .type "list", data := .seq vs.toArray } (.lst (ns.map V.int))) := if_pos rfl
    have un : ∀ b u, onlyAt a { cls := .type "list", data := .seq vs.toArray } (ns.map V.int) b = some u → b = a ∧ u = .frz { cls := .type "list", data := .seq vs.toArray } (.lst (ns.map V.int)) := by
      intro b u z
      unfold onlyAt at z
      split at z
      · rename_i e; cases z; exact ⟨e, rfl⟩
      · cases z
    refine law_at (onlyAt a _ (ns.map V.int)) (fun b u z => ⟨(un b u z).1, _, (un b u z).2⟩) (fun b u z => by rw [(un b u z).1]; exact hk) KX hns hb hbb hlim hg ha (fun b u z => ?_) hr F hbind (hsp _ (Or.inl (Or.inr ⟨_, hit⟩)))
    obtain ⟨rfl, rfl⟩ := un b u z
    exact ⟨ha, by rw [List.length_map]; exact hl, vs, _, rv, ha⟩
  | some o =>
    have e := KX a o hk
    rw [ha] at e
    cases e
    refine law_at (vs := vs) (fun _ => none) (fun b u z => by cases z) (fun b u z => by cases z) KX hns hb hbb hlim hg ha (fun b u z => by cases z) hr F hbind (hsp _ (Or.inr ⟨_, vs.toArray, _, hk, rfl, rfl, rfl, ?_, by simpa using rv⟩))
    rw [List.size_toArray, hi.length]
    exact hl
end
theorem walkG {l : PySem.W.OpenLaw} {n k : Nat} {q : Program} {loose : List Str} {XP : (Str → Option Value) → Heap → Prop} {YP : World → Heap → Prop} {d : DefRec} {K : Params → PySem.W.Frag} {sp : PySem.W.Frag → (Str → Option Value) → Sp} {x : Str}
    (hn : l.most = some n) (hn2 : n ≤ sizeLine) (hdf : d.params.defaults = []) (hr : Rg k callerA)
    (hY : ∀ (w : World) (h : Heap), YP w h → (K w.params).In h)
    (F : ∀ (w : World) (mg : Str → Option Value) (fa : Addr) (h : Heap), (K w.params).In h → h.Ns mainGlobals mg → mg d.name = some (.ref fa) →
      ∃ fd : FuncData, (∀ (s : Shared) (u : Value), BindsTo s fd ⟨[u], []⟩ [(x, u)]) ∧
        ∀ base : Heap, (K w.params).In base → base.Ns mainGlobals mg → FnG l.prog w (K w.params) mg base k fa fd [x] (sp (K w.params) mg))
    (hsp : ∀ (K : PySem.W.Frag) (mg : Str → Option Value) (H : Hp) (a : Addr) (ns : List Int), ns.length ≤ n → SqL K H a (ns.map V.int) → sp K mg [.ref a] H (fun v _ => v = .bl true) fun _ _ _ => False) :
    PySem.W.WalkO q loose XP YP l.row.toRowW d [] (fun f vs => PySem.call f vs) := by
  refine Att.attach_call hn hdf ?_
  intro w s0 s1 mg mb fa o pm cd doc a vs ns G Y ho hd hcd hmg hobj hints hlen hg
  obtain ⟨fd, hb, hF⟩ := F w mg fa _ (hY w _ Y) G.T.g hmg
  exact law_G (hY w _ Y) G.T.g G.T.b G.T.builtins G.T.nolimit hg hobj hints (Nat.le_trans hlen hn2) hr hF hb fun H hS => hsp _ mg H a ns hlen hS
end DL
/-! ## DLh.lean -/
set_option Elab.async false
set_option linter.all false
set_option maxRecDepth 100000
set_option maxHeartbeats 4000000
namespace DL
open PySem L2
open PyProof.Rows (envOfC)

/-! ### a def's promise, by what it is on data -/
def outB (o : Option (List D)) (bs : List B) : List B := bs.map fun b => match b with
  | .io _ => (match o with
    | some l => B.io l
    | none => B.un)
  | _ => B.un
def okB : B → Bool
  | .im _ => true
  | .mu _ => true
  | _ => false
def okA : B → Bool
  | .im _ => true
  | .io _ => true
  | _ => false
/-- the caller's list behind the body -/
def outOf (bs : List B) (g : Gm) : Option (Option (List D)) := match bs with
  | .io _ :: _ => (match (g[0]? : Option B) with
    | some (B.io l) => some (some l)
    | _ => none)
  | _ => some none
/-- a def of n parameters and m further names; only the first argument may be lent -/
def fnD (n m : Nat) (body : Gm → SR) (bs : List B) : FR :=
  if (decide (bs.length = n) && bs.all okA && (bs.drop 1).all fun b => match b with | .im _ => true | _ => false) = true then
    (match body (bs ++ List.replicate m .un) with
    | .rt b g => (match outOf bs g with
      | some o => if okB b = true then .ok b o else .no
      | none => .no)
    | .nx g => (match outOf bs g with
      | some o => .ok (.im .none) o
      | none => .no)
    | .ex e g => (match outOf bs g with
      | some o => .ex e o
      | none => .no)
    | _ => .no) else .no
def spD (K : PySem.W.Frag) (mg : Str → Option Value) (den : List B → FR) : Sp := fun vs H Q E => ∃ Z bs, Z.He = H ∧ Stx K Z bs (vs.map some) [] H Z.Hf ∧ match den bs with
  | .ok b o => ∀ x H' Hf', Same Z.Hf Hf' → Stx K Z (outB o bs) (vs.map some) [(x, .v b)] H' Hf' → Q x H'
  | .ex e o => ∀ cls d H' Hf', Same Z.Hf Hf' → Stx K Z (outB o bs) (vs.map some) [] H' Hf' → IsEx K mg Hf' cls d e → E cls d H'
  | .no => False
abbrev WxE (E : XK) : WX := fun cls d _ H => E cls d H
section
variable {K : PySem.W.Frag} {Z : Zs} {g g' : Gm} {σ σ' : L2.St} {ps qs : List (V × W)} {H H' Hf Hf' : Hp}
theorem start_stx {vs : List V} {bs : List B} {N : List Str} {n : Nat} (S : Stx K Z bs (vs.map some) [] H Hf) (hl : N.length - vs.length = n) : Stx K Z (bs ++ List.replicate n .un) (L2.start N vs) [] H Hf := by
  have l0 := S.len
  have er : ∀ p ∈ rts (L2.start N vs) (bs ++ List.replicate n .un) [], p ∈ rts (vs.map some) bs [] ∨ p = (none, B.un) := fun p hp => by
    unfold rts L2.start at hp
    rw [hl, List.zip_append l0] at hp
    simp only [List.map_nil, List.append_nil] at hp
    rcases List.mem_append.mp hp with h | h
    · exact .inl (by unfold rts; simp only [List.map_nil, List.append_nil]; exact h)
    · refine .inr ?_
      obtain ⟨a, b⟩ := p
      have h1 := List.of_mem_zip h
      rw [List.eq_of_mem_replicate h1.1, List.eq_of_mem_replicate h1.2]
  refine ⟨by unfold L2.start; rw [List.length_append, List.length_append, List.length_replicate, List.length_replicate, l0, hl], S.frz, S.out, S.old, S.new, S.iol, fun p hp => ?_, fun a => ?_, fun y j m => by simp at m⟩
  · rcases er p hp with h | h
    · exact S.rel p h
    · rw [h]; trivial
  · have e1 : rts (L2.start N vs) (bs ++ List.replicate n .un) [] = rts (vs.map some) bs [] ++ (List.replicate n (none, B.un)) := by
      unfold rts L2.start
      rw [hl, List.zip_append l0]
      simp only [List.map_nil, List.append_nil]
      congr 1
      rw [List.zip_replicate]
      simp
    rw [e1, cnt_append]
    have e2 : ∀ n, cnt a (List.replicate n ((none : Option V), B.un)) = 0 := by
      intro n
      induction n with
      | zero => rfl
      | succ n ih => rw [List.replicate_succ]; show ow a (none, B.un) + _ = 0; rw [ow_un, ih]
    rw [e2]
    exact S.nod a
/-- what the caller may know of its own slots behind the body -/
theorem end_stx {vs : List V} {bs : List B} {o : Option (List D)} {H0 Hf0 : Hp} (S0 : Stx K Z bs (vs.map some) [] H0 Hf0) (S : Stx K Z g σ qs H Hf) (na : NoAl qs) (ho : outOf bs g = some o) (hb : bs.all okA = true) (h1 : ((bs.drop 1).all fun b => match b with | .im _ => true | _ => false) = true) :
    Stx K Z (outB o bs) (vs.map some) qs H Hf := by
  have mk : ∀ (r : List Rt), r.length = bs.length → (∀ a, cnt a r + cnt a (qs.map root) ≤ 1) → (∀ p ∈ r, RB K Z H Hf p.1 p.2) → (vs.map some).zip (outB o bs) = r → Stx K Z (outB o bs) (vs.map some) qs H Hf := fun r hl hc hr er => by
    refine ⟨by unfold outB; rw [List.length_map, List.length_map]; have := S0.len; rw [List.length_map] at this; exact this, S.frz, S.out, S.old, S.new, S.iol, fun p hp => ?_, fun a => ?_, fun y j m => (na y j m).elim⟩
    · unfold rts at hp
      rw [er] at hp
      rcases List.mem_append.mp hp with h | h
      · exact hr p h
      · exact S.rel p (List.mem_append_right _ h)
    · unfold rts
      rw [er, cnt_append]
      exact hc a
  have uns : ∀ (vs : List V) (bs : List B), (bs.all fun b => match b with | .im _ => true | _ => false) = true → ∀ p ∈ (vs.map some).zip (outB o bs), p.2 = B.un := by
    intro vs bs
    induction bs generalizing vs with
    | nil => intro _ p hp; simp [outB] at hp
    | cons b bs ih =>
      intro h p hp
      cases vs with
      | nil => simp at hp
      | cons v vs =>
        simp only [List.all_cons, Bool.and_eq_true] at h
        have e : outB o (b :: bs) = B.un :: outB o bs := by
          cases b with
          | im d => rfl
          | _ => exact absurd h.1 (by simp)
        rw [e] at hp
        rcases List.mem_cons.mp hp with rfl | hp
        · rfl
        · exact ih vs h.2 p hp
  have cuns : ∀ (r : List Rt) (a : Addr), (∀ p ∈ r, p.2 = B.un) → cnt a r = 0 := by
    intro r a
    induction r with
    | nil => intro _; rfl
    | cons p r ih =>
      intro h
      show ow a p + cnt a r = 0
      obtain ⟨u, b⟩ := p
      have : b = B.un := h (u, b) List.mem_cons_self
      subst this
      rw [ow_un, ih fun q hq => h q (List.mem_cons_of_mem _ hq)]
  have lq : ∀ a, cnt a (qs.map root) ≤ 1 := fun a => by
    have := S.nod a
    unfold rts at this
    rw [cnt_append] at this
    omega
  have lz : ((vs.map some).zip (outB o bs)).length = bs.length := by
    have := S0.len
    rw [List.length_zip]
    unfold outB
    rw [List.length_map] at this ⊢
    rw [List.length_map]
    omega
  have plain : (∀ p ∈ (vs.map some).zip (outB o bs), p.2 = B.un) → Stx K Z (outB o bs) (vs.map some) qs H Hf := fun h =>
    mk _ lz (fun a => by rw [cuns _ a h]; have := lq a; omega) (fun p hp => by rw [h p hp]; trivial) rfl
  cases bs with
  | nil => exact plain (uns vs [] rfl)
  | cons b bs =>
    cases vs with
    | nil => have := S0.len; simp at this
    | cons v vs =>
      cases b with
      | un => simp [okA] at hb
      | ob => simp [okA] at hb
      | mu l => simp [okA] at hb
      | im d => exact plain (uns (v :: vs) (.im d :: bs) (by simpa using h1))
      | io l =>
        simp only [outOf] at ho
        cases eg : g[0]? with
        | none => rw [eg] at ho; cases ho
        | some c =>
          rw [eg] at ho
          cases c with
          | io l' =>
            cases ho
            obtain ⟨u, hu⟩ := sl_get S.len eg
            obtain ⟨a, xs, e1, e2, e3, e4, e5⟩ := S.rel _ (S.slot hu eg)
            obtain ⟨a0, xs0, f1, f2, _⟩ := S0.rel (some v, .io l) (by unfold rts; simp)
            dsimp only at e1 f1
            rw [e2] at f2
            cases f2
            cases f1
            subst e1
            have ut := uns vs bs (by simpa using h1)
            refine mk ((some (V.ref a), .io l') :: (vs.map some).zip (outB (some l') bs)) (by exact lz) (fun c => ?_) (fun p hp => ?_) rfl
            · show ow c (some (V.ref a), B.io l') + cnt c ((vs.map some).zip (outB (some l') bs)) + _ ≤ 1
              rw [cuns _ c ut]
              have := S.nod c
              unfold rts at this
              rw [cnt_append] at this
              have k := cnt_mem (a := c) (List.mem_of_getElem? (zip_get hu eg))
              omega
            · rcases List.mem_cons.mp hp with rfl | hp
              · exact ⟨a, xs, rfl, e2, e3, e4, e5⟩
              · rw [ut p hp]; trivial
          | _ => cases ho
end
/-- THE RULE for a def -/
theorem fn_ok {P : Program} {w : World} {K : PySem.W.Frag} {mg : Str → Option Value} {base : Heap} {x qual : Str} {st : Stmt} {f : Addr} {fd : FuncData} {N ps : List Str} {k m : Nat} {body : Gm → SR} (F : Fun K x qual st f fd) (S : FnScope N ps (defScope st))
    (hm : N.length - ps.length = m)
    (hb : ∀ (cdv : Value) (A : Around) (outer : List PySem.Env) (s : Shared) (H : Hp) (E : XK), Rg k (A.deeper (envOfC qual (defScope st) s.heap.objs.size f cdv)) →
      DSs (cxOf (L2.CX P w) P w K mg base N qual (defScope st) f cdv A outer s H E) (WxE E) (defBody st) body) :
    FnG P w K mg base (k + 1) f fd ps (spD K mg (fnD ps.length m body)) := by
  refine DL.Fun.okG F S (fun vs H Q E h => ?_) (fun cdv A outer s H vs Q E hr h => ?_)
  · obtain ⟨Z, bs, _, S0, h⟩ := h
    unfold fnD at h
    by_cases c : (decide (bs.length = ps.length) && bs.all okA && (bs.drop 1).all fun b => match b with | .im _ => true | _ => false) = true
    · simp only [Bool.and_eq_true, decide_eq_true_eq] at c
      have := S0.len
      rw [List.length_map] at this
      omega
    · rw [if_neg c] at h; exact h.elim
  · refine ⟨_, (hb cdv A outer s H E hr).ps, ?_⟩
    obtain ⟨Z, bs, eH, S0, h⟩ := h
    unfold fnD at h
    by_cases c : (decide (bs.length = ps.length) && bs.all okA && (bs.drop 1).all fun b => match b with | .im _ => true | _ => false) = true
    · rw [if_pos c] at h
      simp only [Bool.and_eq_true, decide_eq_true_eq] at c
      have lv := S0.len
      rw [List.length_map] at lv
      have S2 : Stx K Z (bs ++ List.replicate m .un) (L2.start N vs) [] H Z.Hf := start_stx S0 (by rw [lv, c.1.1]; exact hm)
      refine ⟨Z, _, Z.Hf, S2, ?_⟩
      cases eb : body (bs ++ List.replicate m .un) with
      | nx g =>
        rw [eb] at h; dsimp only at h
        intro σ H' Hf' s S1
        cases eo : outOf bs g with
        | none => rw [eo] at h; dsimp only at h
        | some o =>
          rw [eo] at h; dsimp only at h
          exact h .non H' Hf' s (end_stx S0 (Stx.pushIm (ps := []) S1 .non) (fun y j m => by simp at m) eo c.1.2 c.2)
      | rt b g =>
        rw [eb] at h; dsimp only at h
        intro x σ H' Hf' s S1
        cases eo : outOf bs g with
        | none => rw [eo] at h; dsimp only at h
        | some o =>
          rw [eo] at h; dsimp only at h
          have h' : (match (if okB b = true then FR.ok b o else .no) with
            | .ok b o => ∀ x H' Hf', Same Z.Hf Hf' → Stx K Z (outB o bs) (vs.map some) [(x, .v b)] H' Hf' → Q x H'
            | .ex e o => ∀ cls d H' Hf', Same Z.Hf Hf' → Stx K Z (outB o bs) (vs.map some) [] H' Hf' → IsEx K mg Hf' cls d e → E cls d H'
            | .no => False) := h
          by_cases cb : okB b = true
          · rw [if_pos cb] at h'
            exact h' x H' Hf' s (end_stx S0 S1 (fun y j m => by simp at m) eo c.1.2 c.2)
          · rw [if_neg cb] at h'; exact h'.elim
      | ex e g =>
        rw [eb] at h; dsimp only at h
        intro σ cls d H' Hf' S1 ie
        cases eo : outOf bs g with
        | none => rw [eo] at h; dsimp only at h
        | some o =>
          rw [eo] at h; dsimp only at h
          exact h cls d H' Hf' S1.old (end_stx S0 S1 (fun y j m => by simp at m) eo c.1.2 c.2) ie
      | bk g => rw [eb] at h; dsimp only at h
      | ct g => rw [eb] at h; dsimp only at h
      | no => rw [eb] at h; dsimp only at h
    · rw [if_neg c] at h; exact h.elim
end DL
/-! ## DLi.lean -/
set_option Elab.async false
set_option linter.all false
set_option maxRecDepth 100000
set_option maxHeartbeats 4000000
namespace DL
open PySem L2

section
variable {X : Cx} {Wx : WX} {K : PySem.W.Frag} {mg : Str → Option Value} {Z : Zs} {g g' : Gm} {σ σ' : L2.St} {ps qs : List (V × W)} {H H' Hf Hf' : Hp} {x : V} {d : D} {l : List D} {i : Nat} {den : List B → FR}

/-! ### calls of defs -/
theorem cnt_ims : ∀ (xs : List V) (ds : List D) (a : Addr), cnt a ((xs.map some).zip (ds.map B.im)) = 0
  | [], _, _ => by simp [cnt]
  | _ :: _, [], _ => by simp [cnt]
  | x :: xs, d :: ds, a => by
    show ow a (some x, B.im d) + cnt a ((xs.map some).zip (ds.map B.im)) = 0
    rw [ow_im, cnt_ims xs ds a]
theorem rb_ims : ∀ {xs : List V} {ds : List D}, DpAll K Hf xs ds → ∀ p ∈ (xs.map some).zip (ds.map B.im), RB K Z H Hf p.1 p.2
  | _, [], h, p, hp => by cases h; simp at hp
  | _, d :: ds, h, p, hp => by
    cases h with
    | cons h1 h2 =>
      rcases List.mem_cons.mp hp with rfl | hp
      · exact ⟨_, rfl, h1⟩
      · exact rb_ims h2 p hp
/-- the callee's entry -/
theorem call_stx {xs : List V} {ds : List D} (S : Stx K Z g σ ps H Hf) (l : DpAll K Hf xs ds) : Stx K ⟨H, Hf, none, .non⟩ (ds.map B.im) (xs.map some) [] H Hf where
  len := by rw [List.length_map, List.length_map]; exact dpa_len l
  frz := S.frz
  out := fun b o e _ => e
  old := Same.refl _
  new := fun b o e => .inl e
  iol := fun a e => by cases e
  rel := fun p hp => by
    unfold rts at hp
    simp only [List.map_nil, List.append_nil] at hp
    exact rb_ims l p hp
  nod := fun a => by
    unfold rts
    simp only [List.map_nil, List.append_nil]
    rw [cnt_ims]
    exact Nat.zero_le _
  als := fun y j m => by simp at m
theorem call_grow {xs : List V} {b : B} {g2 : Gm} {H1 Hf1 : Hp} (S' : Stx K ⟨H1, Hf1, none, .non⟩ g2 (xs.map some) [(x, .v b)] H' Hf') (hb : okB b = true) : Grow K H1 Hf1 H' Hf' x b where
  hh := fun c o e => S'.out c o e (by simp)
  hf := S'.old
  fh := S'.frz
  nw := S'.new
  is := by
    have r := S'.rel (root (x, .v b)) (S'.root_mem (by simp))
    cases b with
    | un => cases hb
    | ob => cases hb
    | io l => cases hb
    | im d => obtain ⟨y, e1, e2⟩ := r; cases e1; exact e2
    | mu l => obtain ⟨a, ys, e1, e2, e3, e4, e5⟩ := r; cases e1; exact ⟨a, ys, rfl, e2, e3, e4, e5⟩
def frE (g : Gm) : FR → Res W
  | .ok b _ => if okB b = true then .ok (.v b) g else .no
  | .ex e _ => .ex e g
  | .no => .no
def eCall (den : List B → FR) (ta : Gm → Res (List D)) (g : Gm) : Res W := (ta g).bind fun ds g1 => frE g1 (den (ds.map .im))
theorem call_core {xs : List V} {ds : List D} {Q : VK} (S : Stx X.K Z g σ ps H Hf) (l : DpAll X.K Hf xs ds) (q : GEnd X Wx Z σ (RP X Z σ ps Hf Q) (frE g (den (ds.map .im)))) : spD X.K X.mg den xs H Q (fun cls d H' => Wx cls d σ H') := by
  refine ⟨⟨H, Hf, none, .non⟩, ds.map .im, rfl, call_stx S l, ?_⟩
  cases e : den (ds.map B.im) with
  | no => rw [e] at q; exact q.elim
  | ok b o =>
    rw [e] at q
    have q' : GEnd X Wx Z σ (RP X Z σ ps Hf Q) (if okB b = true then .ok (.v b) g else .no) := q
    by_cases c : okB b = true
    · rw [if_pos c] at q'
      intro x H' Hf' s S'
      have G := call_grow S' c
      exact q' x H' Hf' s (S.grow G)
    · rw [if_neg c] at q'; exact q'.elim
  | ex exn o =>
    rw [e] at q
    intro cls d H' Hf' s S' ie
    have q' : XEnd X Wx Z σ exn g := q
    refine q' cls d H' Hf' ?_ ie
    have S1 : Stx X.K Z g σ ps H' Hf' := S.step (fun c o e => S'.out c o e (by simp)) s S'.frz S'.new
    exact Stx.drop (ps := []) (by simpa using S1)
/-- what a caller knows of a def -/
structure Kn (P : Program) (w : World) (K : PySem.W.Frag) (mg : Str → Option Value) (base : Heap) (k : Nat) (x : Str) (f : Addr) (fd : FuncData) (ps : List Str) (den : List B → FR) : Prop where
  ok : FnG P w K mg base k f fd ps (spD K mg den)
  gm : mg x = some (.ref f)
  kp : PySem.W.keepIn K (.ref f) = true
  bi : Binds K fd ps []
theorem de_call {k : Nat} {x : Str} {f : Addr} {fd : FuncData} {prs : List Str} {p pos : Pos} {e : Expr} {es : List Expr} {ta : Gm → Res (List D)} (F : Kn X.prog X.w X.K X.mg X.base k x f fd prs den) (hr : Rg k X.A) (tk : Takes X Wx) (hg : Gl X x) (ha : DAe X Wx (e :: es) ta) (hdb : (x == ("__debug__" : Str)) = false := by decide)
    (he : starEach (e :: es) X.env = (false, eval e X.env) :: starEach es X.env := by rfl) (hpl : (backTo pos (starEach es X.env)).any (·.1) = false := by rfl) : DE X Wx (.Call (.Name x p) (e :: es) [] pos) (eCall den ta) := ⟨PE.imp (pe_callG F.ok hr hg F.gm F.kp F.bi tk ha.pa hdb he hpl) fun σ H Q ⟨Z, g, ps, Hf, S, q⟩ => by
  refine giveAe ha S q.bind fun ds g1 xs H1 Hf1 q1 s1 l S1 => ?_
  exact call_core S1 l (q1.mono fun w g h => h.mono s1)⟩
def eCall0 (den : List B → FR) (g : Gm) : Res W := frE g (den [])
theorem de_call0 {k : Nat} {x : Str} {f : Addr} {fd : FuncData} {prs : List Str} {p pos : Pos} (F : Kn X.prog X.w X.K X.mg X.base k x f fd prs den) (hr : Rg k X.A) (tk : Takes X Wx) (hg : Gl X x) (hdb : (x == ("__debug__" : Str)) = false := by decide) : DE X Wx (.Call (.Name x p) [] [] pos) (eCall0 den) := ⟨PE.imp (pe_callG0 F.ok hr hg F.gm F.kp F.bi tk hdb) fun σ H Q ⟨Z, g, ps, Hf, S, q⟩ => call_core S .nil q⟩
/-- keywords: perm puts the values into the parameters' order -/
def eCallK (den : List B → FR) (n m : Nat) (gD : List D → List D) (ta tk : Gm → Res (List D)) (g : Gm) : Res W := (ta g).bind fun ds g1 => (tk g1).bind fun es g2 =>
  if (decide (ds.length = n) && decide (es.length = m)) = true then frE g2 (den ((gD (ds ++ es)).map .im)) else .no
structure DK (X : Cx) (Wx : WX) (e : List Keyword) (t : Gm → Res (List D)) : Prop where
  pk : PK X e (fun σ H Q => ∃ Z g ps Hf, Stx X.K Z g σ ps H Hf ∧ GEnd X Wx Z σ (AE X Z σ ps Hf Q) (t g))
theorem PK.imp {X : Cx} {e : List Keyword} {t t' : TA} (h : PK X e t) (i : ∀ σ H Q, t' σ H Q → t σ H Q) : PK X e t' := ⟨fun p pins s σ H Q I k => h.run p pins s σ H Q I (i σ H Q k)⟩
theorem dk_nil : DK X Wx [] aNilE := ⟨PK.imp pk_nil fun σ H Q ⟨Z, g, ps, Hf, S, q⟩ => by
  have q' : AE X Z σ ps Hf Q [] g := q
  exact q' [] H Hf (Same.refl _) .nil S⟩
theorem dk_cons {nm : Option Str} {e : Expr} {kpos : Pos} {kws : List Keyword} {ta : Gm → Res W} {tb : Gm → Res (List D)} (ha : DE X Wx e ta) (hb : DK X Wx kws tb) : DK X Wx (⟨nm, e, kpos⟩ :: kws) (aConsE ta tb) := ⟨PK.imp (pk_cons ha.pe hb.pk) fun σ H Q ⟨Z, g, ps, Hf, S, q⟩ => by
  refine giveE ha S q.bind fun w1 g1 x H1 Hf1 q1 s1 S1 => ?_
  cases e1 : esc g1 w1 with
  | none => rw [e1] at q1; exact q1.elim
  | some r =>
    obtain ⟨d, g2⟩ := r
    rw [e1] at q1
    obtain ⟨Hf2, s2, hd, S2⟩ := S1.esc e1
    have q1' : GEnd X Wx Z σ (AE X Z σ ps Hf Q) ((tb g2).bind fun ds g3 => .ok (d :: ds) g3) := q1
    refine ⟨Z, g2, ps, Hf2, S2.drop, q1'.bind.mono fun ds g3 q3 xs H3 Hf3 s3 l S3 => ?_⟩
    have q3' : AE X Z σ ps Hf Q (d :: ds) g3 := q3
    exact q3' (x :: xs) H3 Hf3 ((s1.trans s2).trans s3) (.cons (dp_mono s3 d x hd) l) S3⟩
/-- how the written arguments come to the parameters: by places -/
def permL {α : Type} (is : List Nat) (l : List α) : List α := is.filterMap fun i => l[i]?
theorem dpa_perm {xs : List V} {ds : List D} (h : DpAll K H xs ds) : ∀ is : List Nat, DpAll K H (permL is xs) (permL is ds)
  | [] => .nil
  | i :: is => by
    have ih := dpa_perm h is
    unfold permL at ih ⊢
    rw [List.filterMap_cons, List.filterMap_cons]
    cases e : ds[i]? with
    | none =>
      have : xs[i]? = none := by
        rw [List.getElem?_eq_none_iff] at e ⊢
        rw [dpa_len h]; exact e
      rw [this]
      exact ih
    | some d =>
      obtain ⟨v, hv, hd⟩ := dpa_get h e
      rw [hv]
      exact .cons hd ih
theorem vals_perm {vs : List V} {us : List Value} (r : Vals vs us) : ∀ is : List Nat, Vals (permL is vs) (permL is us)
  | [] => .nil
  | i :: is => by
    have ih := vals_perm r is
    unfold permL at ih ⊢
    rw [List.filterMap_cons, List.filterMap_cons]
    cases e : vs[i]? with
    | none => rw [r.none_of e]; exact ih
    | some v =>
      obtain ⟨u, hu, ru⟩ := r.get e
      rw [hu]
      exact .cons ru ih
theorem kbn_perm {fd : FuncData} {prs ks : List Str} {n : Nat} {is : List Nat} (h : ∀ us ws : List Value, us.length = n → ws.length = ks.length → bindArgs fd ⟨us, ks.zip ws⟩ = pure (prs.zip (permL is (us ++ ws)))) : KBn K fd prs n ks (fun us ws => permL is (us ++ ws)) (fun vs zs => permL is (vs ++ zs)) :=
  ⟨fun s us ws _ l1 l2 => .of_eq (h us ws l1 l2), fun r rz => vals_perm (r.append rz) is⟩
theorem de_callk0 {k : Nat} {x : Str} {f : Addr} {fd : FuncData} {prs ks : List Str} {is : List Nat} {p pos : Pos} {kws : List Keyword} {tk' : Gm → Res (List D)} (F : Kn X.prog X.w X.K X.mg X.base k x f fd prs den) (hr : Rg k X.A) (tk : Takes X Wx) (hg : Gl X x) (hb : KBn X.K fd prs 0 ks (fun us ws => permL is (us ++ ws)) (fun vs zs => permL is (vs ++ zs))) (hkw : DK X Wx kws tk')
    (hall : (backToKw pos (keywordEach kws X.env)).all (·.1.isSome) = true := by rfl) (hks : (backToKw pos (keywordEach kws X.env)).filterMap (·.1) = ks := by rfl) (hdb : (x == ("__debug__" : Str)) = false := by decide)
    (hpl : (backToKw pos (keywordEach kws X.env)).any (·.1.isNone) = false := by rfl) : DE X Wx (.Call (.Name x p) [] kws pos) (eCallK den 0 ks.length (permL is) aNilE tk') := ⟨PE.imp (pe_callGK0 F.ok hr hg F.gm F.kp hb tk hkw.pk hall hks hdb hpl) fun σ H Q ⟨Z, g, ps, Hf, S, q⟩ => by
  have q' : GEnd X Wx Z σ (RP X Z σ ps Hf Q) ((tk' g).bind fun es g2 => if (decide (([] : List D).length = 0) && decide (es.length = ks.length)) = true then frE g2 (den ((permL is ([] ++ es)).map .im)) else .no) := q
  refine ⟨Z, g, ps, Hf, S, q'.bind.mono fun es g2 q2 zs H2 Hf2 s2 l S2 => ?_⟩
  by_cases c : (decide (([] : List D).length = 0) && decide (es.length = ks.length)) = true
  · rw [if_pos c] at q2
    simp only [Bool.and_eq_true, decide_eq_true_eq] at c
    refine ⟨by rw [dpa_len l]; exact c.2, call_core S2 (dpa_perm (by simpa using l) is) (q2.mono fun w g h => h.mono s2)⟩
  · rw [if_neg c] at q2; exact q2.elim⟩
theorem de_callk {k n : Nat} {x : Str} {f : Addr} {fd : FuncData} {prs ks : List Str} {is : List Nat} {p pos : Pos} {e : Expr} {es : List Expr} {kws : List Keyword} {ta tk' : Gm → Res (List D)} (F : Kn X.prog X.w X.K X.mg X.base k x f fd prs den) (hr : Rg k X.A) (tk : Takes X Wx) (hg : Gl X x) (hb : KBn X.K fd prs n ks (fun us ws => permL is (us ++ ws)) (fun vs zs => permL is (vs ++ zs))) (ha : DAe X Wx (e :: es) ta) (hkw : DK X Wx kws tk')
    (hall : (backToKw pos (keywordEach kws X.env)).all (·.1.isSome) = true := by rfl) (hks : (backToKw pos (keywordEach kws X.env)).filterMap (·.1) = ks := by rfl) (hdb : (x == ("__debug__" : Str)) = false := by decide)
    (he : starEach (e :: es) X.env = (false, eval e X.env) :: starEach es X.env := by rfl)
    (hpl : ((backTo pos (starEach (e :: es) X.env)).any (·.1) || (backToKw pos (keywordEach kws X.env)).any (·.1.isNone)) = false := by rfl) : DE X Wx (.Call (.Name x p) (e :: es) kws pos) (eCallK den n ks.length (permL is) ta tk') := ⟨PE.imp (pe_callGK F.ok hr hg F.gm F.kp hb tk ha.pa hkw.pk hall hks hdb he hpl) fun σ H Q ⟨Z, g, ps, Hf, S, q⟩ => by
  refine giveAe ha S q.bind fun ds g1 vs H1 Hf1 q1 s1 l1 S1 => ?_
  refine ⟨Z, g1, ps, Hf1, S1, q1.bind.mono fun es g2 q2 zs H2 Hf2 s2 l S2 => ?_⟩
  by_cases c : (decide (ds.length = n) && decide (es.length = ks.length)) = true
  · rw [if_pos c] at q2
    simp only [Bool.and_eq_true, decide_eq_true_eq] at c
    refine ⟨by rw [dpa_len l1]; exact c.1, by rw [dpa_len l]; exact c.2, call_core S2 (dpa_perm (dpa_append (dpa_mono s2 _ _ l1) l) is) (q2.mono fun w g h => h.mono (s1.trans s2))⟩
  · rw [if_neg c] at q2; exact q2.elim⟩
/-- the first argument is the list in the slot i, lent -/
def frIo (i : Nat) (g : Gm) : FR → Res W
  | .ok b (some l) => if okB b = true then .ok (.v b) (put' g i l) else .no
  | .ex e (some l) => .ex e (put' g i l)
  | _ => .no
def eCallIo (den : List B → FR) (i : Nat) (ta : Gm → Res (List D)) (g : Gm) : Res W := match lstOf g[i]? with
  | none => .no
  | some _ => (ta g).bind fun ds g1 => match lstOf g1[i]? with
    | none => .no
    | some l => frIo i g1 (den (.io l :: ds.map .im))
theorem io_put {a : Addr} {l l' : List D} {H1 Hf1 : Hp} {xs' : List V} (S : Stx K Z g σ ps H1 Hf1) (h : lstOf g[i]? = some l) (hv : σ[i]? = some (some (.ref a)))
    (hh : ∀ c o, c ≠ a → H1 c = some o → H' c = some o) (hf : Same Hf1 Hf') (fh : Same Hf' H') (nw : ∀ c o, Hf' c = some o → Hf1 c = some o ∨ H1 c = none) (ha : H' a = some (.lst xs')) (hfa : Hf' a = none) (hl : DpAll K Hf' xs' l') :
    Stx K Z (put' g i l') σ ps H' Hf' ∧ ∀ p, H1 p = none → cnt p (rts σ (put' g i l') ps) = 0 := by
  have c0 := fun p hp => S.cnt0 (p := p) hp
  have nn : ∀ c, (∃ o, H1 c = some o) → Hf1 c = none → Hf' c = none := fun c ⟨o, ho⟩ hn => by
    cases e : Hf' c with
    | none => rfl
    | some u =>
      rcases nw c u e with k | k
      · rw [hn] at k; cases k
      · rw [ho] at k; cases k
  cases e : g[i]? with
  | none => rw [e] at h; simp [lstOf] at h
  | some b =>
    rw [e] at h
    have r := S.rel _ (S.slot hv e)
    unfold put'
    rw [e]
    cases b with
    | un => simp [lstOf] at h
    | ob => simp [lstOf] at h
    | im d => simp [lstOf] at h
    | mu l0 =>
      obtain ⟨a', xs, e1, e2, e3, e4, e5⟩ := r
      cases e1
      constructor
      · refine S.rebind hv e (fun c => Nat.le_refl _) ⟨a, xs', rfl, e2, hfa, ha, hl⟩ (fun c o k e => hh c o (ow_ne k) e) hf fh (fun c o e => ?_) (fun c k1 k2 k3 => nn c k3 k2) (fun c o k _ => ?_) (fun c ec => ?_)
        · rcases nw c o e with k | k
          · exact .inl k
          · exact .inr (S.he k)
        · refine ow_of_ne ?_
          rintro rfl
          rw [e2] at k; cases k
        · obtain ⟨o, ho⟩ := S.iol c ec
          by_cases hc : c = a
          · subst hc; exact ⟨_, ha⟩
          · exact ⟨o, hh c o hc ho⟩
      · intro p hp
        rw [rts_setb σ g ps _ hv S.len]
        have c1 := cnt_set (a := p) (q := (some (V.ref a), B.mu l')) (rts_get ps hv e)
        have c2 : ow p (some (V.ref a), B.mu l') = ow p (some (V.ref a), B.mu l0) := rfl
        have := c0 p hp
        omega
    | io l0 =>
      obtain ⟨a', xs, e1, e2, e3, e4, e5⟩ := r
      cases e1
      constructor
      · refine S.rebind hv e (fun c => Nat.le_refl _) ⟨a, xs', rfl, e2, hfa, ha, hl⟩ (fun c o k e => hh c o (ow_ne_io k) e) hf fh (fun c o e => ?_) (fun c k1 k2 k3 => nn c k3 k2) (fun c o k k2 => ?_) (fun c ec => ?_)
        · rcases nw c o e with k | k
          · exact .inl k
          · exact .inr (S.he k)
        · show (if a = c then 1 else 0) = 0
          rw [if_neg]
          rintro rfl
          exact k2 e2
        · obtain ⟨o, ho⟩ := S.iol c ec
          by_cases hc : c = a
          · subst hc; exact ⟨_, ha⟩
          · exact ⟨o, hh c o hc ho⟩
      · intro p hp
        rw [rts_setb σ g ps _ hv S.len]
        have c1 := cnt_set (a := p) (q := (some (V.ref a), B.io l')) (rts_get ps hv e)
        have c2 : ow p (some (V.ref a), B.io l') = ow p (some (V.ref a), B.io l0) := rfl
        have := c0 p hp
        omega
theorem lst_hf (S : Stx K Z g σ ps H Hf) (h : lstOf g[i]? = some l) {a : Addr} (hv : σ[i]? = some (some (.ref a))) : Hf a = none := by
  cases e : g[i]? with
  | none => rw [e] at h; simp [lstOf] at h
  | some b =>
    rw [e] at h
    have r := S.rel _ (S.slot hv e)
    cases b with
    | un => simp [lstOf] at h
    | ob => simp [lstOf] at h
    | im d => simp [lstOf] at h
    | mu l0 => obtain ⟨a', xs, e1, e2, e3, e4, e5⟩ := r; cases e1; exact e3
    | io l0 => obtain ⟨a', xs, e1, e2, e3, e4, e5⟩ := r; cases e1; exact e3
theorem callio_core {xs : List V} {ds : List D} {Q : VK} {a : Addr} (S : Stx X.K Z g σ ps H Hf) (l1 : DpAll X.K Hf xs ds) (h : lstOf g[i]? = some l) (hv : σ[i]? = some (some (.ref a))) (q : GEnd X Wx Z σ (RP X Z σ ps Hf Q) (frIo i g (den (.io l :: ds.map .im)))) :
    spD X.K X.mg den (.ref a :: xs) H Q (fun cls d H' => Wx cls d σ H') := by
  obtain ⟨a2, ys, hv2, ha, hl⟩ := S.lst h
  have ea : a2 = a := by rw [hv] at hv2; cases hv2; rfl
  subst ea
  have hfa := lst_hf S h hv
  refine ⟨⟨H, Hf, some a2, .non⟩, .io l :: ds.map .im, rfl, ⟨by simp [dpa_len l1], S.frz, fun b o e _ => e, Same.refl _, fun b o e => .inl e, fun c e => ?_, fun p hp => ?_, fun c => ?_, fun y j m => by simp at m⟩, ?_⟩
  · cases e; exact ⟨_, ha⟩
  · unfold rts at hp
    simp only [List.map_nil, List.append_nil, List.map_cons, List.zip_cons_cons] at hp
    rcases List.mem_cons.mp hp with rfl | hp
    · exact ⟨a2, ys, rfl, rfl, hfa, ha, hl⟩
    · exact rb_ims l1 p hp
  · unfold rts
    simp only [List.map_nil, List.append_nil, List.map_cons, List.zip_cons_cons]
    show ow c (some (V.ref a2), B.io l) + cnt c ((xs.map some).zip (ds.map B.im)) ≤ 1
    rw [cnt_ims, ow_ref_io]
    split <;> omega
  · -- what the callee leaves of the lent list
    have back : ∀ {b : List (V × W)} {l' : List D} {H' Hf' : Hp}, Stx X.K ⟨H, Hf, some a2, .non⟩ (outB (some l') (.io l :: ds.map .im)) ((V.ref a2 :: xs).map some) b H' Hf' →
        Stx X.K Z (put' g i l') σ ps H' Hf' ∧ ∀ p, H p = none → cnt p (rts σ (put' g i l') ps) = 0 := fun {b l' H' Hf'} S' => by
      obtain ⟨a', zs, e1, e2, e3, e4, e5⟩ := S'.rel (some (V.ref a2), .io l') (List.mem_append_left _ (by simp [outB]))
      cases e1
      exact io_put S h hv (fun c o hc e => S'.out c o e (by simpa using Ne.symm hc)) S'.old S'.frz S'.new e4 e3 e5
    cases e : den (.io l :: ds.map B.im) with
    | no => rw [e] at q; exact q.elim
    | ok b o =>
      rw [e] at q
      cases o with
      | none => exact q.elim
      | some l' =>
        have q' : GEnd X Wx Z σ (RP X Z σ ps Hf Q) (if okB b = true then .ok (.v b) (put' g i l') else .no) := q
        by_cases c : okB b = true
        · rw [if_pos c] at q'
          intro x H' Hf' s S'
          obtain ⟨S2, c0⟩ := back S'
          have r := S'.rel (root (x, .v b)) (S'.root_mem (by simp))
          refine q' x H' Hf' s ?_
          cases b with
          | un => cases c
          | ob => cases c
          | io l => cases c
          | im d => obtain ⟨y, e1, e2⟩ := r; cases e1; exact S2.pushIm e2
          | mu l2 =>
            obtain ⟨p, zs, e1, e2, e3, e4, e5⟩ := r
            cases e1
            have e2' : H p = none := e2
            refine S2.push ⟨p, zs, rfl, S.he e2', e3, e4, e5⟩ fun a => ?_
            by_cases ep : p = a
            · subst ep
              rw [c0 p e2']
              simp [ow]
            · have : ow a (some (V.ref p), B.mu l2) = 0 := by simp [ow, ep]
              rw [this]
              exact S2.nod a
        · rw [if_neg c] at q'; exact q'.elim
    | ex exn o =>
      rw [e] at q
      cases o with
      | none => exact q.elim
      | some l' =>
        intro cls d H' Hf' s S' ie
        have q' : XEnd X Wx Z σ exn (put' g i l') := q
        exact q' cls d H' Hf' (Stx.drop (ps := []) (by simpa using (back S').1)) ie
theorem de_callio {k : Nat} {x : Str} {f : Addr} {fd : FuncData} {prs : List Str} {p pos : Pos} {e : Expr} {es : List Expr} {ta : Gm → Res (List D)} (F : Kn X.prog X.w X.K X.mg X.base k x f fd prs den) (hr : Rg k X.A) (tk : Takes X Wx) (hg : Gl X x) (hi : PE X e (tVar i)) (ha : DAe X Wx es ta) (hdb : (x == ("__debug__" : Str)) = false := by decide)
    (he : starEach (e :: es) X.env = (false, eval e X.env) :: starEach es X.env := by rfl) (hpl : (backTo pos (starEach es X.env)).any (·.1) = false := by rfl) : DE X Wx (.Call (.Name x p) (e :: es) [] pos) (eCallIo den i ta) := ⟨PE.imp (pe_callG F.ok hr hg F.gm F.kp F.bi tk (pa_cons hi ha.pa he) hdb he hpl) fun σ H Q ⟨Z, g, ps, Hf, S, q⟩ => by
  unfold eCallIo at q
  cases e0 : lstOf g[i]? with
  | none => rw [e0] at q; exact q.elim
  | some l0 =>
    rw [e0] at q
    obtain ⟨a, xs, hv, _, _⟩ := S.lst e0
    have q' : GEnd X Wx Z σ (RP X Z σ ps Hf Q) ((ta g).bind fun ds g1 => match lstOf g1[i]? with
      | none => .no
      | some l => frIo i g1 (den (.io l :: ds.map .im))) := q
    refine ⟨_, hv, ?_⟩
    refine giveAe ha S q'.bind fun ds g1 xs H1 Hf1 q1 s1 l S1 => ?_
    cases e1 : lstOf g1[i]? with
    | none => rw [e1] at q1; exact q1.elim
    | some l1 =>
      rw [e1] at q1
      exact callio_core S1 l e1 hv (GEnd.mono (r := frIo i g1 (den (.io l1 :: ds.map .im))) q1 fun w g h => h.mono s1)⟩

/-! ### slices -/
def cutD (l : List D) (lo hi : Option Int) : List D := (l.drop (HT.sIx l.length 0 lo)).take (HT.sIx l.length l.length hi - HT.sIx l.length 0 lo)
theorem dpa_cut {xs : List V} {ds : List D} (h : DpAll K H xs ds) (lo hi : Option Int) : DpAll K H (cutV xs lo hi) (cutD ds lo hi) := by
  unfold cutV cutD
  rw [dpa_len h]
  exact dpa_take _ (dpa_drop _ h)
def pNo (g : Gm) : Res (Option Int) := .ok none g
def pSo (ta : Gm → Res W) (g : Gm) : Res (Option Int) := (ta g).bind fun w g1 => match rd g1 w with
  | some (.int i) => .ok (some i) g1
  | _ => .no
def OPo (X : Cx) (Z : Zs) (σ : L2.St) (ps : List (V × W)) (Hf : Hp) (Q : Option Int → Hp → Prop) : Option Int → Gm → Prop := fun b g' => ∀ H' Hf', Same Hf Hf' → Stx X.K Z g' σ ps H' Hf' → Q b H'
structure DO (X : Cx) (Wx : WX) (e : Option Expr) (t : Gm → Res (Option Int)) : Prop where
  po : PO X e (fun σ H Q => ∃ Z g ps Hf, Stx X.K Z g σ ps H Hf ∧ GEnd X Wx Z σ (OPo X Z σ ps Hf Q) (t g))
theorem PO.imp {X : Cx} {e : Option Expr} {t t' : TO} (h : PO X e t) (i : ∀ σ H Q, t' σ H Q → t σ H Q) : PO X e t' := ⟨fun pins s σ H Q I k => h.run pins s σ H Q I (i σ H Q k)⟩
theorem do_none : DO X Wx none pNo := ⟨PO.imp po_none fun σ H Q ⟨Z, g, ps, Hf, S, q⟩ => q H Hf (Same.refl _) S⟩
theorem rdb_int {i : Int} (h : Rdb K H Hf x (.int i)) : x = .int i := by
  rcases h with h | ⟨_, _, _, _, e, _⟩
  · cases h; rfl
  · cases e
theorem do_some {e : Expr} {ta : Gm → Res W} (he : DE X Wx e ta) : DO X Wx (some e) (pSo ta) := ⟨PO.imp (po_some he.pe) fun σ H Q ⟨Z, g, ps, Hf, S, q⟩ => by
  refine giveE he S q.bind fun w g1 x H1 Hf1 q1 s1 S1 => ?_
  cases e1 : rd g1 w with
  | none => rw [e1] at q1; exact q1.elim
  | some d =>
    rw [e1] at q1
    have r := S1.rd mem_last e1
    cases d with
    | int b => exact ⟨b, rdb_int r, q1 H1 Hf1 s1 S1.drop⟩
    | _ => exact q1.elim⟩
/-- xs[lo:hi]: of a tuple a tuple, of a list a new list -/
def cutB (lo hi : Option Int) : D → Option B
  | .list l => some (.mu (cutD l lo hi))
  | .tuple l => some (.im (.tuple (cutD l lo hi)))
  | _ => none
def eSl (ta : Gm → Res W) (tl th : Gm → Res (Option Int)) (g : Gm) : Res W := (ta g).bind fun w g1 => (tl g1).bind fun lo g2 => (th g2).bind fun hi g3 => put g3 ((rd g3 w).bind (cutB lo hi))
def rSlB (K : PySem.W.Frag) : V → Option Int → Option Int → Hp → VK → Prop := fun x lo hi H Q => rSlL K x lo hi H Q ∨ rSlA K x lo hi H Q
theorem cut_all (l : List D) {lo hi : Option Int} (h : HT.sIx l.length 0 lo = 0 ∧ HT.sIx l.length l.length hi = l.length) : cutD l lo hi = l := by
  unfold cutD
  rw [h.1, h.2]
  simp
theorem cut_grow {lo hi : Option Int} {b : B} {Q : VK} (f : Same Hf H) (r : Rdb K H Hf x d) (h : cutB lo hi d = some b) (q : ∀ z H' Hf', Grow K H Hf H' Hf' z b → Q z H') : rSlB K x lo hi H Q := by
  cases d with
  | list l =>
    simp only [cutB, Option.some.injEq] at h
    subst h
    obtain ⟨a, xs, e, hs, hl⟩ : ∃ a xs, x = .ref a ∧ SqL K H a xs ∧ DpAll K Hf xs l := by
      rcases r with r | ⟨a, xs, l', e1, e2, e3, e4⟩
      · cases r with
        | lst hs hl => exact ⟨_, _, rfl, f.seq hs, hl⟩
      · cases e2; exact ⟨a, xs, e1, .inl (.inl e3), e4⟩
    subst e
    exact .inl ⟨a, xs, rfl, hs, fun p hp => q _ _ _ (Grow.lst f hp (dpa_cut hl lo hi))⟩
  | tuple l =>
    simp only [cutB, Option.some.injEq] at h
    subst h
    rcases r with r | ⟨a, xs, l', e1, e2, e3, e4⟩
    · cases r with
      | tup hs hl =>
        refine .inr ⟨_, _, rfl, same_t f hs, fun c => ?_, fun c p hp => q _ _ _ (Grow.tup f hp (dpa_cut hl lo hi))⟩
        have el := dpa_len hl
        rw [el] at c
        rw [cut_all l c] at q
        exact q _ _ _ (Grow.same f (.tup hs hl))
    · cases e2
  | _ => simp [cutB] at h
theorem de_sl {e : Expr} {lo hi : Option Expr} {pos p2 : Pos} {ta : Gm → Res W} {tl th : Gm → Res (Option Int)} (he : DE X Wx e ta) (hl : DO X Wx lo tl) (hh : DO X Wx hi th) : DE X Wx (.Subscript e (.Slice lo hi none p2) pos) (eSl ta tl th) := ⟨PE.imp (pe_slice (sl_list.or sl_tupA) he.pe hl.po hh.po) fun σ H Q ⟨Z, g, ps, Hf, S, q⟩ => by
  refine giveE he S q.bind fun w g1 x H1 Hf1 q1 s1 S1 => ?_
  refine ⟨Z, g1, _, Hf1, S1, q1.bind.mono fun o g2 q2 H2 Hf2 s2 S2 => ?_⟩
  refine ⟨Z, g2, _, Hf2, S2, q2.bind.mono fun u g3 q3 H3 Hf3 s3 S3 => ?_⟩
  obtain ⟨b, e1, q4⟩ := put_end q3
  cases e2 : rd g3 w with
  | none => rw [e2] at e1; simp at e1
  | some d =>
    rw [e2] at e1
    exact cut_grow S3.frz (S3.rd mem_last e2) e1 fun z H4 Hf4 G => q4 z H4 Hf4 (((s1.trans s2).trans s3).trans G.hf) (S3.drop.grow G)⟩

/-! ### assignments -/
/-- xs[e] = .., xs in the slot i -/
def tgI (i : Nat) (ti : Gm → Res W) (d : D) (g : Gm) : Res Unit := match lstOf g[i]? with
  | none => .no
  | some _ => (ti g).bind fun w g1 => match rd g1 w, lstOf g1[i]? with
    | some (.int k), some l => (match ixN l.length k with
      | some j => .ok () (put' g1 i (l.set j d))
      | none => .no)
    | _, _ => .no
theorem dgt_ix {o e : Expr} {ti : Gm → Res W} {pos : Pos} (hi : PE X o (tVar i)) (he : DE X Wx e ti) (h : ∀ {TI : TE}, PE X e TI → PG X (.Subscript o e pos) (gSub (tVar i) TI rSetL)) : DGt X Wx (.Subscript o e pos) (tgI i ti) := ⟨PG.imp (h he.pe) fun v σ H Q ⟨Z, g, Hf, d, S, hd, q⟩ => by
  unfold tgI at q
  cases e0 : lstOf g[i]? with
  | none => rw [e0] at q; exact q.elim
  | some l0 =>
    rw [e0] at q
    obtain ⟨a, xs, hv, _, _⟩ := S.lst e0
    refine ⟨_, hv, ?_⟩
    have q' : GEnd X Wx Z σ (fun _ g' => ∀ σ' H' Hf', Same Hf Hf' → Stx X.K Z g' σ' [] H' Hf' → Q σ' H') ((ti g).bind fun w g1 => match rd g1 w, lstOf g1[i]? with
      | some (.int k), some l => (match ixN l.length k with
        | some j => .ok () (put' g1 i (l.set j d))
        | none => .no)
      | _, _ => .no) := q
    refine giveE he S q'.bind fun w g1 y H1 Hf1 q1 s1 S1 => ?_
    cases e1 : rd g1 w with
    | none => rw [e1] at q1; exact q1.elim
    | some dk =>
      rw [e1] at q1
      have r := S1.rd mem_last e1
      cases dk with
      | int k =>
        cases e2 : lstOf g1[i]? with
        | none => rw [e2] at q1; exact q1.elim
        | some l =>
          rw [e2] at q1
          have q2 : GEnd X Wx Z σ (fun _ g' => ∀ σ' H' Hf', Same Hf Hf' → Stx X.K Z g' σ' [] H' Hf' → Q σ' H') (match ixN l.length k with
            | some j => .ok () (put' g1 i (l.set j d))
            | none => .no) := q1
          obtain ⟨a2, xs2, hv2, ha2, hl2⟩ := S1.lst e2
          have ea : a2 = a := by rw [hv] at hv2; cases hv2; rfl
          subst ea
          cases e3 : ixN l.length k with
          | none => rw [e3] at q2; exact q2.elim
          | some j =>
            rw [e3] at q2
            refine ⟨a2, xs2, k, j, rfl, rdb_int r, ha2, by rw [dpa_len hl2]; exact e3, ?_⟩
            exact q2 σ _ Hf1 s1 (Stx.put (ps := []) S1.drop e2 hv (dpa_set j hl2 (dp_mono s1 d v hd)))
      | _ => exact q1.elim⟩
def tgAll : List (D → Gm → Res Unit) → List D → Gm → Res Unit
  | [], _, g => .ok () g
  | t :: ts, d :: ds, g => (t d g).noex.bind fun _ g1 => tgAll ts ds g1
  | _ :: _, [], _ => .no
def tgT (ts : List (D → Gm → Res Unit)) (d : D) (g : Gm) : Res Unit := match d with
  | .tuple ds => if ds.length = ts.length then tgAll ts ds g else .no
  | _ => .no
structure DGts (X : Cx) (Wx : WX) (tgs : List Expr) (ts : List (D → Gm → Res Unit)) : Prop where
  pg : PGs X tgs (fun vs σ H Q => ∃ Z g Hf ds, Stx X.K Z g σ [] H Hf ∧ DpAll X.K Hf vs ds ∧ ds.length = ts.length ∧ GEnd X Wx Z σ (fun _ g' => ∀ σ' H' Hf', Same Hf Hf' → Stx X.K Z g' σ' [] H' Hf' → Q σ' H') (tgAll ts ds g))
theorem dgts_nil : DGts X Wx [] [] := ⟨PGs.imp pgs_nil fun v σ H Q ⟨Z, g, Hf, ds, S, hd, hl, q⟩ => by
  cases ds with
  | nil => cases hd; exact ⟨rfl, q σ H Hf (Same.refl _) S⟩
  | cons d ds => simp at hl⟩
theorem tgAll_ok {p : Unit → Gm → Prop} : ∀ (ts : List (D → Gm → Res Unit)) (ds : List D) (g : Gm), GEnd X Wx Z σ p (tgAll ts ds g) → ∃ g', tgAll ts ds g = .ok () g' ∧ p () g'
  | [], _, g, h => ⟨g, rfl, h⟩
  | t :: ts, d :: ds, g, h => by
    obtain ⟨a, g1, e1, h1⟩ := noex_end h.bind
    obtain ⟨g', e2, h2⟩ := tgAll_ok ts ds g1 h1
    refine ⟨g', ?_, h2⟩
    show ((t d g).noex).bind (fun _ g1 => tgAll ts ds g1) = _
    rw [e1]
    exact e2
  | _ :: _, [], g, h => h.elim
theorem dgts_cons {e : Expr} {es : List Expr} {t : D → Gm → Res Unit} {ts : List (D → Gm → Res Unit)} (h1 : DGt X Wx e t) (h2 : DGts X Wx es ts) (h : ∀ {T : TG} {U : TGs}, PG X e T → PGs X es U → PGs X (e :: es) (gCons T U)) : DGts X Wx (e :: es) (t :: ts) := ⟨PGs.imp (h h1.pg h2.pg) fun v σ H Q ⟨Z, g, Hf, ds, S, hd, hl, q⟩ => by
  cases ds with
  | nil => simp at hl
  | cons d ds =>
    cases hd with
    | cons hd1 hd2 =>
      obtain ⟨a, g1, e1, q1⟩ := noex_end q.bind
      refine ⟨_, _, rfl, Z, g, Hf, d, S, hd1, ?_⟩
      rw [e1]
      intro σ1 H1 Hf1 s1 S1
      obtain ⟨g2, e2, q2⟩ := tgAll_ok ts ds g1 q1
      refine ⟨Z, g1, Hf1, ds, S1, dpa_mono s1 _ _ hd2, by simpa using hl, ?_⟩
      rw [e2]
      exact fun σ2 H2 Hf2 s2 S2 => q2 σ2 H2 Hf2 (s1.trans s2) S2⟩
theorem dgt_tup {es : List Expr} {k : Nat} {pos : Pos} {ts : List (D → Gm → Res Unit)} {n : Nat} (hc : X.calm = true) (h : DGts X Wx es ts) (hn : ts.length = n)
    (ht : ∀ {U : TGs}, PGs X es U → PG X (.Tuple es k pos) (gTup X.K n U)) : DGt X Wx (.Tuple es k pos) (tgT ts) := ⟨PG.imp (ht h.pg) fun v σ H Q ⟨Z, g, Hf, d, S, hd, q⟩ => by
  cases d with
  | tuple ds =>
    have q' : GEnd X Wx Z σ (fun _ g' => ∀ σ' H' Hf', Same Hf Hf' → Stx X.K Z g' σ' [] H' Hf' → Q σ' H') (if ds.length = ts.length then tgAll ts ds g else .no) := q
    by_cases c : ds.length = ts.length
    · rw [if_pos c] at q'
      cases hd with
      | tup hs hl => exact ⟨_, _, rfl, same_t S.frz hs, by rw [dpa_len hl, c, hn], Z, g, Hf, ds, S, hl, c, q'⟩
    · rw [if_neg c] at q'; exact q'.elim
  | _ => exact q.elim⟩
/-- a target (no bare name) = value -/
def sAsg (t : D → Gm → Res Unit) (ta : Gm → Res W) (g : Gm) : SR := (ta g).bindS fun w g1 => match esc g1 w with
  | some (d, g2) => (t d g2).bindS fun _ g3 => .nx g3
  | none => .no
theorem ds_asg {tg e : Expr} {t : D → Gm → Res Unit} {ta : Gm → Res W} {pos : Pos} (he : DE X Wx e ta) (hg : DGt X Wx tg t) (hs : swapsWithSole [tg] e pos.line X.env = pure false := by rfl) (hw : swappedStores [tg] e X.env = pure none := by rfl)
    (h1 : (assignEach [tg] X.env).map (·.2) = [assign tg X.env] := by rfl) : DS X Wx (.Assign [tg] e pos) (sAsg t ta) := ⟨PS.imp (ps_asg he.pe hg.pg hs hw h1) fun D σ H ⟨Z, g, Hf, S, q⟩ => by
  refine giveES he S q fun w g1 y H1 Hf1 q1 S1 => ?_
  cases e1 : esc g1 w with
  | none => rw [e1] at q1; exact q1.elim
  | some r =>
    obtain ⟨d, g2⟩ := r
    rw [e1] at q1
    obtain ⟨Hf2, s2, hd, S2⟩ := S1.esc e1
    have q2 : SEnd X Wx Z Hf1 D ((t d g2).bindS fun _ g3 => .nx g3) := q1
    refine ⟨Z, g2, Hf2, d, Stx.drop (ps := []) S2, hd, (SEnd.bindS (σ := σ) (q2.mono s2)).mono fun _ g3 q3 σ' H' Hf' s S' => q3 σ' H' Hf' s S'⟩⟩
/-- names = values, side by side -/
def sPar (is : List Nat) (ta : Gm → Res (List W)) (g : Gm) : SR := (ta g).bindS fun ws g1 => match settle g1 ws with
  | some (bs, g2) => if (noIoAll g2 is && noIoB bs && decide (is.length = bs.length)) = true then .nx (setAll g2 is bs) else .no
  | none => .no
theorem par_end {D : Ends} {is : List Nat} {ws : List W} {xs : List V} (S : Stx X.K Z g σ ([] ++ xs.zip ws) H Hf) (l : xs.length = ws.length) (q : SEnd X Wx Z Hf D (match settle g ws with
  | some (bs, g2) => if (noIoAll g2 is && noIoB bs && decide (is.length = bs.length)) = true then .nx (setAll g2 is bs) else .no
  | none => .no)) : is.length = xs.length ∧ ∀ H2, (∀ c o, H c = some o → H2 c = some o) → D.nx (setAllσ σ is xs) H2 := by
  cases e : DL.settle g ws with
  | none => rw [e] at q; exact q.elim
  | some r =>
    obtain ⟨bs, g2⟩ := r
    rw [e] at q
    obtain ⟨Hf', s, l2, S2⟩ := Stx.settle (qs := []) (fun _ _ m => by simp at m) l S e
    have q' : SEnd X Wx Z Hf D (if (noIoAll g2 is && noIoB bs && decide (is.length = bs.length)) = true then .nx (setAll g2 is bs) else .no) := q
    by_cases c : (noIoAll g2 is && noIoB bs && decide (is.length = bs.length)) = true
    · rw [if_pos c] at q'
      simp only [Bool.and_eq_true, decide_eq_true_eq] at c
      have S3 := Stx.storeAll (ps := []) (is := is) (xs := xs) (bs := bs) (by omega) (by omega) (fun _ _ m => by simp at m) S2 c.1.1 c.1.2
      refine ⟨by omega, fun H2 hh => ?_⟩
      refine q' _ H2 Hf' s (S3.step hh (Same.refl _) (fun b u e => hh b u (S3.frz b u e)) fun b o e => .inl e)
    · rw [if_neg c] at q'; exact q'.elim
theorem ds_par2 {i j : Nat} {x y : Str} {a b : Expr} {ta : Gm → Res (List W)} {px py pt pos : Pos} {kt k2 pt2} (hc : X.calm = true) (hN : X.N.Nodup) (hi : X.N[i]? = some x) (hj : X.N[j]? = some y) (hij : i ≠ j)
    (hx : X.env.scope.names.lookup x = some .local) (hy : X.env.scope.names.lookup y = some .local) (ha : DA X Wx [a, b] ta)
    (hw : swappedStores [.Tuple [.Name x px, .Name y py] kt pt] (.Tuple [a, b] k2 pt2) X.env = pure (some [x, y]))
    (hs : swapsWithSole [.Tuple [.Name x px, .Name y py] kt pt] (.Tuple [a, b] k2 pt2) pos.line X.env = pure false := by rfl) :
    DS X Wx (.Assign [.Tuple [.Name x px, .Name y py] kt pt] (.Tuple [a, b] k2 pt2) pos) (sPar [i, j] ta) := ⟨PS.imp (ps_par hc hN hi hj hij hx hy ha.pa hw hs) fun D σ H ⟨Z, g, Hf, S, q⟩ => by
  refine giveA ha S q.bindS fun ws g1 xs H1 Hf1 q1 s1 l S1 => ?_
  obtain ⟨l2, k⟩ := par_end S1 l (SEnd.mono q1 s1)
  match xs, l2 with
  | [v, w], _ =>
    refine ⟨v, w, rfl, ?_⟩
    have := k H1 fun c o e => e
    rw [List.set_comm _ _ hij]
    exact this⟩
theorem ds_par3 {i j l : Nat} {x y z : Str} {a b c : Expr} {ta : Gm → Res (List W)} {px py pz pt pos : Pos} {kt k2 pt2} (hij : i ≠ j) (hil : i ≠ l) (hjl : j ≠ l) (ha : DA X Wx [a, b, c] ta)
    (h : ∀ {T : TA}, PA X [a, b, c] T → PS X (.Assign [.Tuple [.Name x px, .Name y py, .Name z pz] kt pt] (.Tuple [a, b, c] k2 pt2) pos) (tPar3 i j l T)) :
    DS X Wx (.Assign [.Tuple [.Name x px, .Name y py, .Name z pz] kt pt] (.Tuple [a, b, c] k2 pt2) pos) (sPar [i, j, l] ta) := ⟨PS.imp (h ha.pa) fun D σ H ⟨Z, g, Hf, S, q⟩ => by
  refine giveA ha S q.bindS fun ws g1 xs H1 Hf1 q1 s1 ll S1 => ?_
  obtain ⟨l2, k⟩ := par_end S1 ll (SEnd.mono q1 s1)
  match xs, l2 with
  | [u, v, w], _ =>
    refine ⟨u, v, w, rfl, ?_⟩
    have := k H1 fun c o e => e
    have e : setAllσ σ [i, j, l] [u, v, w] = ((σ.set i (some u)).set j (some v)).set l (some w) := by
      show ((σ.set l (some w)).set j (some v)).set i (some u) = _
      rw [List.set_comm (some v) (some u) hij.symm, List.set_comm (some w) (some u) hil.symm, List.set_comm (some w) (some v) hjl.symm]
    rw [e] at this
    exact this⟩
/-- .. through a tuple (more names, constants, names that blocks capture): n names of slots is -/
theorem setσ_comm (σ : L2.St) {i : Nat} {x : V} : ∀ {is : List Nat} {xs : List V}, i ∉ is → (setAllσ σ is xs).set i (some x) = setAllσ (σ.set i (some x)) is xs
  | [], xs, _ => by cases xs <;> rfl
  | j :: is, [], _ => rfl
  | j :: is, y :: xs, h => by
    simp only [List.mem_cons, not_or] at h
    show ((setAllσ σ is xs).set j (some y)).set i (some x) = (setAllσ (σ.set i (some x)) is xs).set j (some y)
    rw [List.set_comm _ _ (Ne.symm h.1), setσ_comm σ h.2]
def gNames (K : PySem.W.Frag) (is : List Nat) : TGs := fun vs σ H Q => vs.length = is.length ∧ Q (setAllσ σ is vs) H
theorem pgs_names_nil : PGs X [] (gNames X.K []) := PGs.imp pgs_nil fun vs σ H Q ⟨hl, q⟩ => by
  cases vs with
  | nil => exact ⟨rfl, q⟩
  | cons v vs => simp at hl
theorem pgs_names_cons {e : Expr} {es : List Expr} {i : Nat} {is : List Nat} (h1 : PG X e (gName i)) (h2 : PGs X es (gNames X.K is)) (nd : i ∉ is) (h : ∀ {T : TG} {U : TGs}, PG X e T → PGs X es U → PGs X (e :: es) (gCons T U)) : PGs X (e :: es) (gNames X.K (i :: is)) := PGs.imp (h h1 h2) fun vs σ H Q ⟨hl, q⟩ => by
  cases vs with
  | nil => simp at hl
  | cons v vs =>
    refine ⟨v, vs, rfl, by simpa using hl, ?_⟩
    rw [← setσ_comm σ nd]
    exact q
theorem ds_parT {es vs : List Expr} {is : List Nat} {ta : Gm → Res (List W)} {pos pt pt2 : Pos} {kt k2} {n : Nat} (ha : DA X Wx vs ta) (hn : PGs X es (gNames X.K is)) (ht : ∀ {U : TGs}, PGs X es U → PG X (.Tuple es kt pt) (gTup X.K n U)) (hl : is.length = n) (hsm : n ≤ 1000)
    (hs : swapsWithSole [.Tuple es kt pt] (.Tuple vs k2 pt2) pos.line X.env = pure false := by rfl) (hw : swappedStores [.Tuple es kt pt] (.Tuple vs k2 pt2) X.env = pure none := by rfl)
    (h1 : (assignEach [.Tuple es kt pt] X.env).map (·.2) = [assign (.Tuple es kt pt) X.env] := by rfl) : DS X Wx (.Assign [.Tuple es kt pt] (.Tuple vs k2 pt2) pos) (sPar is ta) := ⟨PS.imp (ps_asg (pe_tup ha.pa) (ht hn) hs hw h1) fun D σ H ⟨Z, g, Hf, S, q⟩ => by
  refine giveA ha S q.bindS fun ws g1 xs H1 Hf1 q1 s1 ll S1 => ?_
  obtain ⟨l2, k⟩ := par_end S1 ll (SEnd.mono q1 s1)
  refine ⟨Nat.le_trans (by omega : xs.length ≤ 1000) (by decide), fun p hp => ⟨p, xs, rfl, .inl (.inl upd_same), by omega, l2.symm, ?_⟩⟩
  exact k _ (same_new hp)⟩
/-- name op= value: as the plain one -/
def sAug (i : Nat) (f : D → D → Option B) (ta : Gm → Res W) (g : Gm) : SR := match g[i]? with
  | some (.im d) => (ta g).bindS fun w g1 => match (rd g1 w).bind (f d) with
    | some (.im d2) => if noIo g1[i]? = true then .nx (g1.set i (.im d2)) else .no
    | _ => .no
  | _ => .no
end
end DL
/-! ## DLj.lean -/
set_option Elab.async false
set_option linter.all false
set_option maxRecDepth 100000
set_option maxHeartbeats 4000000
namespace DL
open PySem PySem.Spec PyProof.Rows L2

section
variable {X : Cx} {Wx : WX} {K : PySem.W.Frag} {H Hf : Hp} {x y : V} {d : D} {l : List D}
theorem rdb_dp (f : Same Hf H) (r : Rdb K H Hf x d) : Dp K H x d := by
  rcases r with r | ⟨a, xs, l, e1, e2, e3, e4⟩
  · exact dp_mono f d x r
  · subst e1; subst e2
    exact .lst (.inl (.inl e3)) (dpa_mono f l xs e4)
theorem rdb_str {z : Str} (h : Rdb K H Hf x (.str z)) : x = .str z := by
  rcases h with h | ⟨_, _, _, _, e, _⟩
  · cases h; rfl
  · cases e
theorem rdb_non (h : Rdb K H Hf x .none) : x = .non := by
  rcases h with h | ⟨_, _, _, _, e, _⟩
  · cases h; rfl
  · cases e
theorem rdb_list (f : Same Hf H) (r : Rdb K H Hf x (.list l)) : ∃ a xs, x = .ref a ∧ SqL K H a xs ∧ DpAll K Hf xs l := by
  rcases r with r | ⟨a, xs, l', e1, e2, e3, e4⟩
  · cases r with
    | lst hs hl => exact ⟨_, _, rfl, f.seq hs, hl⟩
  · cases e2; exact ⟨a, xs, e1, .inl (.inl e3), e4⟩
theorem rdb_tup (f : Same Hf H) (r : Rdb K H Hf x (.tuple l)) : ∃ a xs, x = .ref a ∧ SqT K Hf a xs ∧ DpAll K Hf xs l := by
  rcases r with r | ⟨a, xs, l', e1, e2, e3, e4⟩
  · cases r with
    | tup hs hl => exact ⟨_, _, rfl, hs, hl⟩
  · cases e2
theorem grow_int (f : Same Hf H) (i : Int) : Grow K H Hf H Hf (.int i) (.im (.int i)) := Grow.same f (.int i)
theorem grow_bl (f : Same Hf H) (b : Bool) : Grow K H Hf H Hf (.bl b) (.im (.bool b)) := Grow.same f (.bl b)

/-! ### operators of ints -/
def fI (C : Int → Int → Bool) (g : Int → Int → Int) : D → D → Option B
  | .int i, .int j => if C i j = true then some (.im (.int (g i j))) else none
  | _, _ => none
def fB (g : Int → Int → Bool) : D → D → Option B
  | .int i, .int j => some (.im (.bool (g i j)))
  | _, _ => none
theorem op2_I {C : Int → Int → Prop} {Cb : Int → Int → Bool} {g : Int → Int → Int} (hc : ∀ i j, Cb i j = true → C i j) : Op2 K (rI C fun i j => .int (g i j)) (fI Cb g) := fun H Hf x y d e b Q f rx ry h q => by
  cases d with
  | int i =>
    cases e with
    | int j =>
      simp only [fI] at h
      by_cases c : Cb i j = true
      · rw [if_pos c] at h
        cases h
        exact ⟨i, j, rdb_int rx, rdb_int ry, hc i j c, q _ _ _ (grow_int f _)⟩
      · rw [if_neg c] at h; cases h
    | _ => simp [fI] at h
  | _ => simp [fI] at h
theorem op2_I0 {g : Int → Int → Int} : Op2 K (rI0 fun i j => .int (g i j)) (fI (fun _ _ => true) g) := fun H Hf x y d e b Q f rx ry h q => by
  cases d with
  | int i =>
    cases e with
    | int j =>
      simp [fI] at h
      subst h
      exact ⟨i, j, rdb_int rx, rdb_int ry, q _ _ _ (grow_int f _)⟩
    | _ => simp [fI] at h
  | _ => simp [fI] at h
theorem op2_B0 {g : Int → Int → Bool} : Op2 K (rI0 fun i j => .bl (g i j)) (fB g) := fun H Hf x y d e b Q f rx ry h q => by
  cases d with
  | int i =>
    cases e with
    | int j =>
      simp [fB] at h
      subst h
      exact ⟨i, j, rdb_int rx, rdb_int ry, q _ _ _ (grow_bl f _)⟩
    | _ => simp [fB] at h
  | _ => simp [fB] at h
/-- + of ints, lists, tuples -/
def fAdd : D → D → Option B
  | .int i, .int j => some (.im (.int (i + j)))
  | .list l, .list m => if small (l.length + m.length) = true then some (.mu (l ++ m)) else none
  | .tuple l, .tuple m => if small (l.length + m.length) = true then some (.im (.tuple (l ++ m))) else none
  | _, _ => none
/-- + of any two lists that may be read -/
def rCatS (K : PySem.W.Frag) : R2 := fun x y H Q => ∃ l b xs zs, x = .ref l ∧ y = .ref b ∧ SqL K H l xs ∧ SqL K H b zs ∧ xs.length + zs.length ≤ sizeLine ∧ ∀ p, H p = none → Q (.ref p) (upd H p (.lst (xs ++ zs)))
theorem op_catS : OpR X (binaryOp .Add) (rCatS X.K) := by
  intro pins s σ H x y v u Q I rx ry h
  obtain ⟨l, b, xs, zs, rfl, rfl, h1, h2, hz, q⟩ := h
  cases rx
  cases ry
  obtain ⟨its, r1, ⟨⟨c1, d1, t1, s1⟩, n1, o1, e1, f1, g1⟩, _⟩ := I.list h1
  obtain ⟨its2, r2, ⟨⟨c2, d2, t2, s2⟩, n2, o2, e2, f2, g2⟩, _⟩ := I.list h2
  dsimp only at e1 f1 g1 e2 f2 g2
  subst e1 f1 g1 e2 f2 g2
  have l1 := r1.length
  have l2 := r2.length
  refine concat_meets ⟨_, o1, rfl⟩ ⟨_, o2, rfl⟩ noFill_list_add seq_list_add PySem.F.slot_list_add PySem.F.entry_list_add (PySem.F.args_list_add_2 _ _) (list_addW l b its.toArray its2.toArray n1 n2 none none s1 s2 (by simp; omega)) ⟨o1, o2, ?_⟩
  have ea : its.toArray ++ its2.toArray = (its ++ its2).toArray := by simp
  rw [ea]
  refine ⟨.ref s.heap.objs.size, _, I.laid (t' := s.toks) (o := .lst (xs ++ zs)) (fun c o e => Heap.get?_push_of_some _ e) (Nat.le_refl _) ?_, rfl, q _ (I.hok.fresh (Nat.le_refl _))⟩
  exact ⟨by rw [List.length_append]; omega, _, 0, r1.append r2, Heap.get?_push_size _ rfl⟩
def rAddA (K : PySem.W.Frag) : R2 := fun x y H Q => rI0 (fun i j => .int (i + j)) x y H Q ∨ rCatS K x y H Q ∨ rCatA K x y H Q
theorem op_addA : OpR X (binaryOp .Add) (rAddA X.K) := op_add.or (op_catS.or op_catA)
theorem op2_add : Op2 K (rAddA K) fAdd := fun H Hf x y d e b Q f rx ry h q => by
  cases d with
  | int i =>
    cases e with
    | int j =>
      simp [fAdd] at h
      subst h
      exact .inl ⟨i, j, rdb_int rx, rdb_int ry, q _ _ _ (grow_int f _)⟩
    | _ => simp [fAdd] at h
  | list l =>
    cases e with
    | list m =>
      simp only [fAdd] at h
      by_cases c : small (l.length + m.length) = true
      · rw [if_pos c] at h
        cases h
        obtain ⟨a, xs, rfl, hs, hl⟩ := rdb_list f rx
        obtain ⟨a2, ys, rfl, hs2, hl2⟩ := rdb_list f ry
        exact .inr (.inl ⟨a, a2, xs, ys, rfl, rfl, hs, hs2, by rw [dpa_len hl, dpa_len hl2]; exact small_le c, fun p hp => q _ _ _ (Grow.lst f hp (dpa_append hl hl2))⟩)
      · rw [if_neg c] at h; cases h
    | _ => simp [fAdd] at h
  | tuple l =>
    cases e with
    | tuple m =>
      simp only [fAdd] at h
      by_cases c : small (l.length + m.length) = true
      · rw [if_pos c] at h
        cases h
        obtain ⟨a, xs, rfl, hs, hl⟩ := rdb_tup f rx
        obtain ⟨a2, ys, rfl, hs2, hl2⟩ := rdb_tup f ry
        refine .inr (.inr ⟨a, a2, xs, ys, rfl, rfl, same_t f hs, same_t f hs2, by rw [dpa_len hl, dpa_len hl2]; exact small_le c, fun e => ?_, fun _ e => ?_, fun _ _ p hp => q _ _ _ (Grow.tup f hp (dpa_append hl hl2))⟩)
        · subst e
          cases l with
          | nil => exact q _ _ _ (Grow.same f (.tup hs2 hl2))
          | cons d l => cases hl
        · subst e
          cases m with
          | nil => rw [List.append_nil] at q; exact q _ _ _ (Grow.same f (.tup hs hl))
          | cons d l => cases hl2
      · rw [if_neg c] at h; cases h
    | _ => simp [fAdd] at h
  | _ => simp [fAdd] at h
/-- - of ints and of bools -/
def b2 (b : Bool) : Int := if b = true then 1 else 0
def fSub : D → D → Option B
  | .int i, .int j => some (.im (.int (i - j)))
  | .bool p, .bool q => some (.im (.int (b2 p - b2 q)))
  | _, _ => none
def rSubB : R2 := fun x y H Q => ∃ p q, x = .bl p ∧ y = .bl q ∧ Q (.int (b2 p - b2 q)) H
theorem op_subB : OpR X (binaryOp .Sub) rSubB := by
  intro pins s σ H x y v u Q I rx ry h
  obtain ⟨p, q, rfl, rfl, k⟩ := h
  cases (show v = Value.bool p from rx)
  cases (show u = Value.bool q from ry)
  have e : ∀ b, b2i b = b2 b := fun b => by cases b <;> rfl
  refine sub_bool ⟨.int (b2 p - b2 q), H, I.tok _, ⟨s.toks, by rw [e, e]⟩, k⟩
def rSubA : R2 := fun x y H Q => rI0 (fun i j => .int (i - j)) x y H Q ∨ rSubB x y H Q
theorem op_subA : OpR X (binaryOp .Sub) rSubA := op_sub.or op_subB
theorem op2_sub : Op2 K rSubA fSub := fun H Hf x y d e b Q f rx ry h q => by
  cases d with
  | int i =>
    cases e with
    | int j =>
      simp [fSub] at h
      subst h
      exact .inl ⟨i, j, rdb_int rx, rdb_int ry, q _ _ _ (grow_int f _)⟩
    | _ => simp [fSub] at h
  | bool p =>
    cases e with
    | bool r =>
      simp [fSub] at h
      subst h
      exact .inr ⟨p, r, rdb_bool rx, rdb_bool ry, q _ _ _ (grow_int f _)⟩
    | _ => simp [fSub] at h
  | _ => simp [fSub] at h
def mulB (i j : Int) : Bool := decide (i.natAbs.log2 + j.natAbs.log2 < 1000000)
def divB (_ j : Int) : Bool := decide (j ≠ 0) && decide (j.natAbs.log2 < 9000)
def modB (_ j : Int) : Bool := decide (j ≠ 0)
def powB (i j : Int) : Bool := decide (0 ≤ j) && decide (j ≤ 1000000) && decide (i.natAbs < 2 ^ 64)
def fMul := fI mulB fun i j => i * j
def fDiv := fI divB fun i j => i.fdiv j
def fMod := fI modB fun i j => i.fmod j
def fPow := fI powB fun i j => i ^ j.toNat
theorem op2_mul : Op2 K (rI CMulW fun i j => .int (i * j)) fMul := op2_I fun i j h => by
  have h2 := of_decide_eq_true h
  exact h2
theorem op_divG : OpR X (binaryOp .FloorDiv) (rI (fun _ j => j ≠ 0 ∧ j.natAbs.log2 < 9000) fun i j => .int (i.fdiv j)) := opI fun _ _ _ _ _ _ _ hc q => floordiv_int hc.1 q (.inl (PyProof.noPylong_of_log2 hc.2))
theorem op2_div : Op2 K (rI (fun _ j => j ≠ 0 ∧ j.natAbs.log2 < 9000) fun i j => .int (i.fdiv j)) fDiv := op2_I fun i j h => by
  simp only [divB, Bool.and_eq_true, decide_eq_true_eq] at h
  exact h
theorem op2_mod : Op2 K (rI (fun _ j => j ≠ 0) fun i j => .int (i.fmod j)) fMod := op2_I fun i j h => of_decide_eq_true h
theorem op2_pow : Op2 K (rI CPow fun i j => .int (i ^ j.toNat)) fPow := op2_I fun i j h => by
  simp only [powB, Bool.and_eq_true, decide_eq_true_eq] at h
  exact ⟨h.1.1, h.1.2, h.2⟩
def fLt := fB fun i j => decide (i < j)
def fLe := fB fun i j => decide (i ≤ j)
def fGt := fB fun i j => decide (j < i)
def fGe := fB fun i j => decide (j ≤ i)
theorem op2_lt : Op2 K (rI0 fun i j => .bl (decide (i < j))) fLt := op2_B0
theorem op2_le : Op2 K (rI0 fun i j => .bl (decide (i ≤ j))) fLe := op2_B0
theorem op2_gt : Op2 K (rI0 fun i j => .bl (decide (j < i))) fGt := op2_B0
theorem op2_ge : Op2 K (rI0 fun i j => .bl (decide (j ≤ i))) fGe := op2_B0
def fNeg : D → Option B
  | .int i => some (.im (.int (-i)))
  | _ => none
theorem op1_neg : Op1 K (rU fun i => .int (-i)) fNeg := fun H Hf x d b Q f rx h q => by
  cases d with
  | int i => simp [fNeg] at h; subst h; exact ⟨i, rdb_int rx, q _ _ _ (grow_int f _)⟩
  | _ => simp [fNeg] at h

/-! ### ==, !=, is, in -/
def shp (d : D) : Bool := SeqAt.shaped d
def fEq (d e : D) : Option B := if (shp d && shp e) = true then some (.im (.bool (PyData.eqv d e))) else none
def fNe (d e : D) : Option B := if (shp d && shp e) = true then some (.im (.bool (!PyData.eqv d e))) else none
theorem op2_eq : Op2 K (rEqD K) fEq := fun H Hf x y d e b Q f rx ry h q => by
  unfold fEq at h
  by_cases c : (shp d && shp e) = true
  · rw [if_pos c] at h
    cases h
    simp only [Bool.and_eq_true] at c
    exact ⟨d, e, rdb_dp f rx, rdb_dp f ry, c.1, c.2, q _ _ _ (grow_bl f _)⟩
  · rw [if_neg c] at h; cases h
theorem op2_ne : Op2 K (rNeD K) fNe := fun H Hf x y d e b Q f rx ry h q => by
  unfold fNe at h
  by_cases c : (shp d && shp e) = true
  · rw [if_pos c] at h
    cases h
    simp only [Bool.and_eq_true] at c
    exact ⟨d, e, rdb_dp f rx, rdb_dp f ry, c.1, c.2, q _ _ _ (grow_bl f _)⟩
  · rw [if_neg c] at h; cases h
def fIs : D → D → Option B
  | .bool a, .bool b => some (.im (.bool (decide (a = b))))
  | _, _ => none
def fIsNot : D → D → Option B
  | .bool a, .bool b => some (.im (.bool (!decide (a = b))))
  | _, _ => none
theorem op2_is : Op2 K (fun x y H Q => ∃ a b, x = .bl a ∧ y = .bl b ∧ Q (.bl (decide (a = b))) H) fIs := fun H Hf x y d e b Q f rx ry h q => by
  cases d with
  | bool p =>
    cases e with
    | bool r => simp only [fIs, Option.some.injEq] at h; subst h; exact ⟨p, r, rdb_bool rx, rdb_bool ry, q _ _ _ (grow_bl f _)⟩
    | _ => simp [fIs] at h
  | _ => simp [fIs] at h
theorem op2_isnot : Op2 K (fun x y H Q => ∃ a b, x = .bl a ∧ y = .bl b ∧ Q (.bl (!decide (a = b))) H) fIsNot := fun H Hf x y d e b Q f rx ry h q => by
  cases d with
  | bool p =>
    cases e with
    | bool r => simp only [fIsNot, Option.some.injEq] at h; subst h; exact ⟨p, r, rdb_bool rx, rdb_bool ry, q _ _ _ (grow_bl f _)⟩
    | _ => simp [fIsNot] at h
  | _ => simp [fIsNot] at h

/-! ### items -/
def fIx : D → D → Option B
  | .list l, .int i => (atI l i).map B.im
  | .tuple l, .int i => (atI l i).map B.im
  | _, _ => none
theorem dpa_at {xs : List V} {ds : List D} {i : Int} {d : D} (h : DpAll K Hf xs ds) (e : atI ds i = some d) : ∃ v, atI xs i = some v ∧ Dp K Hf v d := by
  unfold atI at e ⊢
  rw [dpa_len h]
  cases q : ixN ds.length i with
  | none => rw [q] at e; cases e
  | some j =>
    rw [q] at e
    exact dpa_get h e
def rIxA (K : PySem.W.Frag) : R2 := fun x y H Q => rIxL K x y H Q ∨ rIxT K x y H Q
theorem ix_any : IxR X (rIxA X.K) := ix_list.or ix_tup
theorem op2_ix : Op2 K (rIxA K) fIx := fun H Hf x y d e b Q f rx ry h q => by
  cases d with
  | list l =>
    cases e with
    | int i =>
      simp only [fIx, Option.map_eq_some_iff] at h
      obtain ⟨d', h1, rfl⟩ := h
      obtain ⟨a, xs, rfl, hs, hl⟩ := rdb_list f rx
      obtain ⟨v, hv, hd⟩ := dpa_at hl h1
      exact .inl ⟨a, xs, i, v, rfl, rdb_int ry, hs, hv, q _ _ _ (Grow.same f hd)⟩
    | _ => simp [fIx] at h
  | tuple l =>
    cases e with
    | int i =>
      simp only [fIx, Option.map_eq_some_iff] at h
      obtain ⟨d', h1, rfl⟩ := h
      obtain ⟨a, xs, rfl, hs, hl⟩ := rdb_tup f rx
      obtain ⟨v, hv, hd⟩ := dpa_at hl h1
      exact .inr ⟨a, xs, i, v, rfl, rdb_int ry, same_t f hs, hv, q _ _ _ (Grow.same f hd)⟩
    | _ => simp [fIx] at h
  | _ => simp [fIx] at h

/-! ### built-ins -/
theorem rda1 {xs : List V} (r : RdA K H Hf xs [d]) : ∃ x, xs = [x] ∧ Rdb K H Hf x d := by
  cases r with
  | cons h1 h2 => cases h2; exact ⟨_, rfl, h1⟩
theorem rda2 {xs : List V} {e : D} (r : RdA K H Hf xs [d, e]) : ∃ x y, xs = [x, y] ∧ Rdb K H Hf x d ∧ Rdb K H Hf y e := by
  cases r with
  | cons h1 h2 =>
    cases h2 with
    | cons h2 h3 => cases h3; exact ⟨_, _, rfl, h1, h2⟩
def fLen : List D → Option B
  | [.list l] => some (.im (.int (l.length : Nat)))
  | [.tuple l] => some (.im (.int (l.length : Nat)))
  | [.str z] => if small z.length = true then some (.im (.int (z.length : Nat))) else none
  | _ => none
def rLenA (K : PySem.W.Frag) : List V → Hp → VK → Prop := fun xs H Q => ∃ x n, xs = [x] ∧ LenV K x H n ∧ Q (.int n) H
theorem opn_len : OpN K (rLenA K) fLen := fun H Hf xs ds b Q f r h q => by
  match ds, h with
  | [.list l], h =>
    simp only [fLen, Option.some.injEq] at h
    subst h
    obtain ⟨x, rfl, rx⟩ := rda1 r
    obtain ⟨a, ys, rfl, hs, hl⟩ := rdb_list f rx
    rw [← dpa_len hl] at q
    exact ⟨_, _, rfl, .inl ⟨ys, hs, rfl⟩, q _ _ _ (grow_int f _)⟩
  | [.tuple l], h =>
    simp only [fLen, Option.some.injEq] at h
    subst h
    obtain ⟨x, rfl, rx⟩ := rda1 r
    obtain ⟨a, ys, rfl, hs, hl⟩ := rdb_tup f rx
    rw [← dpa_len hl] at q
    exact ⟨_, _, rfl, .inr ⟨ys, same_t f hs, rfl⟩, q _ _ _ (grow_int f _)⟩
  | [.str z], h =>
    simp only [fLen] at h
    by_cases c : small z.length = true
    · rw [if_pos c] at h
      cases h
      obtain ⟨x, rfl, rx⟩ := rda1 r
      rw [rdb_str rx]
      exact ⟨_, z.length, rfl, ⟨small_le c, rfl⟩, q _ _ _ (grow_int f _)⟩
    · rw [if_neg c] at h; cases h
def fAbs : List D → Option B
  | [.int i] => some (.im (.int (if i < 0 then -i else i)))
  | _ => none
theorem opn_abs : OpN K (fun xs H Q => ∃ i, xs = [.int i] ∧ Q (.int (if i < 0 then -i else i)) H) fAbs := fun H Hf xs ds b Q f r h q => by
  match ds, h with
  | [.int i], h =>
    simp only [fAbs, Option.some.injEq] at h
    subst h
    obtain ⟨x, rfl, rx⟩ := rda1 r
    rw [rdb_int rx]
    exact ⟨i, rfl, q _ _ _ (grow_int f _)⟩
def fMax2 : List D → Option B
  | [.int i, .int j] => some (.im (.int (if j > i then j else i)))
  | _ => none
def fMin2 : List D → Option B
  | [.int i, .int j] => some (.im (.int (if j < i then j else i)))
  | _ => none
theorem opn_max2 : OpN K (fun xs H Q => ∃ i j, xs = [.int i, .int j] ∧ Q (.int (if j > i then j else i)) H) fMax2 := fun H Hf xs ds b Q f r h q => by
  match ds, h with
  | [.int i, .int j], h =>
    simp only [fMax2, Option.some.injEq] at h
    subst h
    obtain ⟨x, y, rfl, rx, ry⟩ := rda2 r
    rw [rdb_int rx, rdb_int ry]
    exact ⟨i, j, rfl, q _ _ _ (grow_int f _)⟩
theorem opn_min2 : OpN K (fun xs H Q => ∃ i j, xs = [.int i, .int j] ∧ Q (.int (if j < i then j else i)) H) fMin2 := fun H Hf xs ds b Q f r h q => by
  match ds, h with
  | [.int i, .int j], h =>
    simp only [fMin2, Option.some.injEq] at h
    subst h
    obtain ⟨x, y, rfl, rx, ry⟩ := rda2 r
    rw [rdb_int rx, rdb_int ry]
    exact ⟨i, j, rfl, q _ _ _ (grow_int f _)⟩
/-- the ints of a list -/
def intsOf : List D → Option (List Int)
  | [] => some []
  | .int i :: l => (intsOf l).map (i :: ·)
  | _ :: _ => none
theorem intsOf_eq : ∀ {l : List D} {ns : List Int}, intsOf l = some ns → l = ns.map PyData.int
  | [], ns, h => by simp [intsOf] at h; subst h; rfl
  | d :: l, ns, h => by
    cases d with
    | int i =>
      simp only [intsOf, Option.map_eq_some_iff] at h
      obtain ⟨m, h1, rfl⟩ := h
      rw [intsOf_eq h1]; rfl
    | _ => simp [intsOf] at h
theorem intsOf_map : ∀ ns : List Int, intsOf (ns.map PyData.int) = some ns
  | [] => rfl
  | n :: ns => by
    show (intsOf (ns.map PyData.int)).map (n :: ·) = _
    rw [intsOf_map ns]; rfl
def fSum : List D → Option B
  | [.list l] => (intsOf l).map fun ns => .im (.int ns.sum)
  | _ => none
theorem opn_sum : OpN K (rSum K) fSum := fun H Hf xs ds b Q f r h q => by
  match ds, h with
  | [.list l], h =>
    simp only [fSum, Option.map_eq_some_iff] at h
    obtain ⟨ns, h1, rfl⟩ := h
    obtain ⟨x, rfl, rx⟩ := rda1 r
    obtain ⟨a, ys, rfl, hs, hl⟩ := rdb_list f rx
    rw [intsOf_eq h1] at hl
    rw [dpa_ints hl] at hs
    exact ⟨a, ns, rfl, hs, q _ _ _ (grow_int f _)⟩
def maxL : List Int → Option Int
  | [] => none
  | n :: ns => some (ns.foldl (fun a b => if b > a then b else a) n)
theorem maxL_mem : ∀ {ns : List Int} {m : Int}, maxL ns = some m → m ∈ ns ∧ ∀ y ∈ ns, y ≤ m
  | [], m, h => by cases h
  | n :: ns, m, h => by
    have key : ∀ (ns : List Int) (a : Int), (ns.foldl (fun a b => if b > a then b else a) a = a ∨ ns.foldl (fun a b => if b > a then b else a) a ∈ ns) ∧ a ≤ ns.foldl (fun a b => if b > a then b else a) a ∧ ∀ y ∈ ns, y ≤ ns.foldl (fun a b => if b > a then b else a) a := by
      intro ns
      induction ns with
      | nil => intro a; exact ⟨.inl rfl, Int.le_refl _, fun y h => by cases h⟩
      | cons b ns ih =>
        intro a
        obtain ⟨h1, h2, h3⟩ := ih (if b > a then b else a)
        simp only [List.foldl_cons]
        refine ⟨?_, ?_, ?_⟩
        · rcases h1 with h1 | h1
          · rw [h1]
            split
            · exact .inr List.mem_cons_self
            · exact .inl rfl
          · exact .inr (List.mem_cons_of_mem _ h1)
        · refine Int.le_trans ?_ h2
          split <;> omega
        · intro y hy
          rcases List.mem_cons.mp hy with rfl | hy
          · refine Int.le_trans ?_ h2
            split <;> omega
          · exact h3 y hy
    simp only [maxL, Option.some.injEq] at h
    obtain ⟨h1, h2, h3⟩ := key ns n
    rw [h] at h1 h2 h3
    refine ⟨?_, fun y hy => ?_⟩
    · rcases h1 with h1 | h1
      · rw [h1]; exact List.mem_cons_self
      · exact List.mem_cons_of_mem _ h1
    · rcases List.mem_cons.mp hy with rfl | hy
      · exact h2
      · exact h3 y hy
def fMax1 : List D → Option B
  | [.list l] => (intsOf l).bind fun ns => (maxL ns).map fun m => .im (.int m)
  | _ => none
theorem opn_max1 : OpN K (rMax K) fMax1 := fun H Hf xs ds b Q f r h q => by
  match ds, h with
  | [.list l], h =>
    simp only [fMax1, Option.bind_eq_some_iff, Option.map_eq_some_iff] at h
    obtain ⟨ns, h1, m, h2, rfl⟩ := h
    obtain ⟨x, rfl, rx⟩ := rda1 r
    obtain ⟨a, ys, rfl, hs, hl⟩ := rdb_list f rx
    rw [intsOf_eq h1] at hl
    rw [dpa_ints hl] at hs
    obtain ⟨k1, k2⟩ := maxL_mem h2
    refine ⟨a, ns, rfl, hs, List.length_pos_of_mem k1, fun m' m1 m2 => ?_⟩
    have : m' = m := Int.le_antisymm (k2 m' m1) (m2 m k1)
    rw [this]
    exact q _ _ _ (grow_int f _)
def fInt : List D → Option B
  | [.int i] => some (.im (.int i))
  | [.bool b] => some (.im (.int (if b then 1 else 0)))
  | _ => none
theorem opn_int : OpN K (fun xs H Q => (∃ i, xs = [.int i] ∧ Q (.int i) H) ∨ ∃ k, xs = [.bl k] ∧ Q (.int (if k then 1 else 0)) H) fInt := fun H Hf xs ds b Q f r h q => by
  match ds, h with
  | [.int i], h =>
    simp only [fInt, Option.some.injEq] at h
    subst h
    obtain ⟨x, rfl, rx⟩ := rda1 r
    rw [rdb_int rx]
    exact .inl ⟨i, rfl, q _ _ _ (grow_int f _)⟩
  | [.bool i], h =>
    simp only [fInt, Option.some.injEq] at h
    subst h
    obtain ⟨x, rfl, rx⟩ := rda1 r
    rw [rdb_bool rx]
    exact .inr ⟨i, rfl, q _ _ _ (grow_int f _)⟩
def fGcd : List D → Option B
  | [.int i, .int j] => some (.im (.int ((Nat.gcd i.natAbs j.natAbs : Nat) : Int)))
  | _ => none
theorem opn_gcd : OpN K rGcd fGcd := fun H Hf xs ds b Q f r h q => by
  match ds, h with
  | [.int i, .int j], h =>
    simp only [fGcd, Option.some.injEq] at h
    subst h
    obtain ⟨x, y, rfl, rx, ry⟩ := rda2 r
    rw [rdb_int rx, rdb_int ry]
    exact ⟨i, j, rfl, q _ _ _ (grow_int f _)⟩
def fDivmod : List D → Option B
  | [.int i, .int j] => if (decide (0 < j) && decide (j.natAbs.log2 < 9000)) = true then some (.im (.tuple [.int (i / j), .int (i % j)])) else none
  | _ => none
theorem opn_divmod : OpN K (fun xs H Q => ∃ i j, xs = [.int i, .int j] ∧ CDivP i j ∧ ∀ p, H p = none → Q (.ref p) (upd H p (.tup [.int (i / j), .int (i % j)]))) fDivmod := fun H Hf xs ds b Q f r h q => by
  match ds, h with
  | [.int i, .int j], h =>
    simp only [fDivmod] at h
    by_cases c : (decide (0 < j) && decide (j.natAbs.log2 < 9000)) = true
    · rw [if_pos c] at h
      cases h
      simp only [Bool.and_eq_true, decide_eq_true_eq] at c
      obtain ⟨x, y, rfl, rx, ry⟩ := rda2 r
      rw [rdb_int rx, rdb_int ry]
      exact ⟨i, j, rfl, ⟨c.1, PyProof.noPylong_of_log2 c.2⟩, fun p hp => q _ _ _ (Grow.tup f hp (.cons (.int _) (.cons (.int _) .nil)))⟩
    · rw [if_neg c] at h; cases h
def fList : List D → Option B
  | [.list l] => some (.mu l)
  | [.tuple l] => some (.mu l)
  | _ => none
theorem opn_list : OpN K (fun xs H Q => ∃ p ys, xs = [.ref p] ∧ (SqL K H p ys ∨ SqT K H p ys) ∧ ∀ l, H l = none → Q (.ref l) (upd H l (.lst ys))) fList := fun H Hf xs ds b Q f r h q => by
  match ds, h with
  | [.list l], h =>
    simp only [fList, Option.some.injEq] at h
    subst h
    obtain ⟨x, rfl, rx⟩ := rda1 r
    obtain ⟨a, ys, rfl, hs, hl⟩ := rdb_list f rx
    exact ⟨a, ys, rfl, .inl hs, fun p hp => q _ _ _ (Grow.lst f hp hl)⟩
  | [.tuple l], h =>
    simp only [fList, Option.some.injEq] at h
    subst h
    obtain ⟨x, rfl, rx⟩ := rda1 r
    obtain ⟨a, ys, rfl, hs, hl⟩ := rdb_tup f rx
    exact ⟨a, ys, rfl, .inr (same_t f hs), fun p hp => q _ _ _ (Grow.lst f hp hl)⟩
def fTuple : List D → Option B
  | [.list l] => some (.im (.tuple l))
  | [.tuple l] => some (.im (.tuple l))
  | _ => none
theorem opn_tuple : OpN K (fun xs H Q => ∃ p ys, xs = [.ref p] ∧ ((SqL K H p ys ∧ ∀ l, H l = none → Q (.ref l) (upd H l (.tup ys))) ∨ (SqT K H p ys ∧ Q (.ref p) H))) fTuple := fun H Hf xs ds b Q f r h q => by
  match ds, h with
  | [.list l], h =>
    simp only [fTuple, Option.some.injEq] at h
    subst h
    obtain ⟨x, rfl, rx⟩ := rda1 r
    obtain ⟨a, ys, rfl, hs, hl⟩ := rdb_list f rx
    exact ⟨a, ys, rfl, .inl ⟨hs, fun p hp => q _ _ _ (Grow.tup f hp hl)⟩⟩
  | [.tuple l], h =>
    simp only [fTuple, Option.some.injEq] at h
    subst h
    obtain ⟨x, rfl, rx⟩ := rda1 r
    obtain ⟨a, ys, rfl, hs, hl⟩ := rdb_tup f rx
    exact ⟨a, ys, rfl, .inr ⟨same_t f hs, q _ _ _ (Grow.same f (.tup hs hl))⟩⟩
def boolsOf : List D → Option (List Bool)
  | [] => some []
  | .bool i :: l => (boolsOf l).map (i :: ·)
  | _ :: _ => none
theorem boolsOf_dp : ∀ {l : List D} {bs : List Bool} {xs : List V}, boolsOf l = some bs → DpAll K Hf xs l → xs = bs.map V.bl
  | [], bs, xs, h, hl => by simp [boolsOf] at h; subst h; cases hl; rfl
  | d :: l, bs, xs, h, hl => by
    cases d with
    | bool i =>
      simp only [boolsOf, Option.map_eq_some_iff] at h
      obtain ⟨m, h1, rfl⟩ := h
      cases hl with
      | cons h2 h3 => cases h2; rw [boolsOf_dp h1 h3]; rfl
    | _ => simp [boolsOf] at h
def fAll : List D → Option B
  | [.list l] => (boolsOf l).map fun bs => .im (.bool (bs.all id))
  | _ => none
theorem opn_all : OpN K (rAll K) fAll := fun H Hf xs ds b Q f r h q => by
  match ds, h with
  | [.list l], h =>
    simp only [fAll, Option.map_eq_some_iff] at h
    obtain ⟨bs, h1, rfl⟩ := h
    obtain ⟨x, rfl, rx⟩ := rda1 r
    obtain ⟨a, ys, rfl, hs, hl⟩ := rdb_list f rx
    rw [boolsOf_dp h1 hl] at hs
    exact ⟨a, bs, rfl, hs, q _ _ _ (grow_bl f _)⟩

/-! ### isinstance of a built-in class -/
def tyN : D → Option String
  | .none => some "NoneType"
  | .bool _ => some "bool"
  | .int _ => some "int"
  | .str _ => some "str"
  | .list _ => some "list"
  | .tuple _ => some "tuple"
  | .dict _ => none
theorem ty_of (f : Same Hf H) {n : String} (h : tyN d = some n) (r : Rdb K H Hf x d) : TyX K H x (.type n) := by
  cases d with
  | none => cases h; rw [rdb_non r]; exact .base .non
  | bool b => cases h; rw [rdb_bool r]; exact .base (.bl b)
  | int i => cases h; rw [rdb_int r]; exact .base (.int i)
  | str z => cases h; rw [rdb_str r]; exact .base (.str z)
  | list l =>
    cases h
    obtain ⟨a, xs, rfl, hs, _⟩ := rdb_list f r
    rcases hs with (h | ⟨o, h⟩) | ⟨o, its, n, h, hc, _⟩
    · exact .base (.lst h)
    · exact .base (.frz h)
    · exact .kList h hc
  | tuple l =>
    cases h
    obtain ⟨a, xs, rfl, hs, _⟩ := rdb_tup f r
    rcases same_t f hs with (h | ⟨o, h⟩) | ⟨o, its, n, h, hc, _⟩
    · exact .base (.tup h)
    · exact .fTuple h
    · exact .kTuple h hc
  | dict _ => cases h
/-- isinstance(.., T): the answers by the type's name -/
def isB (T : String) (d : D) : Option Bool := (tyN d).bind fun n => kitB n T
def eIsi (T : String) (ta : Gm → Res W) (g : Gm) : Res W := (ta g).bind fun w g1 => match (rd g1 w).bind (isB T) with
  | some b => .ok (.v (.im (.bool b))) g1
  | none => .no
theorem de_isi {e : Expr} {T : String} {Tx : Str} {p p2 pos : Pos} {ta : Gm → Res W} (he : DE X Wx e ta) (hg : Gl X "isinstance") (hm : X.mg "isinstance" = none) (hT : PE X (.Name Tx p2) (tC (.ty T)))
    (h1 : starEach (e :: [.Name Tx p2]) X.env = (false, eval e X.env) :: starEach [.Name Tx p2] X.env := by rfl) (h2 : starEach (.Name Tx p2 :: []) X.env = (false, eval (.Name Tx p2) X.env) :: starEach [] X.env := by rfl)
    (hpl : (backTo pos (starEach [.Name Tx p2] X.env)).any (·.1) = false := by rfl) : DE X Wx (.Call (.Name "isinstance" p) [e, .Name Tx p2] [] pos) (eIsi T ta) := ⟨PE.imp (pe_callB call_isi hg hm boot_isinstance (pa_cons he.pe (pa_cons hT pa_nil h2) h1) (by decide) (by decide) h1 hpl) fun σ H Q ⟨Z, g, ps, Hf, S, q⟩ => by
  refine giveE he S q.bind fun w g1 x H1 Hf1 q1 s1 S1 => ?_
  cases e1 : rd g1 w with
  | none => rw [e1] at q1; exact q1.elim
  | some d =>
    rw [e1] at q1
    have q1' : GEnd X Wx Z σ (RP X Z σ ps Hf Q) (match isB T d with
      | some b => .ok (.v (.im (.bool b))) g1
      | none => .no) := q1
    cases e2 : isB T d with
    | none => rw [e2] at q1'; exact q1'.elim
    | some b =>
      rw [e2] at q1'
      have e3 := e2
      unfold isB at e3
      cases e4 : tyN d with
      | none => rw [e4] at e3; cases e3
      | some n =>
        rw [e4] at e3
        refine ⟨x, .ty T, .type n, .type T, b, rfl, .ty T, ty_of S1.frz e4 (S1.rd mem_last e1), kit_ty e3, ?_⟩
        exact q1' (.bl b) H1 Hf1 s1 (S1.drop.pushIm (.bl b))⟩

/-! ### repr -/
/-- what repr can show -/
def ReprOk (d : D) : Prop := d.showable = true ∧ d.hasDict = false ∧ d.depth ≤ 60 ∧ d.shown.length ≤ sizeLine
open Classical in
noncomputable def fRepr : List D → Option B
  | [d] => if ReprOk d then some (.im (.str d.shown)) else none
  | _ => none
def rRepr (K : PySem.W.Frag) : List V → Hp → VK → Prop := fun xs H Q => ∃ x d, xs = [x] ∧ Dp K H x d ∧ ReprOk d ∧ Q (.str d.shown) H
theorem opn_repr : OpN K (rRepr K) fRepr := fun H Hf xs ds b Q f r h q => by
  match ds, h with
  | [d], h =>
    simp only [fRepr] at h
    by_cases c : ReprOk d
    · rw [if_pos c] at h
      cases h
      obtain ⟨x, rfl, rx⟩ := rda1 r
      exact ⟨x, d, rfl, rdb_dp f rx, c, q _ _ _ (Grow.same f (.str _))⟩
    · rw [if_neg c] at h; cases h
theorem callr_repr (hg : X.A.guards = some []) (hu : X.A.units + 64 < cLine) : CallR X (.builtin "repr") (rRepr X.K) := by
  intro pins s σ H xs us Q I r h
  obtain ⟨x, d, rfl, hd, ⟨c1, c2, c3, c4⟩, q⟩ := h
  obtain ⟨u, rfl, ru⟩ := vals1 r
  cases d with
  | none =>
    cases hd
    cases (show u = Value.none from ru)
    rw [PyData.shown_none] at q
    exact PySem.P.repr_of_none ⟨.str _, H, I.tok _, ⟨_, rfl⟩, q⟩
  | bool b =>
    cases hd
    cases (show u = Value.bool b from ru)
    rw [PyData.shown_bool] at q
    exact PySem.P.repr_of_bool ⟨.str _, H, I.tok _, ⟨_, rfl⟩, q⟩
  | int i =>
    cases hd
    obtain ⟨t, rfl⟩ := ru
    rw [PyData.shown_int] at q
    simp only [PyData.showable, decide_eq_true_eq] at c1
    exact PySem.P.repr_of_int c1 ⟨.str _, H, I.tok _, ⟨_, rfl⟩, q⟩
  | str z =>
    cases hd
    obtain ⟨t, rfl⟩ := ru
    rw [PyData.shown_str] at q c4
    exact PySem.P.repr_of_str ⟨.str _, H, I.tok _, ⟨_, rfl⟩, q⟩ c4
  | list l =>
    obtain ⟨as, rd⟩ := Dp.reads I _ _ _ hd ru
    cases hd with
    | lst hs hl =>
      cases ru
      refine repr_of_reads' rd c1 (fun e => by rw [c2] at e; cases e) hg (by omega) (fun _ _ e => e) (fun h' u tk hk => ?_) c4
      exact ⟨.str _, H, I.kept (t' := tk) hk, ⟨u, rfl⟩, q⟩
  | tuple l =>
    obtain ⟨as, rd⟩ := Dp.reads I _ _ _ hd ru
    cases hd with
    | tup hs hl =>
      cases ru
      refine repr_of_reads' rd c1 (fun e => by rw [c2] at e; cases e) hg (by omega) (fun _ _ e => e) (fun h' u tk hk => ?_) c4
      exact ⟨.str _, H, I.kept (t' := tk) hk, ⟨u, rfl⟩, q⟩
  | dict _ => cases hd
end
end DL
/-! ## DLk.lean -/
set_option Elab.async false
set_option linter.all false
set_option maxRecDepth 100000
set_option maxHeartbeats 4000000
/-! exceptions whose class has, of its own or from above, __init__(self, value): self.value = value (the block of the skeleton of an own error, turned to that field) -/
namespace PySem
namespace LowV
open PySem.W PySem.Calls PyProof.Rows PySem.HandSPX
def iA (p1 p2 p3 : Pos) : Arguments := { posonlyargs := [], args := [{ arg := "self", annotation := none, pos := p1 }, { arg := "value", annotation := none, pos := p2 }], vararg := none, kwonlyargs := [], kw_defaults := [], kwarg := none, defaults := [.Constant .none 0 p3] }
def iB (q1 q2 q3 q4 : Pos) : List Stmt := [.Assign [.Attribute (.Name "self" q1) "value" q2] (.Name "value" q3) q4]
def iS : Scope := { kind := .function, names := [(PySem.Str.ofString "self", .local), (PySem.Str.ofString "value", .local)], isGenerator := false, isCoroutine := false, more := [] }
/-- what the written part says of the class named x, at C, and of its __init__, at fI -/
structure VTxt (K : Frag) (mg : Str → Option Value) (x : Str) (C fI : Addr) : Prop where
  gC : mg x = some (.ref C)
  cls : ∃ nm q N bs bm sn sub ab col dd k0 k1 k2 k3 k5, K.lookup C = some (excClassObj nm q C N bs bm true sn sub ab col dd k0 k1 k2 k3 k5 "ValueError.__new__") ∧ refsVE bm = true
  sa : findIn K (.ref C) "__setattr__" = some (some (.builtin "object.__setattr__"))
  ga : findIn K (.ref C) "__getattribute__" = some (some (.builtin "BaseException.__getattribute__"))
  gg : findIn K (.ref C) "__getattr__" = some none
  noN : findIn K (.ref C) "value" = some none
  iC : findIn K (.ref C) "__init__" = some (some (.ref fI))
  tC : typeIn K (.ref fI) = some (.type "function")
  kC : keepIn K (.ref C) = true
  exC : subIn K (.ref C) (.type "BaseException") = some true
  tyC : typeIn K (.ref C) = some (.type "type")
  hdC : hasDictIn K C = true
  fn : ∃ (oc : Value) (od : Option Addr) (dV doc pm : Value) (an : Option Addr) (cdv ct : Value) (osl : Array (Option Value)) (qn : Str) (p1 p2 p3 q1 q2 q3 q4 : Pos),
    K.lookup fI = some ⟨oc, od, .func (fnOf "__init__" qn (iA p1 p2 p3) (iB q1 q2 q3 q4) iS dV .none doc pm an cdv ct), osl⟩ ∧ codeIn K cdv qn = true ∧ ∃ (t : Addr) (o : Obj) (n : Nat), dV = .ref t ∧ K.lookup t = some o ∧ o.data = .seq #[Value.none] n
theorem one_size (v : Value) : [v].length ≤ sizeLine := by
  rw [sizeLine_eq]
  exact (by decide : 1 ≤ 16777216)
theorem ldC {M : Model} {s : Shared} {name : Str} {scope : Scope} {L a : Addr} {cd : Value} {m : Str → Option Value} {x : Str} {pos : Pos} {v : Value} {Q : Value → Shared → Prop} {A : Around} {E : Value → Shared → Prop} (hn : s.heap.Ns L m) (hv : m x = some v) (h : Q v s)
    (hk : scope.kind = .function := by rfl) (hl : (envOfC name scope L a cd).kindOf x = some .local := by rfl) (hd : (x == ("__debug__" : Str)) = false := by decide) :
    wpAny M A (eval (.Name x pos) (envOfC name scope L a cd)) Q E s := wpAny_Name (wpAny_loadName_local hk hl hn hv h) hd
/-- what __init__ leaves of a fresh exception at x -/
structure InitEnd (h h' : Heap) (x C dx t1 : Addr) (v : Value) : Prop where
  keep : ∀ b o, b ≠ x → h.get? b = some o → h'.get? b = some o
  obj : h'.get? x = some { cls := .ref C, dict := some dx, data := .fields #[.ref t1, .none, .none, .none, .bool false, .none] }
  dbig : h.objs.size ≤ dx
  dne : dx ≠ x
  ns : h'.Ns1 dx (fun y => if y = "value" then some v else none)
/-- a made one -/
structure OwnMade (h h' : Heap) (e C d : Addr) (v : Value) : Prop where
  keep : ∀ b o, h.get? b = some o → h'.get? b = some o
  new : h.objs.size ≤ e
  obj : ∃ oe vs, h'.get? e = some oe ∧ oe.cls = .ref C ∧ oe.dict = some d ∧ oe.data = .fields vs ∧ vs[1]? = some .none
  dbig : h.objs.size ≤ d
  dne : d ≠ e
  ns : h'.Ns1 d (fun y => if y = "value" then some v else none)
section
variable {prog : Program} {w : World} {A : Around} {E : Value → Shared → Prop} {R : Result → Shared → Prop} {s : Shared} {K : Frag} {mg : Str → Option Value} {nx : Str} {C fI : Addr}
theorem low_init (T : VTxt K mg nx C fI) {x t0 : Addr} {v : Value} (X : K.In s.heap) (hlim : s.heap.NoLimit) (hx : s.heap.get? x = some (excO C t0)) (hnx : K.lookup x = none) (hroom : A.depth < recursionLimit)
    (hq : ∀ h' tk dx, InitEnd s.heap h' x C dx t0 v → R (.ok (.ret .none)) { s with heap := h', toks := tk }) :
    codeAny (model prog w) A (.call (.ref fI) ⟨[.ref x, v], []⟩) R s := by
  obtain ⟨oc, od, dV, doc, pm, an, cdv, ct, osl, qn, p1, p2, p3, q1, q2, q3, q4, ho, hcd, t, ot, nn, rfl, lt, dt⟩ := T.fn
  obtain ⟨nm, q, N, bs, bm, sn, sub, ab, col, dd, k0, k1, k2, k3, k5, hC, hbm⟩ := T.cls
  have hcl : clsIn K C = some { name := nm, bases := bs, mro := .ref C :: bm, ns := N, qualname := q, hasDict := true, slotNames := sn, subclasses := sub, abstract := ab, collection := col, hasDel := false } := by unfold clsIn; rw [hC] <;> rfl
  refine Att.call_fn (binds := [("self", .ref x), ("value", v)]) X hlim ho hcd hroom (L2.BindsTo.of_looks fun M => (by
    show PySem.W.Looks M s.heap (seqItems? (.ref t) >>= _) _
    exact L2.looks_items X lt dt (PySem.W.Looks.of_pure rfl))) (by first | rfl | decide | with_unfolding_all rfl) (fun s₁ IC => ?_) rfl rfl rfl
  obtain ⟨h₁, tk₁, rfl⟩ := IC.toInCall.same
  have k : ∀ b o, s.heap.get? b = some o → h₁.get? b = some o := IC.toInCall.keep
  have hn := IC.toInCall.ns
  have hxL : s.heap.objs.size ≠ x := Nat.ne_of_gt (Heap.lt_size hx)
  have X₁ : K.In h₁ := X.keeps k
  have hx₁ := k _ _ hx
  show wpAny _ _ (execs _ _) _ _ _
  refine wpAny_execs_cons (plainObj_wpAny_Assign_Attribute ?_)
  refine ldC (v := v) hn (by first | rfl | with_unfolding_all rfl | kernel_rfl) (ldC (v := .ref x) hn (by first | rfl | with_unfolding_all rfl | kernel_rfl) ?_)
  refine set_plain X₁ (ox := excO C t0) (od := none) ⟨hx₁, rfl, rfl, trivial⟩ T.sa ?_
  refine exc_osa X₁ hx₁ hcl (show refsVE (.ref C :: bm) = true from hbm) rfl T.noN (fun h₃ tk₃ dx k₃ dn dne hx₃ hn₃ => ?_)
  show wpAny _ _ (execs _ _) _ _ _
  have z : s.heap.objs.size < h₁.objs.size := hn.lt
  exact wpAny_execs_nil (hq h₃ tk₃ dx ⟨fun b o hb e => k₃ b o hb (k b o e), hx₃, Nat.le_of_lt (Nat.lt_of_lt_of_le z dn), dne, hn₃⟩)
theorem low_made (T : VTxt K mg nx C fI) {v : Value} (X : K.In s.heap) (hlim : s.heap.NoLimit) (hroom : A.depth + 1 < recursionLimit)
    (hq : ∀ h' tk e d, OwnMade s.heap h' e C d v → R (.ok (.ret (.ref e))) { s with heap := h', toks := tk }) :
    codeAny (model prog w) A (.call (.ref C) ⟨[v], []⟩) R s := by
  obtain ⟨nm, q, N, bs, bm, sn, sub, ab, col, dd, k0, k1, k2, k3, k5, hC, hbm⟩ := T.cls
  obtain ⟨hp, g, dr, tk, os⟩ := s
  have k : ∀ b o, hp.get? b = some o → ((hp.push (kdv_tup [v])).push (excO C hp.objs.size)).get? b = some o := fun b o e => Heap.get?_push_of_some _ (Heap.get?_push_of_some _ e)
  have hget : ((hp.push (kdv_tup [v])).push (excO C hp.objs.size)).get? (hp.objs.size + 1) = some (excO C hp.objs.size) := by heap_get
  have hnx : K.lookup (hp.objs.size + 1) = none := by
    cases e : K.lookup (hp.objs.size + 1) with
    | none => rfl
    | some o =>
      have z : hp.get? (hp.objs.size + 1) = some o := X _ _ e
      exact absurd (Nat.lt_of_succ_lt (Heap.lt_size z)) (Nat.lt_irrefl _)
  refine call_own F.excBase_ValueError (fun X => refsVE_contains X bm hbm) (X _ _ hC) (looks_findIn X T.iC) (fun self => bind_fn X self T.tC) (one_size v) ?_
  refine low_init (s := ⟨(hp.push (kdv_tup [v])).push (excO C hp.objs.size), g, dr, tk, os⟩) T (X.keeps k) (hlim.keeps k) hget hnx ?_ fun h' tk' dx ⟨k', hx, dn, dne, hns⟩ => ?_
  · show A.depth + 1 < recursionLimit
    exact hroom
  · have old : ∀ b o, hp.get? b = some o → h'.get? b = some o := fun b o e => k' b o (Nat.ne_of_lt (Nat.lt_succ_of_lt (Heap.lt_size e))) (k b o e)
    have z : hp.objs.size + 1 + 1 ≤ dx := by
      first
        | (simpa only [Heap.size_push] using dn)
        | exact dn
        | (have q := dn; rw [Heap.size_push, Heap.size_push] at q; exact q)
    exact ⟨rfl, hq h' tk' (hp.objs.size + 1) dx ⟨old, Nat.le_succ _, ⟨_, _, hx, rfl, rfl, rfl, rfl⟩, Nat.le_trans (Nat.le_trans (Nat.le_succ _) (Nat.le_succ _)) z, dne, hns⟩⟩
end
end LowV
end PySem
namespace DL
open PySem PySem.Spec PyProof.Rows L2
theorem relO_val {v : V} {v' : Value} (r : RelV v v') (f : Str) : RelO (List.lookup f [(("value" : Str), v)]) (if f = "value" then some v' else none) := by
  by_cases hw : f = "value"
  · subst hw
    rw [if_pos rfl]
    have q : List.lookup ("value" : Str) [(("value" : Str), v)] = some v := by simp [List.lookup]
    rw [q]
    exact r
  · rw [if_neg hw]
    have qw : (f == ("value" : Str)) = false := by simpa using hw
    have q2 : List.lookup f [(("value" : Str), v)] = none := by simp [List.lookup, qw]
    rw [q2]
    trivial
section
variable {X : Cx} {C fI : Addr} {x : Str} {Wx : WX}
theorem pmk_val {a : Expr} {ta : TA} {p pos : Pos} {k : Nat} (T : PySem.LowV.VTxt X.K X.mg x C fI) (hr : Room k X.A) (ha : PA X [a] ta) (hg : Gl X x) (hdb : (x == ("__debug__" : Str)) = false)
    (he : starEach (a :: []) X.env = (false, eval a X.env) :: starEach [] X.env) (hpl : (backTo pos (starEach [] X.env)).any (·.1) = false) :
    PMk X (.Call (.Name x p) [a] [] pos) (fun σ H Q => ta σ H fun vs H1 => ∃ v, vs = [v] ∧ ∀ d, H1 d = none → Q (.ref C) (some d) (upd H1 d (.xd [(("value" : Str), v)]))) := by
  intro pins s σ H Q I h
  refine wpAny_Call_Name_kw (ld_glob I hg T.gC ?_ hdb)
  refine PySem.W.callWith_K (h₀ := X.base) I.ok.mod.kin T.kC (thn (ha.run pos pins s σ H _ I h) fun us s1 hh => ?_) he hpl
  obtain ⟨vs, H1, I1, r1, v, ev, q1⟩ := hh
  subst ev
  refine ⟨I1.kIn, ?_⟩
  cases r1 with
  | cons rv rn =>
    rename_i v' us'
    cases rn
    show wpAny _ _ (call (.ref C) [v']) _ _ _
    have hlim := I1.nolimit
    obtain ⟨hp, g, dr, tk, os⟩ := s1
    refine wpAny_call (PySem.LowV.low_made T I1.kIn hlim (by have := hr.dp; omega) fun h' tk' e d M => ?_)
    show MkP X pins σ Q (.ref e) ⟨h', g, dr, tk', os⟩
    obtain ⟨oe, fv, hoe, hc, hd, hdat, h1⟩ := M.obj
    have hns := M.ns
    obtain ⟨G', g1, g2⟩ := restrict h' fun b => decide (b ≠ e)
    have gk : ∀ b, b ≠ e → G'.get? b = h'.get? b := fun b hb => g1 b (decide_eq_true hb)
    have ge : G'.get? e = none := g2 e (by simp)
    have old : ∀ b o, hp.get? b = some o → G'.get? b = some o := fun b o q => (gk b (Nat.ne_of_lt (Nat.lt_of_lt_of_le (Heap.lt_size q) M.new))).trans (M.keep b o q)
    have ob : ObjOk X.prog X.w (upd H1 d (.xd [(("value" : Str), v)])) G' d (.xd [(("value" : Str), v)]) :=
      ⟨_, hns.at (fun o q => (gk d M.dne).trans q), fun f => relO_val rv f⟩
    have J : Inv X pins σ (upd H1 d (.xd [(("value" : Str), v)])) ⟨G', g, dr, tk', os⟩ := I1.laid (t' := tk') old M.dbig ob
    refine ⟨e, oe, fv, ⟨G', g, dr, tk', os⟩, _, .ref C, some d, rfl, J, fun b o q => ?_, ge, hoe, ⟨hc, hd⟩, hdat, h1, ?_, rfl, I1.bare, raises_own T.exC T.tyC, q1 d (I1.hok.fresh M.dbig)⟩
    · by_cases hb : b = e
      · have q' : G'.get? b = some o := q
        rw [hb, ge] at q'; cases q'
      · exact (gk b hb).symm.trans q
    · rw [upd_ne (Ne.symm M.dne)]
      exact I1.hok.fresh M.new
/-- X(), X an own class without __init__ -/
theorem pmk_bare {bmB : List Value} {B newId initId : String} {p pos : Pos} (F : ExcBaseFacts B newId initId bmB) (q : PySem.W.excIn X.K C bmB newId = true) (gC : X.mg x = some (.ref C)) (kC : PySem.W.keepIn X.K (.ref C) = true) (r : Raises X (.ref C)) (hg : Gl X x)
    (hdb : (x == ("__debug__" : Str)) = false) : PMk X (.Call (.Name x p) [] [] pos) (fun σ H Q => Q (.ref C) none H) := by
  intro pins s σ H Q I h
  refine wpAny_Call_Name_kw (ld_glob I hg gC ?_ hdb)
  refine PySem.W.callWith_K0 I.kIn kC ?_
  show wpAny _ _ (call (.ref C) []) _ _ _
  obtain ⟨bm, N, nm, qn, bs, hdct, sn, sub, ab, col, dd, k0, k1, k2, k3, k5, mN, hC, hN, hni, T⟩ := exc_obj I.kIn q
  refine wpAny_call_exc_subT F T hC hN hni (fun h' e hm => ?_) (by decide)
  exact mk_of I hm r h (I.hok.gone hm.new)

/-! ### raise -/
def sRaise1 (c : Str) (ta : Gm → Res (List D)) (g : Gm) : SR := (ta g).bindS fun ds g1 => match ds with
  | [d] => .ex (c, [("value", d)]) g1
  | _ => .no
def sRaise0 (c : Str) (g : Gm) : SR := .ex (c, []) g
theorem ds_raise1 {k : Nat} {a : Expr} {ta : Gm → Res (List D)} {p pos pos2 : Pos} (hc : X.calm = true) (T : PySem.LowV.VTxt X.K X.mg x C fI) (hr : Rg k X.A) (tk : Takes X Wx) (ha : DAe X Wx [a] ta) (hg : Gl X x) (hdb : (x == ("__debug__" : Str)) = false := by decide)
    (he : starEach (a :: []) X.env = (false, eval a X.env) :: starEach [] X.env := by rfl) (hpl : (backTo pos (starEach [] X.env)).any (·.1) = false := by rfl) : DS X Wx (.Raise (some (.Call (.Name x p) [a] [] pos)) none pos2) (sRaise1 x ta) :=
  ⟨PS.imp (ps_raise hc tk (pmk_val T hr.rm ha.pa hg hdb he hpl)) fun D σ H ⟨Z, g, Hf, S, q⟩ => by
  refine giveAe ha S (SEnd.bindS (σ := σ) q) fun ds g1 xs H1 Hf1 q1 s1 l S1 => ?_
  match ds, l, q1 with
  | [d], l, q1 =>
    obtain ⟨y, ey, h1⟩ : ∃ y, xs = [y] ∧ Dp X.K Hf1 y d := by
      cases l with
      | cons h1 h2 => cases h2; exact ⟨_, rfl, h1⟩
    · subst ey
      refine ⟨y, rfl, fun dd hd => ?_⟩
      have q2 : ∀ σ, XEnd X Wx Z σ (x, [("value", d)]) g1 := q1
      have S2 : Stx X.K Z g1 σ [] (upd H1 dd (.xd [(("value" : Str), y)])) (upd Hf1 dd (.xd [(("value" : Str), y)])) :=
        S1.step (same_new hd) (same_new (hf_none S1.frz hd)) (same_upd2 S1.frz hd) fun b u e => by
          by_cases hb : b = dd
          · subst hb; exact .inr hd
          · rw [upd_ne hb] at e; exact .inl e
      exact q2 σ _ _ _ _ S2 ⟨C, T.gC, rfl, .inr ⟨dd, _, rfl, upd_same, .cons ⟨rfl, dp_mono (same_new (hf_none S1.frz hd)) d _ h1⟩ .nil⟩⟩
  | [], _, q1 => exact q1.elim
  | _ :: _ :: _, _, q1 => exact q1.elim⟩
theorem ds_raise0 {bmB : List Value} {B newId initId : String} {p pos pos2 : Pos} (hc : X.calm = true) (F : ExcBaseFacts B newId initId bmB) (q : PySem.W.excIn X.K C bmB newId = true) (gC : X.mg x = some (.ref C)) (kC : PySem.W.keepIn X.K (.ref C) = true) (r : Raises X (.ref C)) (tk : Takes X Wx) (hg : Gl X x)
    (hdb : (x == ("__debug__" : Str)) = false := by decide) : DS X Wx (.Raise (some (.Call (.Name x p) [] [] pos)) none pos2) (sRaise0 x) :=
  ⟨PS.imp (ps_raise hc tk (pmk_bare F q gC kC r hg hdb)) fun D σ H ⟨Z, g, Hf, S, h⟩ => by
  have q2 : ∀ σ, XEnd X Wx Z σ (x, []) g := h
  exact q2 σ _ _ _ _ S ⟨C, gC, rfl, .inl ⟨rfl, rfl⟩⟩⟩
end

/-! ### try: .. except X as e: .., several clauses -/
abbrev Clause := Value × Nat × (Addr → Value → Option Addr → TS)
/-- a clause's ends: the name is gone behind the suite -/
def gone (i : Nat) (D : Ends) : Ends := { nx := fun σ H => D.nx (σ.set i none) H, rt := D.rt, bk := fun σ H => D.bk (σ.set i none) H, ct := fun σ H => D.ct (σ.set i none) H }
def wAsM (K : PySem.W.Frag) (Wout : WX) (D : Ends) : List Clause → WX
  | [] => Wout
  | (c, i, ts) :: r => fun cls d σ H => ∃ b, PySem.W.exmOne K cls c = some b ∧ (b = true → ∀ a, H a = none → ts a cls d (gone i D) (σ.set i (some (.ref a))) H) ∧ (b = false → wAsM K Wout D r cls d σ H)
inductive ClOk (X : Cx) : List ExceptHandler → List Clause → Prop
  | nil : ClOk X [] []
  | cons {x n : Str} {c : Value} {i : Nat} {ts : Addr → Value → Option Addr → TS} {b₀ : Stmt} {suite : List Stmt} {np pos' : Pos} {hds : List ExceptHandler} {l : List Clause} (hi : X.N[i]? = some n) (hln : X.env.kindOf n = some .local) (hc : Names X x c)
      (hsu : ∀ (a : Addr) (oe : Obj) (cls : Value) (d : Option Addr) (pn : List (Addr × Obj)), Zc cls d oe → (∃ vs, oe.data = .fields vs) → PSs (X.suite a ((a, oe) :: pn)) (b₀ :: suite) (ts a cls d)) (r : ClOk X hds l) :
      ClOk X (.ExceptHandler (some (.Name x np)) (some n) (b₀ :: suite) pos' :: hds) ((c, i, ts) :: l)
section
variable {X : Cx} {body : List Stmt} {h0 : ExceptHandler} {hds : List ExceptHandler} {l : List Clause} {pos : Pos} {tb : WX → TS} {Wout : WX}
/-- what the clauses do with a flying exception -/
theorem clauses_run {pins : List (Addr × Obj)} {σ' : L2.St} {H' : Hp} {sI s' : Shared} {D : Ends} {a : Addr} {B h3 : Heap} {cls : Value} {d : Option Addr} (ok : X.Ok) (hN : X.N.Nodup) (hs : X.stack = X.env :: X.outer) (hf : X.env.frame = some X.env.locals) (tk : Takes X Wout)
    (J : Inv X pins σ' H' sI) (nb : ∀ b o, sI.heap.get? b = some o → b ∉ frs X.stack → B.get? b = some o) (up3 : sI.heap.UpToSlots h3) (na : H' a = none) (os : s'.os = sI.os) (ag : AllBare s'.gens) (fl3 : HandSPX.FlyingZ B (X.env :: X.outer) a (Zc cls d) h3)
    (nL : a ≠ X.env.locals) (nF : a ∉ X.fs) : ∀ {hds' : List ExceptHandler} {l' : List Clause}, ClOk X hds' l' → wAsM X.K Wout D l' cls d σ' H' →
      wpAny (model X.prog X.w) X.A (handleBy (.ref a) X.env hds') (SP X pins D) X.xe { s' with heap := h3 } := by
  obtain ⟨oe3, vs3, he3, hz3, hd3⟩ := fl3.there
  have J3 : Inv X pins σ' H' { s' with heap := h3 } := J.landed nb fl3.1 up3 os ag
  have S3 := J3.suite he3 hd3 na nL nF
  intro hds' l' hk
  induction hk with
  | nil =>
    intro w
    refine wpAny_handleBy_nil ?_
    obtain ⟨_, _, _, oe, vs, T, oT, ts', he, hz, hd, h1, hr⟩ := id fl3
    unfold PySem.passOn
    refine wpAny_bind (wpAny_field he hd h1 ?_)
    have nt : ¬ ((Value.ref T == Value.none) = true) := by simp
    rw [if_neg nt]
    have again : wpAny (model X.prog X.w) X.A (setFlight (.ref a) X.env.frame) (fun _ s4 => wpAny (model X.prog X.w) X.A (throw (.ref a) : Sem Flow) (SP X pins D) X.xe s4) X.xe { s' with heap := h3 } := by
      rw [hf]
      refine HandSPX.setFlight_upZ fl3 ?_
      intro h4 hh4 up4
      refine wpAny_throw (tk _ _ ⟨a, B, sI, pins, σ', H', cls, d, rfl, J, nb, up3.trans up4, .inr (.inr ?_), na, os, ag, w⟩)
      rw [hs]
      exact hh4
    first
      | exact wpAny_bind (wpAny_pure (wpAny_bind again))
      | exact wpAny_bind again
  | @cons x n c i ts b₀ suite np pos' hds2 l2 hi hln hc hsu r ih =>
    intro w
    obtain ⟨b, hb1, hyes, hno⟩ := w
    refine wpAny_handleBy_cons (codeAny_handlers_test ?_) (by intro q; cases q)
    have LT : PySem.W.Looks (model X.prog X.w) h3 (typeOf (.ref a)) cls := fun A Q E s k q => wpAny_typeOf_ref (k _ _ he3) (by rw [hz3.1]; exact q)
    have named : ∀ {Q : Value → Shared → Prop} {E : Value → Shared → Prop}, Q c { s' with heap := h3 } → wpAny (model X.prog X.w) (X.A.mark (some (.ref a))) (eval (.Name x np) X.env) Q E { s' with heap := h3 } := by
      intro Q E q
      obtain ⟨hg, hdbg, hm | ⟨hm, hv, hnn⟩⟩ := hc
      · exact ld_glob (X := X.suite a ((a, oe3) :: (X.pn ++ pins))) S3 hg hm q hdbg
      · exact ld_blt (X := X.suite a ((a, oe3) :: (X.pn ++ pins))) S3 hg hm hv q hnn hdbg
    refine named ((PySem.W.exm_one (M := model X.prog X.w) J3.kIn LT hb1).here ?_)
    cases b with
    | false => exact ih (hno rfl)
    | true =>
      refine codeAny_handlers_suite_as ?_
      refine HandSPX.lands_againZ fl3 ?_
      intro h4 fl4 up4
      have J4 : Inv X pins σ' H' { s' with heap := h4 } := J.landed nb fl4.1 (up3.trans up4) os ag
      obtain ⟨oe4, vs4, he4, hz4, hd4⟩ := fl4.there
      have S4 := J4.suite he4 hd4 na nL nF
      refine store_ok (X := X.suite a ((a, oe4) :: (X.pn ++ pins))) (v := .ref a) S4 hN hi (.inl hln) rfl ?_ (.inr hln)
      intro s5 S5
      refine wpAny_mono ((hsu a oe4 cls d (X.pn ++ pins) hz4 ⟨_, hd4⟩).run [] s5 _ H' _ S5 (hyes rfl a na)) ?_ (fun _ _ z => False.elim z)
      intro f s6 hsp
      have behind : ∀ {σ6 : L2.St} {H6 : Hp} {Q : Shared → Prop}, Inv (X.suite a ((a, oe4) :: (X.pn ++ pins))) [] σ6 H6 s6 → (∀ s7, Inv X pins (σ6.set i none) H6 s7 → Q s7) →
          wpAny (model X.prog X.w) X.A (do bindName X.env n .none; unbindBehindTheSuite X.env n pos') (fun _ s7 => Q s7) X.xe s6 := by
        intro σ6 H6 Q S6 hq
        exact gone_ok (S6.unsuite ok) hN hi hln hq
      cases f with
      | next => obtain ⟨σ6, H6, S6, q6⟩ := hsp; exact behind S6 fun s7 J7 => ⟨_, _, J7, q6⟩
      | brk => obtain ⟨σ6, H6, S6, q6⟩ := hsp; exact behind S6 fun s7 J7 => ⟨_, _, J7, q6⟩
      | cont => obtain ⟨σ6, H6, S6, q6⟩ := hsp; exact behind S6 fun s7 J7 => ⟨_, _, J7, q6⟩
      | ret u => obtain ⟨v6, σ6, H6, S6, r6, q6⟩ := hsp; exact behind S6 fun s7 J7 => ⟨_, _, _, J7, r6, q6⟩
theorem ps_tryM (hs : X.stack = X.env :: X.outer) (hf : X.env.frame = some X.env.locals) (hN : X.N.Nodup) (tk : Takes X Wout)
    (hb : ∀ (W : WX) (pn : List (Addr × Obj)) (xe : Value → Shared → Prop), Takes (X.tr pn xe) W → PassesOwn (model X.prog X.w) X.A X.env xe → PSs (X.tr pn xe) body (tb W))
    (hh : ClOk X (h0 :: hds) l) : PS X (.Try body (h0 :: hds) [] [] pos) (fun D σ H => tb (wAsM X.K Wout D l) D σ H) := by
  constructor
  intro pins s σ H D I h
  have ok := I.ok
  have hfr : X.A.frames = some (X.env :: X.outer) := by rw [ok.frames, hs]
  refine wpAny_Try_except ?_
  let caught : Value → Shared → Prop := fun e s1 => wpAny (model X.prog X.w) X.A (noteFrame e X.env) (fun _ s2 => wpAny (model X.prog X.w) X.A (setFlight e none) (fun _ s3 => wpAny (model X.prog X.w) X.A (handleBy e X.env (h0 :: hds)) (SP X pins D) X.xe s3) X.xe s2) X.xe s1
  have tk2 : Takes (X.tr (X.pn ++ pins) caught) (wAsM X.K Wout D l) := by
    intro u s' xx
    obtain ⟨a, B, sI, pins', σ', H', cls, d, rfl, J', nb, up, sky, na, os, ag, w⟩ := xx
    have J : Inv X pins σ' H' sI := J'.ofTry ok
    have sky' : Sky B (X.env :: X.outer) a (Zc cls d) X.env.locals s'.heap := by rw [← hs]; exact sky
    show wpAny (model X.prog X.w) X.A (noteFrame (.ref a) X.env) _ _ _
    refine Sky.land Zc.steady hfr hf sky' ?_
    intro h3 fl3 up3
    obtain ⟨oe3, vs3, he3, hz3, hd3⟩ := fl3.there
    have nfr : a ∉ frs (X.env :: X.outer) := by
      intro hm
      obtain ⟨_, o', e', hnf⟩ := fl3.2.2.1.mem hm
      rw [he3] at e'
      cases e'
      exact hnf _ hd3
    have nL : a ≠ X.env.locals := by
      intro z
      exact nfr (List.mem_filterMap.mpr ⟨X.env, List.mem_cons_self, by rw [hf, z]⟩)
    have nF : a ∉ X.fs := by
      intro hm
      obtain ⟨e, he, q⟩ := List.mem_filterMap.mp hm
      exact nfr (List.mem_filterMap.mpr ⟨e, List.mem_cons_of_mem _ he, q⟩)
    exact clauses_run ok hN hs hf tk J nb (up.trans up3) na os ag fl3 nL nF hh w
  refine wpAny_mono ((hb _ _ caught tk2 PassesOwn.looking).run [] s σ H D (I.toTry _) h) ?_ (fun e s1 he => he)
  intro f s1 hsp
  cases f with
  | next => obtain ⟨σ', H', J', q⟩ := hsp; exact wpAny_execs_nil ⟨σ', H', J'.ofTry ok, q⟩
  | brk => obtain ⟨σ', H', J', q⟩ := hsp; exact ⟨σ', H', J'.ofTry ok, q⟩
  | cont => obtain ⟨σ', H', J', q⟩ := hsp; exact ⟨σ', H', J'.ofTry ok, q⟩
  | ret u => obtain ⟨v, σ', H', J', r, q⟩ := hsp; exact ⟨v, σ', H', J'.ofTry ok, r, q⟩
end
end DL
/-! ## DLl.lean -/
set_option Elab.async false
set_option linter.all false
set_option maxRecDepth 100000
set_option maxHeartbeats 4000000
namespace DL
open PySem PySem.Spec PyProof.Rows L2

/-- what is known of an exception class named x, at C -/
structure EcT (K : PySem.W.Frag) (mg : Str → Option Value) (x : Str) (C : Addr) : Prop where
  gC : mg x = some (.ref C)
  cl : (PySem.W.clsIn K C).isSome = true
  ga : PySem.W.findIn K (.ref C) "__getattribute__" = some (some (.builtin "BaseException.__getattribute__"))
  gg : PySem.W.findIn K (.ref C) "__getattr__" = some none
  exC : PySem.W.subIn K (.ref C) (.type "BaseException") = some true
  hdC : PySem.W.hasDictIn K C = true
  ha : PySem.W.findIn K (.ref C) "__class__" = some (some (.builtin "object.__class__"))
  hn : PySem.W.specialIn K (.builtin "object.__class__") "__get__" = some (some (.builtin "getset_descriptor.__get__"))
  ht : PySem.W.takesIn K (.builtin "object.__class__") = some true
  hm : PySem.W.mroIn K C (.type "object") = some true
/-- isinstance(e, P), e the exception that the suite holds -/
def rIsEx (K : PySem.W.Frag) (C a : Addr) (d : Option Addr) : List V → Hp → VK → Prop := fun xs H Q => ∃ (c : V) (cv : Value) (b : Bool), xs = [.ref a, c] ∧ (∀ u, RelV c u → u = cv) ∧ PySem.W.kitOne K (.ref C) cv = some b ∧ (d = none ∨ ∃ dd fs, d = some dd ∧ H dd = some (.xd fs)) ∧ Q (.bl b) H
theorem call_isEx {X : Cx} {a C : Addr} {x : Str} {oe : Obj} {d : Option Addr} {pn : List (Addr × Obj)} (T : EcT X.K X.mg x C) (hz : Zc (.ref C) d oe) (hf : ∃ vs, oe.data = .fields vs) : CallR (X.suite a ((a, oe) :: pn)) (.builtin "isinstance") (rIsEx X.K C a d) := by
  intro pins s σ H xs us Q I r h
  obtain ⟨c, cv, b, rfl, hcv, e, hd, q⟩ := h
  obtain ⟨u1, u2, rfl, r1, r2⟩ := vals2 r
  cases (show u1 = Value.ref a from r1)
  cases hcv _ r2
  obtain ⟨hget, _⟩ := I.pin (a, oe) (List.mem_append_left _ List.mem_cons_self)
  obtain ⟨vs, hv⟩ := hf
  have J : ∃ od, PySem.W.InstAt s.heap a oe C od := by
    rcases hd with hd | ⟨dd, fs, hd, hx⟩
    · exact ⟨none, hget, hz.1, by unfold PySem.W.notCls; rw [hv] <;> rfl, by rw [hz.2, hd]; trivial⟩
    · obtain ⟨mA, hns, _⟩ := (show ObjOk X.prog X.w H s.heap dd (.xd fs) from I.hok dd _ hx)
      obtain ⟨od, ho, _⟩ := lookIn_ns hns
      exact ⟨some od, hget, hz.1, by unfold PySem.W.notCls; rw [hv] <;> rfl, by rw [hz.2, hd]; exact ho⟩
  obtain ⟨od, J⟩ := J
  exact PySem.W.kia_one (PySem.W.kitx_exc T.cl T.ga T.gg T.exC T.ha T.hn T.ht T.hm) I.kIn J e (fun z => nomatch z) fun tk => ⟨.bl b, H, I.kept (t' := tk) fun _ _ z => z, rfl, q⟩

section
variable {X : Cx} {Wx : WX}
/-- a suite that returns data of the exception's fields -/
structure DC (X : Cx) (C : Addr) (i : Nat) (suite : List Stmt) (t : List (Str × D) → Option B) : Prop where
  run : ∀ (a : Addr) (oe : Obj) (d : Option Addr) (pn : List (Addr × Obj)), Zc (.ref C) d oe → (∃ vs, oe.data = .fields vs) → ∃ ts : TS, PSs (X.suite a ((a, oe) :: pn)) suite ts ∧
    ∀ (De : Ends) (σ : L2.St) (H Hf : Hp) (fs : List (Str × D)) (b : B), Same Hf H → σ[i]? = some (some (.ref a)) → t fs = some b → (fs = [] ∧ d = none ∨ ∃ dd ys, d = some dd ∧ Hf dd = some (.xd ys) ∧ FsRep X.K Hf ys fs) →
      (∀ x H' Hf', Grow X.K H Hf H' Hf' x b → De.rt x H') → ts De σ H
theorem fs_look {K : PySem.W.Frag} {Hf : Hp} {n : Str} {d : D} : ∀ {ys : List (Str × V)} {fs : List (Str × D)}, FsRep K Hf ys fs → fs.lookup n = some d → ∃ y, ys.lookup n = some y ∧ Dp K Hf y d
  | _, [], h, e => by cases e
  | _, (m, e) :: fs, h, q => by
    cases h with
    | cons h1 h2 =>
      rename_i p ys
      obtain ⟨m', y⟩ := p
      obtain ⟨e1, e2⟩ := h1
      dsimp only at e1 e2
      subst e1
      rw [List.lookup_cons] at q
      rw [List.lookup_cons]
      split at q
      · rename_i c
        cases q
        exact ⟨y, rfl, e2⟩
      · rename_i c
        obtain ⟨y', k1, k2⟩ := fs_look h2 q
        exact ⟨y', k1, k2⟩
open Classical in
/-- [a text, repr(e.value), isinstance(e, P)] -/
noncomputable def tVal (s : Str) (fs : List (Str × D)) : Option B := match fs.lookup ("value" : Str) with
  | some d => if ReprOk d then some (.mu [.str s, .str d.shown, .bool true]) else none
  | none => none
/-- [a text, a text, isinstance(e, P)] -/
def tBare (s s2 : Str) (_ : List (Str × D)) : Option B := some (.mu [.str s, .str s2, .bool true])
variable {x P2 : Str} {C CP : Addr} {i : Nat} {k : Nat}
theorem dc_val {en : Str} {s : Str} {j : Nat} {q1 q2 q3 q4 q5 q6 q7 q8 q9 q10 q11 : Pos} (T : EcT X.K X.mg x C) (nv : PySem.W.findIn X.K (.ref C) "value" = some none) (gP : X.mg P2 = some (.ref CP)) (hk : PySem.W.kitOne X.K (.ref C) (.ref CP) = some true)
    (hN : X.N[i]? = some en) (hv : Vis X.env.scope en) (gd : X.A.guards = some []) (hu : X.A.units + 64 < cLine) (hgr : Gl X "repr") (hmr : X.mg "repr" = none) (hgi : Gl X "isinstance") (hmi : X.mg "isinstance" = none) (hgp : Gl X P2)
    (hd1 : (en == ("__debug__" : Str)) = false := by decide) (hd2 : (en == ("__classdict__" : Str)) = false := by decide) (hd3 : (P2 == ("__debug__" : Str)) = false := by decide) :
    DC X C i [.Return (some (.List [.Constant (.str s) j q1, .Call (.Name "repr" q2) [.Attribute (.Name en q3) "value" q4] [] q5, .Call (.Name "isinstance" q6) [.Name en q7, .Name P2 q8] [] q9] q10)) q11] (tVal s) := by
  refine ⟨fun a oe d pn hz hf => ?_⟩
  have pe_e : ∀ p, PE (X.suite a ((a, oe) :: pn)) (.Name en p) (tVar i) := fun p => pe_var hN hv hd1 hd2
  have T' : EcT (X.suite a ((a, oe) :: pn)).K (X.suite a ((a, oe) :: pn)).mg x C := T
  have t1 : PE (X.suite a ((a, oe) :: pn)) (.Call (.Name "repr" q2) [.Attribute (.Name en q3) "value" q4] [] q5) _ :=
    pe_callB (callr_repr (X := X.suite a ((a, oe) :: pn)) gd hu) hgr hmr (by decide +kernel) (pa_cons (pe_xf (X := X) ⟨T.ga, T.gg, T.exC, T.hdC⟩ nv hz hf (pe_e q3)) pa_nil)
  have t2 : PE (X.suite a ((a, oe) :: pn)) (.Call (.Name "isinstance" q6) [.Name en q7, .Name P2 q8] [] q9) _ :=
    pe_callB (call_isEx (X := X) T hz hf) hgi hmi boot_isinstance (pa_cons (pe_e q7) (pa_cons (pe_glob (v := .ref CP) (X := X.suite a ((a, oe) :: pn)) hgp gP rfl hd3) pa_nil))
  refine ⟨_, pss_one (ps_ret (pe_lst (pa_cons pe_str (pa_cons t1 (pa_cons t2 pa_nil))))), fun D σ H Hf fs b f hs ht hfs k => ?_⟩
  unfold tVal at ht
  cases e1 : fs.lookup ("value" : Str) with
  | none => rw [e1] at ht; cases ht
  | some dv =>
    rw [e1] at ht
    by_cases c : ReprOk dv
    · have ht' := ht
      dsimp only at ht'
      rw [if_pos c] at ht'
      cases ht'
      rcases hfs with ⟨e2, _⟩ | ⟨dd, ys, e2, e3, e4⟩
      · subst e2; cases e1
      · obtain ⟨y, hy, hd⟩ := fs_look e4 e1
        refine ⟨.ref a, hs, rfl, rfl, dd, ys, y, e2, f _ _ e3, hy, ?_⟩
        refine ⟨y, dv, rfl, dp_mono f dv y hd, c, ?_⟩
        refine ⟨.ref a, hs, ?_⟩
        refine ⟨.ref CP, .ref CP, true, rfl, fun u h => h, hk, .inr ⟨dd, ys, e2, f _ _ e3⟩, ?_⟩
        refine ⟨by show 3 ≤ sizeLine; decide, fun p hp => ?_⟩
        exact k (.ref p) _ _ (Grow.lst f hp (.cons (.str _) (.cons (.str _) (.cons (.bl _) .nil))))
    · have ht' := ht
      dsimp only at ht'
      rw [if_neg c] at ht'; cases ht'
theorem dc_bare {en : Str} {s s2 : Str} {j j2 : Nat} {q1 q2 q6 q7 q8 q9 q10 q11 : Pos} (T : EcT X.K X.mg x C) (gP : X.mg P2 = some (.ref CP)) (hk : PySem.W.kitOne X.K (.ref C) (.ref CP) = some true)
    (hN : X.N[i]? = some en) (hv : Vis X.env.scope en) (hgi : Gl X "isinstance") (hmi : X.mg "isinstance" = none) (hgp : Gl X P2)
    (hd1 : (en == ("__debug__" : Str)) = false := by decide) (hd2 : (en == ("__classdict__" : Str)) = false := by decide) (hd3 : (P2 == ("__debug__" : Str)) = false := by decide) :
    DC X C i [.Return (some (.List [.Constant (.str s) j q1, .Constant (.str s2) j2 q2, .Call (.Name "isinstance" q6) [.Name en q7, .Name P2 q8] [] q9] q10)) q11] (tBare s s2) := by
  refine ⟨fun a oe d pn hz hf => ?_⟩
  have pe_e : ∀ p, PE (X.suite a ((a, oe) :: pn)) (.Name en p) (tVar i) := fun p => pe_var hN hv hd1 hd2
  have t2 : PE (X.suite a ((a, oe) :: pn)) (.Call (.Name "isinstance" q6) [.Name en q7, .Name P2 q8] [] q9) _ :=
    pe_callB (call_isEx (X := X) T hz hf) hgi hmi boot_isinstance (pa_cons (pe_e q7) (pa_cons (pe_glob (v := .ref CP) (X := X.suite a ((a, oe) :: pn)) hgp gP rfl hd3) pa_nil))
  refine ⟨_, pss_one (ps_ret (pe_lst (pa_cons pe_str (pa_cons pe_str (pa_cons t2 pa_nil))))), fun D σ H Hf fs b f hs ht hfs k => ?_⟩
  cases ht
  refine ⟨.ref a, hs, .ref CP, .ref CP, true, rfl, fun u h => h, hk, ?_, ?_⟩
  · rcases hfs with ⟨_, e2⟩ | ⟨dd, ys, e2, e3, _⟩
    · exact .inl e2
    · exact .inr ⟨dd, ys, e2, f _ _ e3⟩
  · refine ⟨by show 3 ≤ sizeLine; decide, fun p hp => ?_⟩
    exact k (.ref p) _ _ (Grow.lst f hp (.cons (.str _) (.cons (.str _) (.cons (.bl _) .nil))))

/-! ### try .. except X as e: a return of data, several clauses -/
/-- a clause on data: the class's name, the name's slot, what is returned -/
structure Cl where
  c : Str
  i : Nat
  t : List (Str × D) → Option B
/-- the first clause that takes it: what it returns -/
def pick (sub : Str → Str → Bool) (e : Exn) : List Cl → Option (Option B)
  | [] => none
  | h :: r => if sub e.1 h.c = true then some (h.t e.2) else pick sub e r
def sTry (names : List Str) (sub : Str → Str → Bool) (t : Gm → SR) (hs : List Cl) (g : Gm) : SR := match t g with
  | .ex e g1 => if (names.contains e.1 && hs.all fun h => decide (h.i < g1.length)) = true then (match pick sub e hs with
    | some (some b) => if okB b = true then .rt b g1 else .no
    | some none => .no
    | none => .ex e g1) else .no
  | r => r
/-- the clauses of the text -/
inductive ClD (X : Cx) (names : List Str) (sub : Str → Str → Bool) : List ExceptHandler → List Cl → Prop
  | nil : ClD X names sub [] []
  | cons {c n : Str} {C : Addr} {i : Nat} {t : List (Str × D) → Option B} {b₀ : Stmt} {suite : List Stmt} {np pos' : Pos} {hds : List ExceptHandler} {l : List Cl} (hi : X.N[i]? = some n) (hln : X.env.kindOf n = some .local) (hg : Gl X c) (hdb : (c == ("__debug__" : Str)) = false) (gC : X.mg c = some (.ref C))
      (hsub : ∀ y ∈ names, ∀ Y, X.mg y = some (.ref Y) → PySem.W.exmOne X.K (.ref Y) (.ref C) = some (sub y c)) (hsame : ∀ y ∈ names, sub y c = true → y = c) (hd : DC X C i (b₀ :: suite) t) (hio : True) (r : ClD X names sub hds l) :
      ClD X names sub (.ExceptHandler (some (.Name c np)) (some n) (b₀ :: suite) pos' :: hds) (⟨c, i, t⟩ :: l)
/-- the clauses' readings: C's suite, where the exception's class is C; else nothing is known -/
theorem cl_ok {names : List Str} {sub : Str → Str → Bool} : ∀ {hds : List ExceptHandler} {l : List Cl}, ClD X names sub hds l → ∃ l' : List Clause, ClOk X hds l' ∧
    ∀ (De : Ends) (Wout : WX) (σ : L2.St) (H Hf : Hp) (e : Exn) (cls : Value) (d : Option Addr), Same Hf H → names.contains e.1 = true → IsEx X.K X.mg Hf cls d e → (∀ h ∈ l, h.i < σ.length) →
      (∀ b, pick sub e l = some (some b) → ∀ x H' Hf', Grow X.K H Hf H' Hf' x b → De.rt x H') → pick sub e l ≠ some none → (pick sub e l = none → Wout cls d σ H) → wAsM X.K Wout De l' cls d σ H
  | _, _, .nil => ⟨[], .nil, fun D Wout σ H Hf e cls d f hn ie hl h1 h2 h3 => h3 rfl⟩
  | _, _, .cons (l := l0) (c := c) (n := n) (C := C) (i := i) (t := t) (b₀ := b₀) (suite := suite) hi hln hg hdb gC hsub hsame hd hio r => by
    obtain ⟨l', hl', hr⟩ := cl_ok r
    refine ⟨(.ref C, i, fun a cls d => fun D σ H => cls = .ref C ∧ ∃ fs b Hf, Same Hf H ∧ σ[i]? = some (some (.ref a)) ∧ t fs = some b ∧ (fs = [] ∧ d = none ∨ ∃ dd ys, d = some dd ∧ Hf dd = some (.xd ys) ∧ FsRep X.K Hf ys fs) ∧ (∀ x H' Hf', Grow X.K H Hf H' Hf' x b → D.rt x H')) :: l',
      .cons hi hln ⟨hg, hdb, .inl gC⟩ (fun a oe cls d pn hz hf => ?_) hl', fun D Wout σ H Hf e cls d f hn ie hl h1 h2 h3 => ?_⟩
    · by_cases ec : cls = .ref C
      · subst ec
        obtain ⟨ts, hts, k⟩ := hd.run a oe d pn hz hf
        exact PSs.imp hts fun D σ H ⟨_, fs, b, Hf, f, hs, ht, hfs, q⟩ => k D σ H Hf fs b f hs ht hfs q
      · exact PSs.imp pss_never fun D σ H ⟨e, _⟩ => ec e
    · obtain ⟨Y, gY, ecl, hfs⟩ := ie
      have hm : e.1 ∈ names := by simpa using hn
      refine ⟨sub e.1 c, by rw [ecl]; exact hsub e.1 hm Y gY, fun hy a ha => ?_, fun hno => ?_⟩
      · have en := hsame e.1 hm hy
        rw [en] at gY
        rw [gC] at gY
        cases gY
        have ep : pick sub e (⟨c, i, t⟩ :: l0) = some (t e.2) := if_pos hy
        cases et : t e.2 with
        | none => rw [et] at ep; exact absurd ep h2
        | some b =>
          rw [et] at ep
          have il : i < σ.length := hl _ List.mem_cons_self
          refine ⟨ecl, e.2, b, Hf, f, List.getElem?_set_self il, et, ?_, fun x H' Hf' G => h1 b ep x H' Hf' G⟩
          exact hfs
      · have ep : pick sub e (⟨c, i, t⟩ :: l0) = pick sub e l0 := if_neg (by rw [hno]; decide)
        rw [ep] at h1 h2 h3
        exact hr D Wout σ H Hf e cls d f hn ⟨Y, gY, ecl, hfs⟩ (fun h m => hl h (List.mem_cons_of_mem _ m)) h1 h2 h3

theorem Stx.base {K : PySem.W.Frag} {Z : Zs} {g : Gm} {σ : L2.St} {ps : List (V × W)} {H Hf : Hp} (S : Stx K Z g σ ps H Hf) : Stx K { Z with Hf := Hf } g σ ps H Hf :=
  ⟨S.len, S.frz, S.out, Same.refl _, fun _ _ e => .inl e, S.iol, fun p hp => by have := S.rel p hp; exact this, S.nod, S.als⟩
theorem Stx.back {K : PySem.W.Frag} {Z : Zs} {g g' : Gm} {σ σ' : L2.St} {ps qs : List (V × W)} {H H' Hf Hf' : Hp} (S0 : Stx K Z g σ ps H Hf) (S : Stx K { Z with Hf := Hf } g' σ' qs H' Hf') : Stx K Z g' σ' qs H' Hf' :=
  ⟨S.len, S.frz, S.out, S0.old.trans S.old, fun b o e => (S.new b o e).elim (fun h => S0.new b o h) .inr, S.iol, fun p hp => by have := S.rel p hp; exact this, S.nod, S.als⟩
theorem ds_try {names : List Str} {sub : Str → Str → Bool} {cl : List Cl} {t : Gm → SR} {Wx : WX} {body : List Stmt} {h0 : ExceptHandler} {hds : List ExceptHandler} {pos : Pos} (hs : X.stack = X.env :: X.outer) (hf : X.env.frame = some X.env.locals) (hN : X.N.Nodup) (tk : Takes X Wx)
    (hb : ∀ (W : WX) (pn : List (Addr × Obj)) (xe : Value → Shared → Prop), Takes (X.tr pn xe) W → PassesOwn (model X.prog X.w) X.A X.env xe → DSs (X.tr pn xe) W body t) (hh : ClD X names sub (h0 :: hds) cl) :
    DS X Wx (.Try body (h0 :: hds) [] [] pos) (sTry names sub t cl) := by
  obtain ⟨l', hl', hr⟩ := cl_ok hh
  refine ⟨PS.imp (ps_tryM (tb := fun W De σ H => ∃ Z g Hf, Stx X.K Z g σ [] H Hf ∧ SEnd X W Z Hf De (t g)) hs hf hN tk (fun W pn xe h1 h2 => PSs.imp (hb W pn xe h1 h2).ps fun De σ H ⟨Z, g, Hf, S, q⟩ => ⟨Z, g, Hf, S, ?_⟩) hl') fun De σ H ⟨Z, g, Hf, S, q⟩ => ⟨{ Z with Hf := Hf }, g, Hf, S.base, ?_⟩⟩
  · cases et : t g with
    | nx g => rw [et] at q; exact q
    | rt b g => rw [et] at q; exact q
    | bk g => rw [et] at q; exact q
    | ct g => rw [et] at q; exact q
    | no => rw [et] at q; exact q
    | ex e g => rw [et] at q; exact q
  · unfold sTry at q
    cases et : t g with
    | nx g1 => rw [et] at q; intro σ1 H1 Hf1 s S1; exact q σ1 H1 Hf1 s (S.back S1)
    | rt b g1 => rw [et] at q; intro x σ1 H1 Hf1 s S1; exact q x σ1 H1 Hf1 s (S.back S1)
    | bk g1 => rw [et] at q; intro σ1 H1 Hf1 s S1; exact q σ1 H1 Hf1 s (S.back S1)
    | ct g1 => rw [et] at q; intro σ1 H1 Hf1 s S1; exact q σ1 H1 Hf1 s (S.back S1)
    | no => rw [et] at q; exact q
    | ex e g1 =>
      rw [et] at q
      intro σ1 cls d H1 Hf1 S1 ie
      dsimp only at q
      by_cases hn : (names.contains e.1 && cl.all fun h => decide (h.i < g1.length)) = true
      · rw [if_pos hn] at q
        simp only [Bool.and_eq_true, List.all_eq_true, decide_eq_true_eq] at hn
        have SB := S.back S1
        refine hr De Wx σ1 H1 Hf1 e cls d S1.frz hn.1 ie (fun h m => by rw [S1.len]; exact hn.2 h m) (fun b hb x H2 Hf2 G => ?_) (fun hb => ?_) (fun hb => ?_)
        · rw [hb] at q
          dsimp only at q
          by_cases c : okB b = true
          · rw [if_pos c] at q
            exact q x σ1 H2 Hf2 (S1.old.trans G.hf) (Stx.grow (ps := []) SB G)
          · rw [if_neg c] at q; exact q.elim
        · rw [hb] at q; exact q
        · rw [hb] at q
          exact q σ1 cls d H1 Hf1 SB ie
      · rw [if_neg hn] at q; exact q.elim
end
end DL
/-! ## DLm.lean -/
set_option Elab.async false
set_option linter.all false
set_option maxRecDepth 100000
set_option maxHeartbeats 4000000
namespace DL
open PySem PySem.Spec PyProof.Rows L2
section
variable {X : Cx} {Wx : WX} {Z : Zs} {σ : L2.St} {ps : List (V × W)} {H H' Hf Hf' : Hp} {g : Gm}
theorem de_cfn {x : Str} {id : String} {p pos : Pos} {e : Expr} {es : List Expr} {ta : Gm → Res (List W)} {r : List V → Hp → VK → Prop} {f : List D → Option B} (hc : CallR X (.builtin id) r) (hf : OpN X.K r f) (hg : Gl X x) (hm : X.mg x = some (.builtin id)) (ha : DA X Wx (e :: es) ta) (hdb : (x == ("__debug__" : Str)) = false := by decide)
    (he : starEach (e :: es) X.env = (false, eval e X.env) :: starEach es X.env := by rfl) (hpl : (backTo pos (starEach es X.env)).any (·.1) = false := by rfl) : DE X Wx (.Call (.Name x p) (e :: es) [] pos) (eOpN f ta) := ⟨PE.imp (pe_callBfun hc hg hm ha.pa hdb he hpl) fun σ H Q ⟨Z, g, ps, Hf, S, q⟩ => by
  refine giveA ha S q.bind fun ws g1 xs H1 Hf1 q1 s1 l S1 => ?_
  obtain ⟨c, e1, q3⟩ := put_end q1
  cases e2 : rdAll g1 ws with
  | none => rw [e2] at e1; simp at e1
  | some ds =>
    rw [e2] at e1
    refine hf H1 Hf1 xs ds c Q S1.frz (rdAll_ok S1 l (fun p hp => List.mem_append_right _ hp) e2) e1 fun z H3 Hf3 G => ?_
    exact q3 z H3 Hf3 (s1.trans G.hf) (S1.drop.grow G)⟩
theorem pe_tyname {x : Str} {T : String} {pos : Pos} (hg : Gl X x) (hm : X.mg x = none) (hv : bootBuiltins x = some (.type T)) (hn : x ≠ "__name__" := by decide) (hd : (x == ("__debug__" : Str)) = false := by decide) : PE X (.Name x pos) (tC (.ty T)) := pe_bltn hg hm hv rfl hn hd
theorem kbn_fun {K : PySem.W.Frag} {x qual : Str} {st : Stmt} {f : Addr} {fd : FuncData} {prs ks : List Str} {n : Nat} {is : List Nat} (F : Fun K x qual st f fd)
    (h : ∀ (kV doc pm : Value) (an : Option Addr) (cdv ct : Value) (us ws : List Value), us.length = n → ws.length = ks.length → bindArgs (PySem.W.fnOf x qual (defArgs st) (defBody st) (defScope st) .none kV doc pm an cdv ct) ⟨us, ks.zip ws⟩ = pure (prs.zip (permL is (us ++ ws)))) :
    KBn K fd prs n ks (fun us ws => permL is (us ++ ws)) (fun vs zs => permL is (vs ++ zs)) := by
  obtain ⟨oc, od, kV, doc, pm, an, cdv, ct, osl, rfl, lk, hcd⟩ := F.ex
  exact kbn_perm (h kV doc pm an cdv ct)
/-! ### a op b op c -/
def eCh (f f' : D → D → Option B) (ta tb tc : Gm → Res W) (g : Gm) : Res W := (ta g).bind fun w1 g1 => (tb g1).bind fun w2 g2 => match (rd g2 w1).bind fun d => (rd g2 w2).bind fun e => f d e with
  | some (.im (.bool true)) => (tc g2).bind fun w3 g3 => put g3 ((rd g3 w2).bind fun d => (rd g3 w3).bind fun e => f' d e)
  | some (.im (.bool false)) => .ok (.v (.im (.bool false))) g2
  | _ => .no
theorem de_chain {a b c : Expr} {ta tb tc : Gm → Res W} {op op' : CmpOp} {pos : Pos} {r r' : R2} {f f' : D → D → Option B} (ho : OpR X (compareOp op) r) (hf : Op2 X.K r f) (ho' : OpR X (compareOp op') r') (hf' : Op2 X.K r' f') (ha : DE X Wx a ta) (hb : DE X Wx b tb) (hc : DE X Wx c tc)
    (hm : lastMarks [op, op'] [b, c] = false := by with_unfolding_all rfl) : DE X Wx (.Compare a [op, op'] [b, c] pos) (eCh f f' ta tb tc) := ⟨PE.imp (pe_chain ho ho' ha.pe hb.pe hc.pe hm) fun σ H Q ⟨Z, g, ps, Hf, S, q⟩ => by
  refine giveE ha S q.bind fun w1 g1 x H1 Hf1 q1 s1 S1 => ?_
  refine giveE hb S1 q1.bind fun w2 g2 y H2 Hf2 q2 s2 S2 => ?_
  have q2' := q2
  cases e2 : rd g2 w1 with
  | none => rw [e2] at q2'; exact q2'.elim
  | some d =>
    cases e3 : rd g2 w2 with
    | none => rw [e2, e3] at q2'; exact q2'.elim
    | some d' =>
      rw [e2, e3] at q2'
      have m1 : (x, w1) ∈ (ps ++ [(x, w1)]) ++ [(y, w2)] := List.mem_append_left _ mem_last
      cases e4 : f d d' with
      | none => simp only [Option.bind_some, e4] at q2'; exact q2'.elim
      | some bb =>
        simp only [Option.bind_some, e4] at q2'
        refine hf H2 Hf2 x y d d' bb _ S2.frz (S2.rd m1 e2) (S2.rd mem_last e3) e4 fun z H3 Hf3 G => ?_
        cases bb with
        | im dd =>
          cases dd with
          | bool k =>
            have ez : z = .bl k := by
              have h : Dp X.K Hf3 z (.bool k) := G.is
              cases h; rfl
            have S3 : Stx X.K Z g2 σ ((ps ++ [(x, w1)]) ++ [(y, w2)]) H3 Hf3 := (S2.grow G).drop
            refine ⟨k, ez, ?_⟩
            cases k with
            | true =>
              rw [if_pos rfl]
              have q3 : GEnd X Wx Z σ (RP X Z σ ps Hf Q) ((tc g2).bind fun w3 g3 => put g3 ((rd g3 w2).bind fun d => (rd g3 w3).bind fun e => f' d e)) := q2'
              refine giveE hc S3 q3.bind fun w3 g3 u H4 Hf4 q4 s4 S4 => ?_
              obtain ⟨b4, e5, q5⟩ := put_end q4
              cases e6 : rd g3 w2 with
              | none => rw [e6] at e5; cases e5
              | some d2 =>
                cases e7 : rd g3 w3 with
                | none => rw [e6, e7] at e5; cases e5
                | some d3 =>
                  rw [e6, e7] at e5
                  have m2 : (y, w2) ∈ ((ps ++ [(x, w1)]) ++ [(y, w2)]) ++ [(u, w3)] := List.mem_append_left _ mem_last
                  refine hf' H4 Hf4 y u d2 d3 b4 Q S4.frz (S4.rd m2 e6) (S4.rd mem_last e7) e5 fun z5 H5 Hf5 G5 => ?_
                  rw [List.append_assoc, List.append_assoc] at S4
                  exact q5 z5 H5 Hf5 ((((s1.trans s2).trans G.hf).trans s4).trans G5.hf) (S4.drop.grow G5)
            | false =>
              rw [if_neg Bool.false_ne_true]
              have q3 : RP X Z σ ps Hf Q (.v (.im (.bool false))) g2 := q2'
              rw [List.append_assoc] at S3
              exact q3 (.bl false) H3 Hf3 ((s1.trans s2).trans G.hf) (S3.drop.pushIm (.bl false))
          | _ => exact q2'.elim
        | _ => exact q2'.elim⟩
end
/-! ### the law's end -/
theorem law_end {K : PySem.W.Frag} {mg : Str → Option Value} {den : List B → FR} {H : Hp} {a : Addr} {ns : List Int} {Q : VK} {E : XK} (hS : SqL K H a (ns.map V.int)) (h : ∃ o, den [.im (.list (ns.map PyData.int))] = .ok (.im (.bool true)) o) (hQ : ∀ H', Q (.bl true) H') : spD K mg den [.ref a] H Q E := by
  have S0 : Stx K ⟨H, H, none, .non⟩ ([] : Gm) [] [] H H := ⟨rfl, Same.refl _, fun b o e _ => e, Same.refl _, fun b o e => .inl e, (fun a e => by cases e), (fun p hp => by simp [rts] at hp), (fun a => by simp [rts, cnt]), (fun y j m => by simp at m)⟩
  refine ⟨⟨H, H, none, .non⟩, [.im (.list (ns.map PyData.int))], rfl, call_stx S0 (ds := [.list (ns.map PyData.int)]) (.cons (.lst hS (dpa_of_ints ns)) .nil), ?_⟩
  obtain ⟨o, h⟩ := h
  rw [h]
  intro x H' Hf' s S
  have r := S.rel (some x, .im (.bool true)) (by unfold rts; simp [root])
  obtain ⟨y, ey, hd⟩ := r
  cases ey
  cases hd
  exact hQ H'
end DL
/-! ## DLn.lean -/
set_option Elab.async false
set_option linter.all false
set_option maxRecDepth 100000
set_option maxHeartbeats 4000000
namespace PySem
namespace EnT
open Sem (wp)
/-- enumerate(v), v anything that begins -/
theorem meets_en1 {v : Value} {ob : Obj} {HH : Heap → Prop} (BB : Begins v ob HH) :
    Meets (Builtin.«enumerate.__new__» ⟨[.type "enumerate", v], []⟩) (fun _ R s => HH s.heap ∧
      R (.ok (.ret (.ref (s.heap.push ob).objs.size))) { s with heap := (s.heap.push ob).push { cls := .type "enumerate", data := .fields #[.none, .bool false, .ref s.heap.objs.size, rawInt 0, .none, .none] } }) :=
  .of_wp fun prog w A R s hh => by
    obtain ⟨hp, gg, dd, tk, os⟩ := s; obtain ⟨g1, hh⟩ := hh
    have hsub := sub_enumerate
    have ip : ∀ {A2 : Around} {E2 : Value → Shared → Prop} {Q2 : Value → Shared → Prop}, Q2 (.ref hp.objs.size) ⟨hp.push ob, gg, dd, tk, os⟩ → wpAny (model prog w) A2 (pyIter v) Q2 E2 ⟨hp, gg, dd, tk, os⟩ :=
      fun z => BB.iter prog w _ _ ⟨hp, gg, dd, tk, os⟩ _ g1 z
    wp_walk using ip
    refine wpAny_stack_any fun st => wpAny_pure ?_
    split
    · rename_i c _ _ _ _ _
      cases (c == Value.type "enumerate")
      · wp_walk using ip
        exact ⟨_, rfl, hh⟩
      · wp_walk using ip
        exact ⟨_, rfl, hh⟩
    · wp_walk using ip
      exact ⟨_, rfl, hh⟩
theorem en1_begins {prog : Program} {w : World} {A : Around} {E : Value → Shared → Prop} {s : Shared} {v : Value} {ob : Obj} {HH : Heap → Prop} {Q : Value → Shared → Prop} (BB : Begins v ob HH) (g1 : HH s.heap)
    (hh : ∀ h', IsEnum h' (s.heap.objs.size + 1) s.heap.objs.size 0 .none → h'.get? s.heap.objs.size = some ob → (∀ b x, s.heap.get? b = some x → h'.get? b = some x) → Q (.ref (s.heap.objs.size + 1)) { s with heap := h' }) :
    wpAny (model prog w) A (call (.type "enumerate") [v]) Q E s := by
  refine callType_new F.called_enumerate (by decide) (F.typeCall_enumerate_1 _) (F.newCall_enumerate_1 _) (fun ob => F.args_object_init_2 ob _) F.entry_enumerate_new (meets_en1 BB) ⟨g1, ?_⟩
  have zz : (s.heap.push ob).objs.size = s.heap.objs.size + 1 := Heap.size_push ..
  show _ ∧ _
  rw [zz]
  have he : IsEnum ((s.heap.push ob).push { cls := .type "enumerate", data := .fields #[.none, .bool false, .ref s.heap.objs.size, rawInt 0, .none, .none] }) (s.heap.objs.size + 1) s.heap.objs.size 0 .none := by
    have t := Heap.get?_push_size (s.heap.push ob) (o := { cls := .type "enumerate", data := .fields #[.none, .bool false, .ref s.heap.objs.size, rawInt 0, .none, .none] }) rfl
    rw [zz] at t; exact t
  exact ⟨⟨_, he, rfl⟩, hh _ he (Heap.get?_push_of_some _ (Heap.get?_push_size _ BB.free)) fun b x k => Heap.get?_push_of_some _ (Heap.get?_push_of_some _ k)⟩
end EnT
end PySem
namespace DL
open PySem PySem.Spec PyProof.Rows L2
/-! ### enumerate(tuple) -/
def IteT (K : PySem.W.Frag) (a : Addr) : It :=
  ⟨fun i H => ∃ (xs : List V) (x : V), SqT K H a xs ∧ xs[i]? = some x, fun i H v H' => ∃ T x, v = .ref T ∧ H T = none ∧ H' = upd H T (.tup [.int (i : Nat), x]) ∧ ∀ xs, SqT K H a xs → xs[i]? = some x, fun i H => ∃ xs : List V, SqT K H a xs ∧ xs.length ≤ i⟩
theorem turn_enumT {P : Program} {w : World} {K : PySem.W.Frag} {elts : List Expr} {kk : Nat} {tpos : Pos} (a e it : Addr) :
    Turn P w K (.Tuple elts kk tpos) (IteT K a) [e, it] e (fun i h => (∃ old, IsEnum h e it ((i : Nat) : Int) old) ∧ h.IsTupleIter it a i ∧ e ≠ it) where
  mem := by simp
  obj := fun i h ⟨⟨old, he⟩, ⟨o, ho, hc, hd⟩, _⟩ b hb => by
    rcases (show b = e ∨ b = it by simpa using hb) with z | z
    · rw [z]; exact ⟨_, he, fun v q => nomatch q⟩
    · rw [z]; exact ⟨o, ho, fun v q => by rw [hd] at q; cases q⟩
  keep := fun i h h' ⟨⟨old, he⟩, hi, hne⟩ k => ⟨⟨old, k e (by simp) _ he⟩, hi.at fun o q => k it (by simp) o q, hne⟩
  item := by
    intro X hP hw hK hc i pins s σ H E I hf st hg
    subst hP hw hK
    obtain ⟨⟨old, he⟩, hit, hne⟩ := st
    obtain ⟨xs, x, hq, hx⟩ := hg
    obtain ⟨its, rv, p, hz⟩ := I.tuple hq
    obtain ⟨u, hu, ru⟩ := rv.get hx
    have hel : e < s.heap.objs.size := Heap.lt_size he
    have hil : it < s.heap.objs.size := by obtain ⟨_, q, _⟩ := hit; exact Heap.lt_size q
    have hae : a ≠ e := fun z => by
      obtain ⟨o, ho, hco, _⟩ := p
      rw [z] at ho
      have := he.symm.trans ho
      cases this
      simp at hco
    have hai : a ≠ it := fun z => by
      obtain ⟨o, ho, hco, _⟩ := p
      obtain ⟨o2, ho2, hco2, _⟩ := hit
      rw [z] at ho
      rw [ho] at ho2
      cases ho2
      rw [hco] at hco2
      simp at hco2
    have hlt : i < its.toArray.size := by
      have := (List.getElem?_eq_some_iff.mp hu).1
      simpa using this
    refine wpAny_pyNext_enum_itemD (Draws.tuple (A := X.A.in1) (I.ok.hd hc) it a hai its.toArray) he ⟨hit, p⟩ hlt hne (by simp [hne, Ne.symm hae]) fun x' h' tk hP he' st' hT hsz hk => ?_
    have ex : x' = u := by
      have : its.toArray[i]? = some u := by simpa using hu
      rw [this] at hP
      exact (Option.some.inj hP).symm
    subst ex
    refine ⟨_, rfl, wpAny_letOwnedTupleGo_enum (s := { s with heap := h', toks := tk + 1 }) he' fun h'' he'' sb => ?_⟩
    have hT2 : h''.get? s.heap.objs.size = some { cls := .type "tuple", data := .seq #[.int i tk, x'] } := (sb.2 _ (Nat.ne_of_gt hel)).trans hT
    have new : ObjOk X.prog X.w (upd H s.heap.objs.size (.tup [.int (i : Nat), x])) h'' s.heap.objs.size (.tup [.int (i : Nat), x]) :=
      ⟨by show 2 ≤ sizeLine; decide, [.int i tk, x'], .cons ⟨_, rfl⟩ (.cons ru .nil), ⟨_, hT2, rfl, _, rfl⟩⟩
    have I1 : Inv X pins σ (upd H s.heap.objs.size (.tup [.int (i : Nat), x])) { s with heap := h'', toks := tk + 1 } :=
      I.turnedNew (ch := [e, it]) (fun b ob hb q => (sb.2 b (fun z => hb (by simp [z]))).trans (hk b ob (fun z => hb (by simp [z])) (fun z => hb (by simp [z])) q)) hf (Nat.le_refl _) new
    refine ⟨.ref s.heap.objs.size, _, I1, rfl, ⟨_, x, rfl, I.hok.fresh (Nat.le_refl _), rfl, fun ys hy => by rw [I.tuple_inj hy hq]; exact hx⟩, ⟨⟨x', ?_⟩, st'.1.at fun o q => (sb.2 it (Ne.symm hne)).trans q, hne⟩, fun b hb => ?_⟩
    · have e1 : ((i + 1 : Nat) : Int) = (i : Int) + 1 := by omega
      rw [e1]; exact he''
    · have hb' : b < s.heap.objs.size := by
        rcases (show b = e ∨ b = it by simpa using hb) with z | z
        · rw [z]; exact hel
        · rw [z]; exact hil
      rw [upd_ne (Nat.ne_of_lt hb')]
      exact (hf b hb).1
  done := by
    intro X hP hw hK hc i pins s σ H E I hf st hg
    subst hP hw hK
    obtain ⟨⟨old, he⟩, hit, hne⟩ := st
    obtain ⟨xs, hq, hx⟩ := hg
    obtain ⟨its, rv, p, hz⟩ := I.tuple hq
    obtain ⟨f0, f1, f2, f3, f4, f5⟩ := hf it (by simp)
    have hai : a ≠ it := fun z => by
      obtain ⟨o, ho, hco, _⟩ := p
      obtain ⟨o2, ho2, hco2, _⟩ := hit
      rw [z] at ho
      rw [ho] at ho2
      cases ho2
      rw [hco] at hco2
      simp at hco2
    have hl := rv.length
    have hno : its.toArray[i]? = none := by simp; omega
    have Dw : Draws X.prog X.w X.A.in1 it [it, a] i (fun _ _ => False) (fun j h => j = i ∧ h.IsTupleIter it a j ∧ h.IsTuple a its.toArray) :=
      { live := fun _ _ st => let ⟨o, ho, _⟩ := st.2.1; ⟨o, ho⟩
        frame := fun _ _ _ st hk => ⟨st.1, st.2.1.at fun o q => hk it (by simp) o q, st.2.2.at fun o q => hk a (by simp) o q⟩
        item := fun j s Q E hj st _ => absurd st.1 (Nat.ne_of_lt hj)
        done := fun s Q E st hE => wpAny_nextOf_tuple_end (I.ok.hd hc) st.2.1 st.2.2 hno hE }
    exact wpAny_pyNext_enum_endD Dw he ⟨rfl, hit, p⟩ fun h' eb => ⟨rfl, I.turned (t' := s.toks) (fun b o hb q => eb b o hb q) f0 f1 f3 f4 f5⟩
  self := fun A i s Q E ⟨⟨_, he⟩, _⟩ h => wpAny_pyIter_enum he h
/-- enumerate of a list or a tuple -/
def iEnA (K : PySem.W.Frag) (ta : TA) : TI := fun σ H R => ta σ H fun vs H1 => ∃ a xs, vs = [.ref a] ∧ ((SqL K H1 a xs ∧ R (Ite K a) H1) ∨ (SqT K H1 a xs ∧ R (IteT K a) H1))
theorem pi_enumA {X : Cx} {e : Expr} {ta : TA} {p pos tpos : Pos} {elts : List Expr} {kk : Nat} (hg : Gl X "enumerate") (hm : X.mg "enumerate" = none) (ha : PA X [e] ta) (hs : starEach [e] X.env = [(false, eval e X.env)] := by rfl) :
    PI X (.Tuple elts kk tpos) (.Call (.Name "enumerate" p) [e] [] pos) (iEnA X.K ta) := by
  refine ⟨fun pins s σ H R I h => ?_⟩
  refine Call_ (ld_blt I hg hm boot_enumerate (PyProof.Rows.callWith_type1 (thn (ha.run pos pins s σ H _ I h) fun us s1 ⟨vs, H1, I1, r1, q1⟩ => ?_) hs rfl))
  obtain ⟨a, xs, ex, q1⟩ := q1
  subst ex
  cases r1 with
  | cons r rr =>
    cases rr
    cases r
    have two : ∀ b, b ∈ [s1.heap.objs.size + 1, s1.heap.objs.size] → s1.heap.objs.size ≤ b := fun b hb => by
      rcases (show b = s1.heap.objs.size + 1 ∨ b = s1.heap.objs.size by simpa using hb) with z | z
      · rw [z]; exact Nat.le_add_right _ _
      · rw [z]; exact Nat.le_refl _
    rcases q1 with ⟨hq, q⟩ | ⟨hq, q⟩
    · obtain ⟨its, rv, p', hz⟩ := I1.list hq
      refine EnT.en1_begins (begins_list a its.toArray) p'.isList fun h' he hit hk => wpAny_pyIter_enum he ?_
      have I2 : Inv X pins σ H1 { s1 with heap := h' } := I1.kept (t' := s1.toks) hk
      exact ⟨s1.heap.objs.size + 1, [s1.heap.objs.size + 1, s1.heap.objs.size], _, _, H1, rfl, I2, turn_enum a (s1.heap.objs.size + 1) s1.heap.objs.size, ⟨⟨.none, he⟩, ⟨_, hit, rfl, rfl⟩, Nat.succ_ne_self _⟩, fun b hb => I1.fpOk (two b hb) (I1.hok.fresh (two b hb)), q⟩
    · obtain ⟨its, rv, p', hz⟩ := I1.tuple hq
      refine EnT.en1_begins (begins_tuple a its.toArray) p' fun h' he hit hk => wpAny_pyIter_enum he ?_
      have I2 : Inv X pins σ H1 { s1 with heap := h' } := I1.kept (t' := s1.toks) hk
      exact ⟨s1.heap.objs.size + 1, [s1.heap.objs.size + 1, s1.heap.objs.size], _, _, H1, rfl, I2, turn_enumT a (s1.heap.objs.size + 1) s1.heap.objs.size, ⟨⟨.none, he⟩, ⟨_, hit, rfl, rfl⟩, Nat.succ_ne_self _⟩, fun b hb => I1.fpOk (two b hb) (I1.hok.fresh (two b hb)), q⟩
end DL
/-! ## DLo.lean -/
set_option Elab.async false
set_option linter.all false
set_option maxRecDepth 100000
set_option maxHeartbeats 4000000
namespace DL
open PySem PySem.Spec PyProof.Rows L2
section
variable {X : Cx} {Wx : WX} {K : PySem.W.Frag} {Z : Zs} {σ : L2.St} {ps : List (V × W)} {H H' Hf Hf' : Hp} {g : Gm}
/-- what is walked, by the arguments -/
def itf (f : List D → Option (List D)) (ta : Gm → Res (List D)) (g : Gm) : Res (List D) := (ta g).bind fun ds g1 => match f ds with
  | some l => .ok l g1
  | none => .no
theorem di_gen {tg e : Expr} {es : List Expr} {ta : Gm → Res (List D)} {f : List D → Option (List D)} {C : List V → Hp → (It → Hp → Prop) → Prop} (ha : DAe X Wx es ta) (h : ∀ {T : TA}, PA X es T → PI X tg e (fun σ H R => T σ H fun vs H1 => C vs H1 R))
    (hc : ∀ (vs : List V) (ds l : List D) (H Hf : Hp) (R : It → Hp → Prop), Same Hf H → DpAll X.K Hf vs ds → f ds = some l → (∀ J, ItD X.K Hf J l → R J H) → C vs H R) : DI X Wx tg e (itf f ta) := ⟨PI.imp (h ha.pa) fun σ H R ⟨Z, g, ps, Hf, S, q⟩ => by
  refine giveAe ha S q.bind fun ds g1 xs H1 Hf1 q1 s1 l S1 => ?_
  cases e1 : f ds with
  | none => rw [e1] at q1; exact q1.elim
  | some l2 =>
    rw [e1] at q1
    exact hc xs ds l2 H1 Hf1 R S1.frz l e1 fun J hJ => q1 J H1 Hf1 s1 S1 hJ⟩
theorem di_gen1 {tg e a : Expr} {ta : Gm → Res W} {f : List D → Option (List D)} {C : V → Hp → (It → Hp → Prop) → Prop} (ha : DE X Wx a ta) (h : ∀ {T : TE}, PE X a T → PI X tg e (fun σ H R => T σ H fun v H1 => C v H1 R))
    (hc : ∀ (v : V) (d : D) (l : List D) (H Hf : Hp) (R : It → Hp → Prop), Same Hf H → Dp X.K Hf v d → f [d] = some l → (∀ J, ItD X.K Hf J l → R J H) → C v H R) : DI X Wx tg e (itf f (aConsE ta aNilE)) := ⟨PI.imp (h ha.pe) fun σ H R ⟨Z, g, ps, Hf, S, q⟩ => by
  have q0 : GEnd X Wx Z σ (fun ds g1 => GEnd X Wx Z σ (IP X Z σ ps Hf R) (match f ds with
    | some l => .ok l g1
    | none => .no)) (aConsE ta aNilE g) := q.bind
  have q1 := q0.bind
  refine giveE ha S q1 fun w g1 x H1 Hf1 q2 s1 S1 => ?_
  cases e1 : esc g1 w with
  | none => rw [e1] at q2; exact q2.elim
  | some r =>
    obtain ⟨d, g2⟩ := r
    rw [e1] at q2
    have q3 : GEnd X Wx Z σ (IP X Z σ ps Hf R) (match f [d] with
      | some l => .ok l g2
      | none => .no) := q2
    obtain ⟨Hf2, s2, hd, S2⟩ := S1.esc e1
    cases e2 : f [d] with
    | none => rw [e2] at q3; exact q3.elim
    | some l =>
      rw [e2] at q3
      exact hc x d l H1 Hf2 R S2.frz hd e2 fun J hJ => q3 J H1 Hf2 (s1.trans s2) S2.drop hJ⟩
/-! enumerate -/
def enumD : Nat → List D → List D
  | _, [] => []
  | n, d :: ds => .tuple [.int (n : Nat), d] :: enumD (n + 1) ds
theorem enumD_len : ∀ (n : Nat) (ds : List D), (enumD n ds).length = ds.length
  | _, [] => rfl
  | n, d :: ds => by show (enumD (n + 1) ds).length + 1 = ds.length + 1; rw [enumD_len]
theorem enumD_get : ∀ (n : Nat) (ds : List D) (i : Nat) (y : D), (enumD n ds)[i]? = some y → ∃ d, ds[i]? = some d ∧ y = .tuple [.int ((n + i : Nat) : Int), d]
  | _, [], i, y, h => by simp [enumD] at h
  | n, d :: ds, 0, y, h => by
    simp [enumD] at h
    exact ⟨d, rfl, h.symm⟩
  | n, d :: ds, i + 1, y, h => by
    obtain ⟨d', h1, h2⟩ := enumD_get (n + 1) ds i y (by simpa [enumD] using h)
    exact ⟨d', by simpa using h1, by rw [h2]; congr 4; omega⟩
def fEnum : List D → Option (List D)
  | [.list l] => some (enumD 0 l)
  | [.tuple l] => some (enumD 0 l)
  | _ => none
theorem itd_en {a : Addr} {xs : List V} {ds : List D} (hs : SqL K Hf a xs) (hl : DpAll K Hf xs ds) : ItD K Hf (Ite K a) (enumD 0 ds) where
  go := fun i H2 Hf2 a1 a2 c => by
    rw [enumD_len] at c
    have : i < xs.length := by rw [dpa_len hl]; exact c
    exact ⟨xs, xs[i], (a1.trans a2).seq hs, List.getElem?_eq_getElem this⟩
  stop := fun i H2 Hf2 a1 a2 c => ⟨xs, (a1.trans a2).seq hs, by rw [enumD_len] at c; rw [dpa_len hl]; exact c⟩
  yld := fun i H2 Hf2 x H3 d a1 a2 c k => by
    obtain ⟨T, y, rfl, hT, rfl, k⟩ := k
    obtain ⟨d', hd', rfl⟩ := enumD_get _ _ _ _ c
    obtain ⟨y', hy, hd⟩ := dpa_get hl hd'
    have e := k xs ((a1.trans a2).seq hs)
    rw [hy] at e
    cases e
    rw [Nat.zero_add]
    exact ⟨_, Grow.tup a2 hT (.cons (.int _) (.cons (dp_mono a1 d' _ hd) .nil))⟩
theorem itd_enT {a : Addr} {xs : List V} {ds : List D} (hs : SqT K Hf a xs) (hl : DpAll K Hf xs ds) : ItD K Hf (IteT K a) (enumD 0 ds) where
  go := fun i H2 Hf2 a1 a2 c => by
    rw [enumD_len] at c
    have : i < xs.length := by rw [dpa_len hl]; exact c
    exact ⟨xs, xs[i], same_t (a1.trans a2) hs, List.getElem?_eq_getElem this⟩
  stop := fun i H2 Hf2 a1 a2 c => ⟨xs, same_t (a1.trans a2) hs, by rw [enumD_len] at c; rw [dpa_len hl]; exact c⟩
  yld := fun i H2 Hf2 x H3 d a1 a2 c k => by
    obtain ⟨T, y, rfl, hT, rfl, k⟩ := k
    obtain ⟨d', hd', rfl⟩ := enumD_get _ _ _ _ c
    obtain ⟨y', hy, hd⟩ := dpa_get hl hd'
    have e := k xs (same_t (a1.trans a2) hs)
    rw [hy] at e
    cases e
    rw [Nat.zero_add]
    exact ⟨_, Grow.tup a2 hT (.cons (.int _) (.cons (dp_mono a1 d' _ hd) .nil))⟩
theorem one_ref {vs : List V} {d : D} (h : DpAll K Hf vs [d]) : ∃ v, vs = [v] ∧ Dp K Hf v d := by
  cases h with
  | cons h1 h2 => cases h2; exact ⟨_, rfl, h1⟩
theorem di_enum {e : Expr} {ta : Gm → Res (List D)} {p pos tpos : Pos} {elts : List Expr} {kk : Nat} (ha : DAe X Wx [e] ta) (hg : Gl X "enumerate") (hm : X.mg "enumerate" = none) (hs : starEach [e] X.env = [(false, eval e X.env)] := by rfl) :
    DI X Wx (.Tuple elts kk tpos) (.Call (.Name "enumerate" p) [e] [] pos) (itf fEnum ta) :=
  di_gen ha (fun h => pi_enumA hg hm h hs) fun vs ds l H Hf R f hd hl k => by
    match ds, hl with
    | [.list l0], hl =>
      cases hl
      obtain ⟨v, rfl, h1⟩ := one_ref hd
      cases h1 with
      | lst hs h2 => exact ⟨_, _, rfl, .inl ⟨f.seq hs, k _ (itd_en hs h2)⟩⟩
    | [.tuple l0], hl =>
      cases hl
      obtain ⟨v, rfl, h1⟩ := one_ref hd
      cases h1 with
      | tup hs h2 => exact ⟨_, _, rfl, .inr ⟨same_t f hs, k _ (itd_enT hs h2)⟩⟩
/-! range with a step -/
def rngC (lo c : Int) (n : Nat) : List D := (List.range n).map fun k => .int (lo + ((k : Nat) : Int) * c)
theorem rngC_len (lo c : Int) (n : Nat) : (rngC lo c n).length = n := by simp [rngC]
theorem itd_rngC {lo c : Int} {n : Nat} : ItD K Hf (Itc lo c n) (rngC lo c n) where
  go := fun i H2 Hf2 a1 a2 h => by rw [rngC_len] at h; exact h
  stop := fun i H2 Hf2 a1 a2 h => by rw [rngC_len] at h; exact h
  yld := fun i H2 Hf2 x H3 d a1 a2 h k => by
    obtain ⟨rfl, rfl⟩ := k
    have hi : i < n := by have := (List.getElem?_eq_some_iff.mp h).1; rw [rngC_len] at this; exact this
    have : d = .int (lo + (i : Nat) * c) := by
      unfold rngC at h
      rw [List.getElem?_map, List.getElem?_range hi] at h
      exact (Option.some.inj h).symm
    rw [this]
    exact ⟨Hf2, Grow.same a2 (.int _)⟩
def fRng3 : List D → Option (List D)
  | [.int i, .int j, .int c] => if (bd62 i && bd62 j && decide (c = -1)) = true then some (rngC i (-1) (i - j).toNat) else none
  | _ => none
theorem di_range3 {tg a b c : Expr} {ta : Gm → Res (List D)} {p pos : Pos} (ha : DAe X Wx [a, b, c] ta) (h : ∀ {T : TA}, PA X [a, b, c] T → PI X tg (.Call (.Name "range" p) [a, b, c] [] pos) (iRng3 T)) : DI X Wx tg (.Call (.Name "range" p) [a, b, c] [] pos) (itf fRng3 ta) :=
  di_gen ha (fun h0 => h h0) fun vs ds l H Hf R f hd hl k => by
    match ds, hl with
    | [.int i, .int j, .int c], hl =>
      simp only [fRng3] at hl
      by_cases hc : (bd62 i && bd62 j && decide (c = -1)) = true
      · rw [if_pos hc] at hl
        cases hl
        simp only [Bool.and_eq_true, decide_eq_true_eq] at hc
        obtain ⟨⟨h1, h2⟩, rfl⟩ := hc
        cases hd with
        | cons d1 hd =>
          cases hd with
          | cons d2 hd =>
            cases hd with
            | cons d3 hd =>
              cases hd; cases d1; cases d2; cases d3
              exact ⟨i, j, -1, _, rfl, RgC.neg (bd62_of h1).1 (bd62_of h1).2 (bd62_of h2).1 (bd62_of h2).2, k _ itd_rngC⟩
      · rw [if_neg hc] at hl; cases hl
/-! reversed -/
def fRev : List D → Option (List D)
  | [.list l] => some l.reverse
  | [.tuple l] => some l.reverse
  | _ => none
theorem rev_get {l : List D} {i : Nat} {d : D} (h : l.reverse[i]? = some d) : i < l.length ∧ l[l.length - 1 - i]? = some d := by
  have hi : i < l.length := by have := (List.getElem?_eq_some_iff.mp h).1; simpa using this
  refine ⟨hi, ?_⟩
  rw [List.getElem?_reverse hi] at h
  exact h
theorem di_rev {tg e : Expr} {ta : Gm → Res W} {p pos : Pos} (ha : DE X Wx e ta) (h : ∀ {T : TE}, PE X e T → PI X tg (.Call (.Name "reversed" p) [e] [] pos) (RT.iRevA X.K T)) : DI X Wx tg (.Call (.Name "reversed" p) [e] [] pos) (itf fRev (aConsE ta aNilE)) :=
  di_gen1 ha (fun h0 => h h0) fun v d l H Hf R f hd hl k => by
    match d, hl with
    | .list l0, hl =>
      cases hl
      cases hd with
      | lst hs h2 =>
        rename_i a xs
        refine ⟨a, xs, rfl, .inl ⟨f.seq hs, k _ ⟨fun i H2 Hf2 a1 a2 c => ?_, fun i H2 Hf2 a1 a2 c => ?_, fun i H2 Hf2 x H3 d a1 a2 c k => ?_⟩⟩⟩
        · rw [List.length_reverse, ← dpa_len h2] at c
          exact ⟨c, xs, xs[xs.length - 1 - i]'(by omega), (a1.trans a2).seq hs, List.getElem?_eq_getElem (by omega)⟩
        · rw [List.length_reverse, ← dpa_len h2] at c; exact c
        · obtain ⟨rfl, k⟩ := k
          obtain ⟨hi, c'⟩ := rev_get c
          rw [← dpa_len h2] at c'
          obtain ⟨y, hy, hd⟩ := dpa_get h2 c'
          have e := k xs ((a1.trans a2).seq hs)
          rw [hy] at e
          cases e
          exact ⟨Hf2, Grow.same a2 (dp_mono a1 d _ hd)⟩
    | .tuple l0, hl =>
      cases hl
      cases hd with
      | tup hs h2 =>
        rename_i a xs
        refine ⟨a, xs, rfl, .inr ⟨same_t f hs, k _ ⟨fun i H2 Hf2 a1 a2 c => ?_, fun i H2 Hf2 a1 a2 c => ?_, fun i H2 Hf2 x H3 d a1 a2 c k => ?_⟩⟩⟩
        · rw [List.length_reverse, ← dpa_len h2] at c
          exact ⟨c, xs, xs[xs.length - 1 - i]'(by omega), same_t (a1.trans a2) hs, List.getElem?_eq_getElem (by omega)⟩
        · rw [List.length_reverse, ← dpa_len h2] at c; exact c
        · obtain ⟨rfl, k⟩ := k
          obtain ⟨hi, c'⟩ := rev_get c
          rw [← dpa_len h2] at c'
          obtain ⟨y, hy, hd⟩ := dpa_get h2 c'
          have e := k xs (same_t (a1.trans a2) hs)
          rw [hy] at e
          cases e
          exact ⟨Hf2, Grow.same a2 (dp_mono a1 d _ hd)⟩
/-! zip -/
def zipD : List D → List D → List D
  | x :: xs, y :: ys => .tuple [x, y] :: zipD xs ys
  | _, _ => []
theorem zipD_len : ∀ (xs ys : List D), (zipD xs ys).length = min xs.length ys.length
  | [], _ => by simp [zipD]
  | _ :: _, [] => by simp [zipD]
  | x :: xs, y :: ys => by
    show (zipD xs ys).length + 1 = min (xs.length + 1) (ys.length + 1)
    rw [zipD_len]; omega
theorem zipD_get : ∀ (xs ys : List D) (i : Nat) (d : D), (zipD xs ys)[i]? = some d → ∃ x y, xs[i]? = some x ∧ ys[i]? = some y ∧ d = .tuple [x, y]
  | [], _, i, d, h => by simp [zipD] at h
  | _ :: _, [], i, d, h => by simp [zipD] at h
  | x :: xs, y :: ys, 0, d, h => by simp [zipD] at h; exact ⟨x, y, rfl, rfl, h.symm⟩
  | x :: xs, y :: ys, i + 1, d, h => by
    obtain ⟨x', y', h1, h2, h3⟩ := zipD_get xs ys i d (by simpa [zipD] using h)
    exact ⟨x', y', by simpa using h1, by simpa using h2, h3⟩
def fZip : List D → Option (List D)
  | [.list l, .list m] => some (zipD l m)
  | [.tuple l, .tuple m] => some (zipD l m)
  | _ => none
theorem di_zip {e e2 : Expr} {ta : Gm → Res (List D)} {p pos tpos : Pos} {elts : List Expr} {kk : Nat} (ha : DAe X Wx [e, e2] ta) (h : ∀ {T : TA}, PA X [e, e2] T → PI X (.Tuple elts kk tpos) (.Call (.Name "zip" p) [e, e2] [] pos) (RZ.iZipA X.K T)) :
    DI X Wx (.Tuple elts kk tpos) (.Call (.Name "zip" p) [e, e2] [] pos) (itf fZip ta) :=
  di_gen ha (fun h0 => h h0) fun vs ds l H Hf R f hd hl k => by
    match ds, hl with
    | [.list l0, .list m0], hl =>
      cases hl
      cases hd with
      | cons d1 hd =>
        obtain ⟨v2, rfl, d2⟩ := one_ref hd
        cases d1 with
        | lst s1 a1 =>
          cases d2 with
          | lst s2 a2 =>
            rename_i a xs b ys
            refine ⟨a, b, xs, ys, rfl, .inl ⟨f.seq s1, f.seq s2, k _ ⟨fun i H2 Hf2 u1 u2 c => ?_, fun i H2 Hf2 u1 u2 c => ?_, fun i H2 Hf2 x H3 d u1 u2 c k => ?_⟩⟩⟩
            · rw [zipD_len, ← dpa_len a1, ← dpa_len a2] at c
              exact ⟨xs, ys, xs[i]'(by omega), ys[i]'(by omega), (u1.trans u2).seq s1, (u1.trans u2).seq s2, List.getElem?_eq_getElem (by omega), List.getElem?_eq_getElem (by omega)⟩
            · rw [zipD_len, ← dpa_len a1, ← dpa_len a2] at c
              exact ⟨xs, ys, (u1.trans u2).seq s1, (u1.trans u2).seq s2, by omega⟩
            · obtain ⟨T, x1, x2, rfl, hT, rfl, k1, k2⟩ := k
              obtain ⟨y1, y2, e1, e2, rfl⟩ := zipD_get _ _ _ _ c
              obtain ⟨z1, hz1, hd1⟩ := dpa_get a1 e1
              obtain ⟨z2, hz2, hd2⟩ := dpa_get a2 e2
              have q1 := k1 xs ((u1.trans u2).seq s1)
              have q2 := k2 ys ((u1.trans u2).seq s2)
              rw [hz1] at q1; rw [hz2] at q2
              cases q1; cases q2
              exact ⟨_, Grow.tup u2 hT (.cons (dp_mono u1 _ _ hd1) (.cons (dp_mono u1 _ _ hd2) .nil))⟩
    | [.tuple l0, .tuple m0], hl =>
      cases hl
      cases hd with
      | cons d1 hd =>
        obtain ⟨v2, rfl, d2⟩ := one_ref hd
        cases d1 with
        | tup s1 a1 =>
          cases d2 with
          | tup s2 a2 =>
            rename_i a xs b ys
            refine ⟨a, b, xs, ys, rfl, .inr ⟨same_t f s1, same_t f s2, k _ ⟨fun i H2 Hf2 u1 u2 c => ?_, fun i H2 Hf2 u1 u2 c => ?_, fun i H2 Hf2 x H3 d u1 u2 c k => ?_⟩⟩⟩
            · rw [zipD_len, ← dpa_len a1, ← dpa_len a2] at c
              exact ⟨xs, ys, xs[i]'(by omega), ys[i]'(by omega), same_t (u1.trans u2) s1, same_t (u1.trans u2) s2, List.getElem?_eq_getElem (by omega), List.getElem?_eq_getElem (by omega)⟩
            · rw [zipD_len, ← dpa_len a1, ← dpa_len a2] at c
              exact ⟨xs, ys, same_t (u1.trans u2) s1, same_t (u1.trans u2) s2, by omega⟩
            · obtain ⟨T, x1, x2, rfl, hT, rfl, k1, k2⟩ := k
              obtain ⟨y1, y2, e1, e2, rfl⟩ := zipD_get _ _ _ _ c
              obtain ⟨z1, hz1, hd1⟩ := dpa_get a1 e1
              obtain ⟨z2, hz2, hd2⟩ := dpa_get a2 e2
              have q1 := k1 xs (same_t (u1.trans u2) s1)
              have q2 := k2 ys (same_t (u1.trans u2) s2)
              rw [hz1] at q1; rw [hz2] at q2
              cases q1; cases q2
              exact ⟨_, Grow.tup u2 hT (.cons (dp_mono u1 _ _ hd1) (.cons (dp_mono u1 _ _ hd2) .nil))⟩
end
end DL
/-! ## DLp.lean -/
set_option Elab.async false
set_option linter.all false
set_option maxRecDepth 100000
set_option maxHeartbeats 4000000
namespace DL
open PySem PySem.Spec PyProof.Rows L2
section
variable {X : Cx} {Wx : WX} {K : PySem.W.Frag} {Z : Zs} {σ : L2.St} {ps : List (V × W)} {H H' Hf Hf' : Hp} {g : Gm}
/-! ### op= -/
theorem get_lst : PGet X (rIxL X.K) := by
  intro pins s σ H x y v u Q I rx ry h
  obtain ⟨p, xs, i, z, rfl, rfl, hq, he, q⟩ := h
  cases rx
  obtain ⟨t, rfl⟩ := ry
  obtain ⟨its, r, pl, hz⟩ := I.list hq
  obtain ⟨j, h1, h2, h3, h4, h5⟩ := atI_get he
  obtain ⟨w, ew, rw'⟩ := r.get h2
  have hl := r.length
  have hn := line63
  have fin : EP X pins σ Q w s := ⟨z, H, I, rw', q⟩
  by_cases h0 : 0 ≤ i
  · have hj : i.toNat = j := by
      rw [seqIndex_of h0 h5] at h1
      exact Option.some.inj h1
    exact wpAny_getItem_list pl.isList h0 (by omega) (by rw [hj]; simpa using ew) fin
  · have hj : (i + (its.toArray.size : Int)).toNat = j := by
      rw [seqIndex_neg (by omega) h4] at h1
      rw [List.size_toArray, ← hl]
      exact Option.some.inj h1
    exact wpAny_getItem_list_neg pl.isList (by omega) (by rw [List.size_toArray] <;> omega) (by omega) (by rw [hj]; simpa using ew) fin
def sAugI (i : Nat) (f : Int → Int → Int) (ti ta : Gm → Res W) (g : Gm) : SR := match lstOf g[i]? with
  | none => .no
  | some _ => (ti g).bindS fun w g1 => match rd g1 w, lstOf g1[i]? with
    | some (.int k), some l => (match atI l k with
      | some (.int m) => (ta g1).bindS fun v g2 => (match rd g2 v, lstOf g2[i]? with
        | some (.int m2), some l2 => (match ixN l2.length k with
          | some j => .nx (put' g2 i (l2.set j (.int (f m m2))))
          | none => .no)
        | _, _ => .no)
      | _ => .no)
    | _, _ => .no
theorem ds_augI {i : Nat} {o j e : Expr} {ti ta : Gm → Res W} {op : Operator} {tpos pos : Pos} {f : Int → Int → Int} (hp : PIp X op (ipI f)) (ho : PE X o (tVar i)) (hi : DE X Wx j ti) (he : DE X Wx e ta)
    (ha : ∀ ov iv new, augStore j ov iv new = (do holding [new, ov, iv] (setItem ov iv new); release [new, ov, iv] []; pure .next) := by intros; rfl) : DS X Wx (.AugAssign (.Subscript o j tpos) op e pos) (sAugI i f ti ta) := ⟨PS.imp (ps_augS ho hi.pe get_lst he.pe hp set_list ha) fun D σ H ⟨Z, g, Hf, S, q⟩ => by
  unfold sAugI at q
  cases e0 : lstOf g[i]? with
  | none => rw [e0] at q; exact q.elim
  | some l0 =>
    rw [e0] at q
    obtain ⟨a, xs, hv, _, _⟩ := S.lst e0
    refine ⟨_, hv, ?_⟩
    refine giveE hi S (SEnd.bindS (σ := σ) q) fun w g1 y H1 Hf1 q1 s1 S1 => ?_
    cases e1 : rd g1 w with
    | none => rw [e1] at q1; exact q1.elim
    | some dk =>
      rw [e1] at q1
      have r := S1.rd mem_last e1
      cases dk with
      | int k =>
        cases e2 : lstOf g1[i]? with
        | none => rw [e2] at q1; exact q1.elim
        | some l =>
          rw [e2] at q1
          dsimp only at q1
          obtain ⟨a2, xs2, hv2, ha2, hl2⟩ := S1.lst e2
          have ea : a2 = a := by rw [hv] at hv2; cases hv2; rfl
          subst ea
          cases e3 : atI l k with
          | none => rw [e3] at q1; exact q1.elim
          | some dm =>
            rw [e3] at q1
            cases dm with
            | int m =>
              dsimp only at q1
              obtain ⟨vm, hvm, hdm⟩ := dpa_at hl2 e3
              cases hdm
              refine ⟨a2, xs2, k, .int m, rfl, rdb_int r, .inl (.inl ha2), hvm, ?_⟩
              refine giveE he (S1.drop) (SEnd.bindS (σ := σ) q1) fun v g2 z H2 Hf2 q2 s2 S2 => ?_
              cases e4 : rd g2 v with
              | none => rw [e4] at q2; exact q2.elim
              | some d2 =>
                rw [e4] at q2
                have r2 := S2.rd mem_last e4
                cases d2 with
                | int m2 =>
                  cases e5 : lstOf g2[i]? with
                  | none => rw [e5] at q2; exact q2.elim
                  | some l2 =>
                    rw [e5] at q2
                    dsimp only at q2
                    obtain ⟨a3, xs3, hv3, ha3, hl3⟩ := S2.lst e5
                    have ea : a3 = a2 := by rw [hv] at hv3; cases hv3; rfl
                    subst ea
                    cases e6 : ixN l2.length k with
                    | none => rw [e6] at q2; exact q2.elim
                    | some jj =>
                      rw [e6] at q2
                      refine ⟨m, m2, rfl, rdb_int r2, a3, xs3, k, jj, rfl, rdb_int r, ha3, by rw [dpa_len hl3]; exact e6, ?_⟩
                      exact q2 σ _ Hf2 (s1.trans s2) (Stx.put (ps := []) S2.drop e5 hv (dpa_set jj hl3 (.int _)))
                | _ => exact q2.elim
            | _ => exact q1.elim
      | _ => exact q1.elim⟩
def sAugN (i : Nat) (f : Int → Int → Int) (ta : Gm → Res W) (g : Gm) : SR := match g[i]? with
  | some (.im (.int m)) => (ta g).bindS fun w g1 => match rd g1 w with
    | some (.int m2) => if noIo g1[i]? = true then .nx (g1.set i (.im (.int (f m m2)))) else .no
    | _ => .no
  | _ => .no
theorem ds_augN {i : Nat} {x : Str} {e : Expr} {ta : Gm → Res W} {op : Operator} {pos pos' : Pos} {f : Int → Int → Int} (hN : X.N.Nodup) (hi : X.N[i]? = some x) (hx : Loc X.env.scope x) (hp : PIp X op (ipI f)) (he : DE X Wx e ta) (hf : X.fn x = true ∨ X.env.scope.names.lookup x = some .local := by first | exact .inl rfl | exact .inr rfl | assumption) :
    DS X Wx (.AugAssign (.Name x pos') op e pos) (sAugN i f ta) := ⟨PS.imp (ps_aug hN hi hx he.pe hp hf) fun D σ H ⟨Z, g, Hf, S, q⟩ => by
  unfold sAugN at q
  cases e0 : g[i]? with
  | none => rw [e0] at q; exact q.elim
  | some b =>
    rw [e0] at q
    cases b with
    | im d =>
      cases d with
      | int m =>
        obtain ⟨u, hu⟩ := sl_get S.len e0
        obtain ⟨y0, ey, hd⟩ := S.rel _ (S.slot hu e0)
        dsimp only at ey
        subst ey
        cases hd
        refine ⟨_, hu, ?_⟩
        dsimp only at q
        refine giveE he S (SEnd.bindS (σ := σ) q) fun w g1 y H1 Hf1 q1 s1 S1 => ?_
        cases e1 : rd g1 w with
        | none => rw [e1] at q1; exact q1.elim
        | some d2 =>
          rw [e1] at q1
          have r := S1.rd mem_last e1
          cases d2 with
          | int m2 =>
            dsimp only at q1
            by_cases c : noIo g1[i]? = true
            · rw [if_pos c] at q1
              refine ⟨m, m2, rfl, rdb_int r, ?_⟩
              exact q1 _ H1 Hf1 s1 (Stx.store (ps := []) (S1.drop.pushIm (.int _)) c (fun y j m => by simp at m))
            · rw [if_neg c] at q1; exact q1.elim
          | _ => exact q1.elim
      | _ => exact q.elim
    | _ => exact q.elim⟩
/-! ### times -/
def ownOf (g : Gm) : W → Option (List D)
  | .v (.mu l) => some l
  | .s i => (match g[i]? with
    | some (.mu l) => some l
    | _ => none)
  | _ => none
theorem own_at {w : W} {x : V} {l : List D} (S : Stx K Z g σ ps H Hf) (m : (x, w) ∈ ps) (h : ownOf g w = some l) : ∃ a xs, x = .ref a ∧ H a = some (.lst xs) ∧ DpAll K Hf xs l := by
  cases w with
  | v b =>
    cases b with
    | mu l' =>
      simp only [ownOf, Option.some.injEq] at h
      subst h
      obtain ⟨a, xs, e1, _, _, e2, e3⟩ := S.rel _ (S.root_mem m)
      cases e1
      exact ⟨a, xs, rfl, e2, e3⟩
    | _ => simp [ownOf] at h
  | s i =>
    have hs := S.als x i m
    cases e : g[i]? with
    | none => simp [ownOf, e] at h
    | some b =>
      cases b with
      | mu l' =>
        simp only [ownOf, e, Option.some.injEq] at h
        subst h
        obtain ⟨a, xs, e1, _, _, e2, e3⟩ := S.rel _ (S.slot hs e)
        dsimp only at e1
        cases e1
        exact ⟨a, xs, rfl, e2, e3⟩
      | _ => simp [ownOf, e] at h
def eRep (ta tb : Gm → Res W) (g : Gm) : Res W := (ta g).bind fun v g1 => (tb g1).bind fun w g2 => match ownOf g2 v, rd g2 w with
  | some l, some (.int k) => if (decide (-(2 ^ 63) ≤ k) && decide (k < 1000) && decide (l.length ≤ 1000)) = true then .ok (.v (.mu (List.replicate k.toNat l).flatten)) g2 else .no
  | _, _ => .no
theorem dpa_flat {xs : List V} {l : List D} (h : DpAll K Hf xs l) : ∀ n : Nat, DpAll K Hf (List.replicate n xs).flatten (List.replicate n l).flatten
  | 0 => .nil
  | n + 1 => by
    rw [List.replicate_succ, List.replicate_succ, List.flatten_cons, List.flatten_cons]
    exact dpa_append h (dpa_flat h n)
theorem de_rep {a b : Expr} {ta tb : Gm → Res W} {pos : Pos} (ha : DE X Wx a ta) (hb : DE X Wx b tb) : DE X Wx (.BinOp a .Mult b pos) (eRep ta tb) := ⟨PE.imp (pe_op op_rep ha.pe hb.pe) fun σ H Q ⟨Z, g, ps, Hf, S, q⟩ => by
  refine giveE ha S q.bind fun w1 g1 x H1 Hf1 q1 s1 S1 => ?_
  refine giveE hb S1 q1.bind fun w2 g2 y H2 Hf2 q2 s2 S2 => ?_
  have m1 : (x, w1) ∈ (ps ++ [(x, w1)]) ++ [(y, w2)] := List.mem_append_left _ mem_last
  cases e2 : ownOf g2 w1 with
  | none => rw [e2] at q2; exact q2.elim
  | some l =>
    cases e3 : rd g2 w2 with
    | none => rw [e2, e3] at q2; exact q2.elim
    | some d =>
      rw [e2, e3] at q2
      cases d with
      | int k =>
        dsimp only at q2
        by_cases c : (decide (-(2 ^ 63) ≤ k) && decide (k < 1000) && decide (l.length ≤ 1000)) = true
        · rw [if_pos c] at q2
          simp only [Bool.and_eq_true, decide_eq_true_eq] at c
          obtain ⟨a1, xs, rfl, h1, h2⟩ := own_at S2 m1 e2
          refine ⟨a1, k, xs, rfl, rdb_int (S2.rd mem_last e3), h1, c.1.1, Int.lt_trans c.1.2 (by decide), ?_, fun p hp => ?_⟩
          · rw [dpa_len h2]
            have : l.length * k.toNat ≤ 1000 * 1000 := Nat.mul_le_mul c.2 (by omega)
            exact Nat.le_trans this (by decide)
          · have G := Grow.lst S2.frz hp (dpa_flat h2 k.toNat)
            rw [List.append_assoc] at S2
            exact q2 (.ref p) _ _ ((s1.trans s2).trans G.hf) (S2.drop.grow G)
        · rw [if_neg c] at q2; exact q2.elim
      | _ => exact q2.elim⟩
/-- times: numbers, or a tuple and a number -/
def fMulA : D → D → Option B
  | .int i, .int j => fMul (.int i) (.int j)
  | .tuple l, .int k => if (decide (2 ≤ k) && decide (k ≤ 1000) && decide (l.length ≤ 1000) && decide (l ≠ [])) = true then some (.im (.tuple (List.replicate k.toNat l).flatten)) else none
  | _, _ => none
def rMulA (K : PySem.W.Frag) : R2 := fun x y H Q => rI CMulW (fun i j => .int (i * j)) x y H Q ∨ rRepT K x y H Q
theorem op_mulA : OpR X (binaryOp .Mult) (rMulA X.K) := op_mulW.or op_repT
theorem op2_mulA : Op2 K (rMulA K) fMulA := fun H Hf x y d e b Q f rx ry h q => by
  match d, e, h with
  | .int i, .int j, h => exact .inl (op2_mul H Hf x y _ _ b Q f rx ry h q)
  | .tuple l, .int k, h =>
    simp only [fMulA] at h
    by_cases c : (decide (2 ≤ k) && decide (k ≤ 1000) && decide (l.length ≤ 1000) && decide (l ≠ [])) = true
    · rw [if_pos c] at h
      cases h
      simp only [Bool.and_eq_true, decide_eq_true_eq] at c
      obtain ⟨a, xs, rfl, hs, hl⟩ := rdb_tup f rx
      refine .inr ⟨a, k, xs, rfl, rdb_int ry, same_t f hs, fun z => ?_, c.1.1.1, c.1.1.2, by rw [dpa_len hl]; exact c.1.2, fun p hp => q _ _ _ (Grow.tup f hp (dpa_flat hl _))⟩
      subst z
      have := dpa_len hl
      cases l with
      | nil => exact c.2 rfl
      | cons y l => simp at this
    · rw [if_neg c] at h; cases h
theorem de_gint {x : Str} {i : Int} {pos : Pos} (hg : Gl X x) (hm : ∃ t, X.mg x = some (.int i t)) (hdb : (x == ("__debug__" : Str)) = false := by decide) : DE X Wx (.Name x pos) (eC (.int i)) := by
  obtain ⟨t, h⟩ := hm
  exact de_g (v := .int i) hg ⟨_, h, ⟨t, rfl⟩⟩ (fun _ => .int i) hdb
theorem dt_chain {a b c : Expr} {ta tb tc : Gm → Res W} {op op' : CmpOp} {pos : Pos} {r r' : R2} {f f' : D → D → Option B} (ho : OpR X (compareOp op) r) (hf : Op2 X.K r f) (ho' : OpR X (compareOp op') r') (hf' : Op2 X.K r' f') (ha : DE X Wx a ta) (hb : DE X Wx b tb) (hc : DE X Wx c tc)
    (hm : lastMarks [op, op'] [b, c] = false := by with_unfolding_all rfl) : DT X Wx (.Compare a [op, op'] [b, c] pos) (tOf (eCh f f' ta tb tc)) := ⟨PT.imp (pt_chain ho ho' ha.pe hb.pe hc.pe hm) fun σ H Q ⟨Z, g, ps, Hf, S, q⟩ => by
  have q00 := q.bind
  unfold eCh at q00
  refine giveE ha S q00.bind fun w1 g1 x H1 Hf1 q1 s1 S1 => ?_
  refine giveE hb S1 q1.bind fun w2 g2 y H2 Hf2 q2 s2 S2 => ?_
  have q2' := q2
  cases e2 : rd g2 w1 with
  | none => rw [e2] at q2'; exact q2'.elim
  | some d =>
    cases e3 : rd g2 w2 with
    | none => rw [e2, e3] at q2'; exact q2'.elim
    | some d' =>
      rw [e2, e3] at q2'
      have m1 : (x, w1) ∈ (ps ++ [(x, w1)]) ++ [(y, w2)] := List.mem_append_left _ mem_last
      cases e4 : f d d' with
      | none => simp only [Option.bind_some, e4] at q2'; exact q2'.elim
      | some bb =>
        simp only [Option.bind_some, e4] at q2'
        refine hf H2 Hf2 x y d d' bb _ S2.frz (S2.rd m1 e2) (S2.rd mem_last e3) e4 fun z H3 Hf3 G => ?_
        cases bb with
        | im dd =>
          cases dd with
          | bool k =>
            have ez : z = .bl k := by
              have h : Dp X.K Hf3 z (.bool k) := G.is
              cases h; rfl
            have S3 : Stx X.K Z g2 σ ((ps ++ [(x, w1)]) ++ [(y, w2)]) H3 Hf3 := (S2.grow G).drop
            refine ⟨k, ez, ?_⟩
            cases k with
            | true =>
              rw [if_pos rfl]
              have q3 : GEnd X Wx Z σ _ ((tc g2).bind fun w3 g3 => put g3 ((rd g3 w2).bind fun d => (rd g3 w3).bind fun e => f' d e)) := q2'
              refine giveE hc S3 q3.bind fun w3 g3 u H4 Hf4 q4 s4 S4 => ?_
              cases e6 : rd g3 w2 with
              | none => rw [e6] at q4; exact q4.elim
              | some d2 =>
                cases e7 : rd g3 w3 with
                | none => rw [e6, e7] at q4; exact q4.elim
                | some d3 =>
                  rw [e6, e7] at q4
                  cases e8 : f' d2 d3 with
                  | none => simp only [Option.bind_some, e8] at q4; exact q4.elim
                  | some b4 =>
                    simp only [Option.bind_some, e8] at q4
                    have q5 : GEnd X Wx Z σ (TPo X Z σ ps Hf Q) (match rd g3 (.v b4) with | some (.bool b) => .ok b g3 | _ => .no) := q4
                    have m2 : (y, w2) ∈ ((ps ++ [(x, w1)]) ++ [(y, w2)]) ++ [(u, w3)] := List.mem_append_left _ mem_last
                    refine hf' H4 Hf4 y u d2 d3 b4 _ S4.frz (S4.rd m2 e6) (S4.rd mem_last e7) e8 fun z5 H5 Hf5 G5 => ?_
                    rw [List.append_assoc, List.append_assoc] at S4
                    have S5 := S4.drop.grow G5
                    cases e9 : rd g3 (.v b4) with
                    | none => rw [e9] at q5; exact q5.elim
                    | some d5 =>
                      rw [e9] at q5
                      have r5 := S5.rd mem_last e9
                      cases d5 with
                      | bool k5 => exact ⟨k5, rdb_bool r5, q5 H5 Hf5 ((((s1.trans s2).trans G.hf).trans s4).trans G5.hf) S5.drop⟩
                      | _ => exact q5.elim
            | false =>
              rw [if_neg Bool.false_ne_true]
              have q3 : TPo X Z σ ps Hf Q false g2 := q2'
              rw [List.append_assoc] at S3
              exact ⟨false, rfl, q3 H3 Hf3 ((s1.trans s2).trans G.hf) S3.drop⟩
          | _ => exact q2'.elim
        | _ => exact q2'.elim⟩
end
end DL
/-! ## DLq.lean -/
set_option Elab.async false
set_option linter.all false
set_option maxRecDepth 100000
set_option maxHeartbeats 4000000
/-! exceptions over ArithmeticError whose __init__(self, what, limit) lays both into the object -/
namespace PySem
namespace Low2
open PySem.W PySem.Calls PyProof.Rows PySem.HandSPX Builtin Builtin.ObjectAttr
def iA (p1 p2 p3 : Pos) : Arguments := { posonlyargs := [], args := [{ arg := "self", annotation := none, pos := p1 }, { arg := "what", annotation := none, pos := p2 }, { arg := "limit", annotation := none, pos := p3 }], vararg := none, kwonlyargs := [], kw_defaults := [], kwarg := none, defaults := [] }
def iB (q1 q2 q3 q4 r1 r2 r3 r4 : Pos) : List Stmt := [.Assign [.Attribute (.Name "self" q1) "what" q2] (.Name "what" q3) q4, .Assign [.Attribute (.Name "self" r1) "limit" r2] (.Name "limit" r3) r4]
def iS : Scope := { kind := .function, names := [(PySem.Str.ofString "self", .local), (PySem.Str.ofString "what", .local), (PySem.Str.ofString "limit", .local)], isGenerator := false, isCoroutine := false, more := [] }
abbrev aeTail : List Value := [.type "ArithmeticError", .type "Exception", .type "BaseException", .type "object"]
structure VTxt2 (K : Frag) (mg : Str → Option Value) (x : Str) (C fI : Addr) : Prop where
  gC : mg x = some (.ref C)
  cls : ∃ nm q N bs bm sn sub ab col dd k0 k1 k2 k3 k5, K.lookup C = some (excClassObj nm q C N bs bm true sn sub ab col dd k0 k1 k2 k3 k5 "ArithmeticError.__new__") ∧ excTail aeTail bm = true
  sa : findIn K (.ref C) "__setattr__" = some (some (.builtin "object.__setattr__"))
  ga : findIn K (.ref C) "__getattribute__" = some (some (.builtin "BaseException.__getattribute__"))
  gg : findIn K (.ref C) "__getattr__" = some none
  no1 : findIn K (.ref C) "what" = some none
  no2 : findIn K (.ref C) "limit" = some none
  iC : findIn K (.ref C) "__init__" = some (some (.ref fI))
  tC : typeIn K (.ref fI) = some (.type "function")
  kC : keepIn K (.ref C) = true
  exC : subIn K (.ref C) (.type "BaseException") = some true
  tyC : typeIn K (.ref C) = some (.type "type")
  hdC : hasDictIn K C = true
  fn : ∃ (oc : Value) (od : Option Addr) (doc pm : Value) (an : Option Addr) (cdv ct : Value) (osl : Array (Option Value)) (qn : Str) (p1 p2 p3 q1 q2 q3 q4 r1 r2 r3 r4 : Pos),
    K.lookup fI = some ⟨oc, od, .func (fnOf "__init__" qn (iA p1 p2 p3) (iB q1 q2 q3 q4 r1 r2 r3 r4) iS .none .none doc pm an cdv ct), osl⟩ ∧ codeIn K cdv qn = true
section
variable {prog : Program} {w : World} {A : Around} {E : Value → Shared → Prop} {R : Result → Shared → Prop} {hp : Heap} {g : Array GenState} {d : Drawn} {t : Nat} {os : OsState} {K : Frag}
/-- the first of an exception's own values -/
theorem lay1 {name : Str} {tk : Tok} {v : Value} {xx CC : Addr} {fv : Array Value} {cd : ClassData} (XX : K.In hp) (hxx : hp.get? xx = some { cls := .ref CC, data := .fields fv }) (hcd : clsIn K CC = some cd) (hov : excOver K CC aeTail = true) (hhd : cd.hasDict = true) (hno : findIn K (.ref CC) name = some none)
    (hq : ∀ h' tk' dx, (∀ b o, b ≠ xx → hp.get? b = some o → h'.get? b = some o) → hp.objs.size ≤ dx → dx ≠ xx → h'.get? xx = some { cls := .ref CC, dict := some dx, data := .fields fv } → h'.Ns1 dx (fun y => if y = name then some v else none) → R (.ok (.ret .none)) ⟨h', g, d, tk', os⟩) :
    codeAny (model prog w) A (.call (.builtin "object.__setattr__") ⟨[.ref xx, .str name tk, v], []⟩) R ⟨hp, g, d, t, os⟩ := by
  have II : InstAt hp xx { cls := .ref CC, data := .fields fv } CC none := ⟨hxx, rfl, rfl, trivial⟩
  have hxs : xx ≠ hp.objs.size := Nat.ne_of_lt (Heap.lt_size hxx)
  have ht : takerIn K CC name = some none := by unfold takerIn; rw [hno]; rfl
  refine osa_openX F.store_ArithmeticError XX II hov ht fun bb => ?_
  have hcls : Looks (model prog w) hp (classData CC) cd := looks_clsIn XX hcd
  obtain ⟨nm, bs, mro, ns, qn, hd, sn, sb, ab, col, del⟩ := cd
  dsimp only at hhd
  subst hhd
  show wpAny _ _ (storeInOwnDict (.ref xx) (.ref CC) (.str name tk) name v bb) _ _ _
  unfold storeInOwnDict ownDictForStores
  repeat (first
    | with_reducible refine HandSPX.store_in_new ?_ ?_
    | with_reducible refine wpAny_loadPart_at hxx ?_
    | with_reducible refine hcls.at ?_
    | wp_step)
  · exact ⟨_, #[], _, (Heap.get?_update_ne _ _ _ _ hxs.symm).trans (Heap.get?_push_at rfl rfl), rfl, (fun e he => absurd he (by simp)), fun _ => rfl⟩
  · intro h' tk' hn' hs
    have hx1 : (hp.push { cls := .type "dict", data := .dict #[] }).get? xx = some { cls := .ref CC, data := .fields fv } := Heap.get?_push_of_some _ hxx
    refine hq h' tk' hp.objs.size (fun b o hb ho => ?_) (Nat.le_refl _) hxs.symm ?_ hn'
    · exact (hs.2 b (Nat.ne_of_lt (Heap.lt_size ho))).trans ((Heap.get?_update_ne _ _ _ _ hb).trans (Heap.get?_push_of_some _ ho))
    · exact (hs.2 xx hxs).trans (Heap.get?_update_self _ hx1 rfl)
/-- a further one -/
theorem lay2 {name : Str} {tk : Tok} {v : Value} {xx CC dx : Addr} {fv : Array Value} {cd : ClassData} {m0 : Str → Option Value} {nl : List Str} (XX : K.In hp) (hxx : hp.get? xx = some { cls := .ref CC, dict := some dx, data := .fields fv }) (hns : hp.Ns1 dx m0) (hw : Within m0 nl) (hz : nl.length ≤ 1000) (hcd : clsIn K CC = some cd) (hov : excOver K CC aeTail = true) (hhd : cd.hasDict = true)
    (hno : findIn K (.ref CC) name = some none) (hq : ∀ h' tk', (∀ b o, b ≠ dx → hp.get? b = some o → h'.get? b = some o) → h'.Ns1 dx (fun y => if y = name then some v else m0 y) → R (.ok (.ret .none)) ⟨h', g, d, tk', os⟩) :
    codeAny (model prog w) A (.call (.builtin "object.__setattr__") ⟨[.ref xx, .str name tk, v], []⟩) R ⟨hp, g, d, t, os⟩ := by
  obtain ⟨oD, esD, epD, hoD, hdD, _⟩ := hns.count hw
  have II : InstAt hp xx { cls := .ref CC, dict := some dx, data := .fields fv } CC (some oD) := ⟨hxx, rfl, rfl, hoD⟩
  have ht : takerIn K CC name = some none := by unfold takerIn; rw [hno]; rfl
  refine osa_openX F.store_ArithmeticError XX II hov ht fun bb => ?_
  have hcls : Looks (model prog w) hp (classData CC) cd := looks_clsIn XX hcd
  obtain ⟨nm, bs, mro, ns, qn, hd, sn, sb, ab, col, del⟩ := cd
  dsimp only at hhd
  subst hhd
  show wpAny _ _ (storeInOwnDict (.ref xx) (.ref CC) (.str name tk) name v bb) _ _ _
  unfold storeInOwnDict ownDictForStores
  repeat (first
    | with_reducible refine OEX.store_in_old hns hw hz ?_
    | with_reducible refine wpAny_loadPart_at hxx ?_
    | with_reducible refine hcls.at ?_
    | wp_step)
  intro h' tk' hn' hs
  exact hq h' tk' (fun b o hb ho => (hs.2 b hb).trans ho) hn'
end
structure InitEnd (h h' : Heap) (x C dx t1 : Addr) (v u : Value) : Prop where
  keep : ∀ b o, b ≠ x → h.get? b = some o → h'.get? b = some o
  obj : h'.get? x = some { cls := .ref C, dict := some dx, data := .fields #[.ref t1, .none, .none, .none, .bool false, .none] }
  dbig : h.objs.size ≤ dx
  dne : dx ≠ x
  ns : h'.Ns1 dx (fun y => if y = "limit" then some u else if y = "what" then some v else none)
structure OwnMade (h h' : Heap) (e C d : Addr) (v u : Value) : Prop where
  keep : ∀ b o, h.get? b = some o → h'.get? b = some o
  new : h.objs.size ≤ e
  obj : ∃ oe vs, h'.get? e = some oe ∧ oe.cls = .ref C ∧ oe.dict = some d ∧ oe.data = .fields vs ∧ vs[1]? = some .none
  dbig : h.objs.size ≤ d
  dne : d ≠ e
  ns : h'.Ns1 d (fun y => if y = "limit" then some u else if y = "what" then some v else none)
section
variable {prog : Program} {w : World} {A : Around} {E : Value → Shared → Prop} {R : Result → Shared → Prop} {s : Shared} {K : Frag} {mg : Str → Option Value} {nx : Str} {C fI : Addr}
theorem over_of {bm : List Value} {C : Addr} {nm q N bs sn sub ab col dd k0 k1 k2 k3 k5} (hC : K.lookup C = some (excClassObj nm q C N bs bm true sn sub ab col dd k0 k1 k2 k3 k5 "ArithmeticError.__new__")) (hbm : excTail aeTail bm = true) :
    clsIn K C = some { name := nm, bases := bs, mro := .ref C :: bm, ns := N, qualname := q, hasDict := true, slotNames := sn, subclasses := sub, abstract := ab, collection := col, hasDel := false } ∧ excOver K C aeTail = true := by
  have hcl : clsIn K C = some { name := nm, bases := bs, mro := .ref C :: bm, ns := N, qualname := q, hasDict := true, slotNames := sn, subclasses := sub, abstract := ab, collection := col, hasDel := false } := by unfold clsIn; rw [hC] <;> rfl
  refine ⟨hcl, ?_⟩
  unfold excOver
  rw [hcl]
  simp [hbm]
theorem low_init (T : VTxt2 K mg nx C fI) {x t0 : Addr} {v u : Value} (X : K.In s.heap) (hlim : s.heap.NoLimit) (hx : s.heap.get? x = some (excO C t0)) (hnx : K.lookup x = none) (hroom : A.depth < recursionLimit)
    (hq : ∀ h' tk dx, InitEnd s.heap h' x C dx t0 v u → R (.ok (.ret .none)) { s with heap := h', toks := tk }) :
    codeAny (model prog w) A (.call (.ref fI) ⟨[.ref x, v, u], []⟩) R s := by
  obtain ⟨oc, od, doc, pm, an, cdv, ct, osl, qn, p1, p2, p3, q1, q2, q3, q4, r1, r2, r3, r4, ho, hcd⟩ := T.fn
  obtain ⟨nm, q, N, bs, bm, sn, sub, ab, col, dd, k0, k1, k2, k3, k5, hC, hbm⟩ := T.cls
  obtain ⟨hcl, hov⟩ := over_of hC hbm
  refine Att.call_fn (binds := [("self", .ref x), ("what", v), ("limit", u)]) X hlim ho hcd hroom (.of_eq rfl) (by first | rfl | decide | with_unfolding_all rfl) (fun s₁ IC => ?_) rfl rfl rfl
  obtain ⟨h₁, tk₁, rfl⟩ := IC.toInCall.same
  have k : ∀ b o, s.heap.get? b = some o → h₁.get? b = some o := IC.toInCall.keep
  have hn := IC.toInCall.ns
  have hxL : s.heap.objs.size ≠ x := Nat.ne_of_gt (Heap.lt_size hx)
  have X₁ : K.In h₁ := X.keeps k
  have hx₁ := k _ _ hx
  show wpAny _ _ (execs _ _) _ _ _
  refine wpAny_execs_cons (plainObj_wpAny_Assign_Attribute ?_)
  refine LowV.ldC (v := v) hn (by first | rfl | with_unfolding_all rfl | kernel_rfl) (LowV.ldC (v := .ref x) hn (by first | rfl | with_unfolding_all rfl | kernel_rfl) ?_)
  refine set_plain X₁ (ox := excO C t0) (od := none) ⟨hx₁, rfl, rfl, trivial⟩ T.sa ?_
  refine lay1 X₁ hx₁ hcl hov rfl T.no1 (fun h₃ tk₃ dx k₃ dn dne hx₃ hn₃ => ?_)
  have z : s.heap.objs.size < h₁.objs.size := hn.lt
  have X₃ : K.In h₃ := fun b o e => by
    by_cases hb : b = x
    · subst hb; rw [hnx] at e; cases e
    · exact k₃ b o hb (X₁ b o e)
  have hn3 : h₃.Ns s.heap.objs.size _ := hn.at fun o e => k₃ _ o hxL e
  show wpAny _ _ (execs _ _) _ _ _
  refine wpAny_execs_cons (plainObj_wpAny_Assign_Attribute ?_)
  refine LowV.ldC (v := u) hn3 (by first | rfl | with_unfolding_all rfl | kernel_rfl) (LowV.ldC (v := .ref x) hn3 (by first | rfl | with_unfolding_all rfl | kernel_rfl) ?_)
  obtain ⟨oD, esD, epD, hoD, hdD, _⟩ := hn₃.count (Within.cons "what" v Within.nil)
  refine set_plain X₃ (od := some oD) ⟨hx₃, rfl, rfl, hoD⟩ T.sa ?_
  refine lay2 X₃ hx₃ hn₃ (Within.cons "what" v Within.nil) (by simp) hcl hov rfl T.no2 (fun h4 tk4 k4 hn4 => ?_)
  show wpAny _ _ (execs _ _) _ _ _
  have hdx : s.heap.objs.size ≤ dx := Nat.le_of_lt (Nat.lt_of_lt_of_le z dn)
  exact wpAny_execs_nil (hq h4 tk4 dx ⟨fun b o hb e => k4 b o (fun q => by subst q; exact absurd (Heap.lt_size e) (Nat.not_lt_of_le hdx)) (k₃ b o hb (k b o e)), k4 x _ dne.symm hx₃, hdx, dne, hn4⟩)
theorem two_size (v u : Value) : [v, u].length ≤ sizeLine := by
  rw [sizeLine_eq]
  exact (by decide : 2 ≤ 16777216)
theorem low_made (T : VTxt2 K mg nx C fI) {v u : Value} (X : K.In s.heap) (hlim : s.heap.NoLimit) (hroom : A.depth + 1 < recursionLimit)
    (hq : ∀ h' tk e d, OwnMade s.heap h' e C d v u → R (.ok (.ret (.ref e))) { s with heap := h', toks := tk }) :
    codeAny (model prog w) A (.call (.ref C) ⟨[v, u], []⟩) R s := by
  obtain ⟨nm, q, N, bs, bm, sn, sub, ab, col, dd, k0, k1, k2, k3, k5, hC, hbm⟩ := T.cls
  obtain ⟨hp, g, dr, tk, os⟩ := s
  have k : ∀ b o, hp.get? b = some o → ((hp.push (kdv_tup [v, u])).push (excO C hp.objs.size)).get? b = some o := fun b o e => Heap.get?_push_of_some _ (Heap.get?_push_of_some _ e)
  have hget : ((hp.push (kdv_tup [v, u])).push (excO C hp.objs.size)).get? (hp.objs.size + 1) = some (excO C hp.objs.size) := by heap_get
  have hnx : K.lookup (hp.objs.size + 1) = none := by
    cases e : K.lookup (hp.objs.size + 1) with
    | none => rfl
    | some o => exact absurd (Nat.lt_of_succ_lt (Heap.lt_size (show hp.get? (hp.objs.size + 1) = some o from X _ _ e))) (Nat.lt_irrefl _)
  refine call_own F.excBase_ArithmeticError (fun Y => excTail_contains Y bm hbm) (X _ _ hC) (looks_findIn X T.iC) (fun self => bind_fn X self T.tC) (two_size v u) ?_
  refine low_init (s := ⟨(hp.push (kdv_tup [v, u])).push (excO C hp.objs.size), g, dr, tk, os⟩) T (X.keeps k) (hlim.keeps k) hget hnx hroom fun h' tk' dx ⟨k', hx, dn, dne, hns⟩ => ?_
  have old : ∀ b o, hp.get? b = some o → h'.get? b = some o := fun b o e => k' b o (Nat.ne_of_lt (Nat.lt_succ_of_lt (Heap.lt_size e))) (k b o e)
  have zz : hp.objs.size + 1 + 1 ≤ dx := by
    first
      | (simpa only [Heap.size_push] using dn)
      | exact dn
      | (have qq := dn; rw [Heap.size_push, Heap.size_push] at qq; exact qq)
  exact ⟨rfl, hq h' tk' (hp.objs.size + 1) dx ⟨old, Nat.le_succ _, ⟨_, _, hx, rfl, rfl, rfl, rfl⟩, Nat.le_trans (Nat.le_trans (Nat.le_succ _) (Nat.le_succ _)) zz, dne, hns⟩⟩
end
end Low2
end PySem
/-! ## DLr.lean -/
set_option Elab.async false
set_option linter.all false
set_option maxRecDepth 100000
set_option maxHeartbeats 4000000
namespace DL
open PySem PySem.Spec PyProof.Rows L2
theorem relO_two {v u : V} {v' u' : Value} (r : RelV v v') (r2 : RelV u u') (f : Str) : RelO (List.lookup f [(("limit" : Str), u), (("what" : Str), v)]) (if f = "limit" then some u' else if f = "what" then some v' else none) := by
  by_cases h1 : f = "limit"
  · subst h1
    rw [if_pos rfl]
    have q : List.lookup ("limit" : Str) [(("limit" : Str), u), (("what" : Str), v)] = some u := by simp [List.lookup]
    rw [q]; exact r2
  · rw [if_neg h1]
    have q1 : (f == ("limit" : Str)) = false := by simpa using h1
    by_cases h2 : f = "what"
    · subst h2
      rw [if_pos rfl]
      have q : List.lookup ("what" : Str) [(("limit" : Str), u), (("what" : Str), v)] = some v := by simp [List.lookup, q1]
      rw [q]; exact r
    · rw [if_neg h2]
      have q2 : (f == ("what" : Str)) = false := by simpa using h2
      have q : List.lookup f [(("limit" : Str), u), (("what" : Str), v)] = none := by simp [List.lookup, q1, q2]
      rw [q]; trivial
section
variable {X : Cx} {C fI : Addr} {x : Str} {Wx : WX}
theorem pmk_two {a b : Expr} {ta : TA} {p pos : Pos} {k : Nat} (T : PySem.Low2.VTxt2 X.K X.mg x C fI) (hr : Room k X.A) (ha : PA X [a, b] ta) (hg : Gl X x) (hdb : (x == ("__debug__" : Str)) = false)
    (he : starEach (a :: [b]) X.env = (false, eval a X.env) :: starEach [b] X.env) (hpl : (backTo pos (starEach [b] X.env)).any (·.1) = false) :
    PMk X (.Call (.Name x p) [a, b] [] pos) (fun σ H Q => ta σ H fun vs H1 => ∃ v u, vs = [v, u] ∧ ∀ d, H1 d = none → Q (.ref C) (some d) (upd H1 d (.xd [(("limit" : Str), u), (("what" : Str), v)]))) := by
  intro pins s σ H Q I h
  refine wpAny_Call_Name_kw (ld_glob I hg T.gC ?_ hdb)
  refine PySem.W.callWith_K (h₀ := X.base) I.ok.mod.kin T.kC (thn (ha.run pos pins s σ H _ I h) fun us s1 hh => ?_) he hpl
  obtain ⟨vs, H1, I1, rr, v, u, ev, q1⟩ := hh
  subst ev
  refine ⟨I1.kIn, ?_⟩
  obtain ⟨v', u', rfl, rv, ru⟩ := vals2 rr
  show wpAny _ _ (call (.ref C) [v', u']) _ _ _
  have hlim := I1.nolimit
  obtain ⟨hp, g, dr, tk, os⟩ := s1
  refine wpAny_call (PySem.Low2.low_made T I1.kIn hlim (by have := hr.dp; omega) fun h' tk' e d M => ?_)
  show MkP X pins σ Q (.ref e) ⟨h', g, dr, tk', os⟩
  obtain ⟨oe, fv, hoe, hc, hd, hdat, h1⟩ := M.obj
  have hns := M.ns
  obtain ⟨G', g1, g2⟩ := restrict h' fun b => decide (b ≠ e)
  have gk : ∀ b, b ≠ e → G'.get? b = h'.get? b := fun b hb => g1 b (decide_eq_true hb)
  have ge : G'.get? e = none := g2 e (by simp)
  have old : ∀ b o, hp.get? b = some o → G'.get? b = some o := fun b o q => (gk b (Nat.ne_of_lt (Nat.lt_of_lt_of_le (Heap.lt_size q) M.new))).trans (M.keep b o q)
  have ob : ObjOk X.prog X.w (upd H1 d (.xd [(("limit" : Str), u), (("what" : Str), v)])) G' d (.xd [(("limit" : Str), u), (("what" : Str), v)]) :=
    ⟨_, hns.at (fun o q => (gk d M.dne).trans q), fun f => relO_two rv ru f⟩
  have J : Inv X pins σ (upd H1 d (.xd [(("limit" : Str), u), (("what" : Str), v)])) ⟨G', g, dr, tk', os⟩ := I1.laid (t' := tk') old M.dbig ob
  refine ⟨e, oe, fv, ⟨G', g, dr, tk', os⟩, _, .ref C, some d, rfl, J, fun b o q => ?_, ge, hoe, ⟨hc, hd⟩, hdat, h1, ?_, rfl, I1.bare, raises_own T.exC T.tyC, q1 d (I1.hok.fresh M.dbig)⟩
  · by_cases hb : b = e
    · have q' : G'.get? b = some o := q
      rw [hb, ge] at q'; cases q'
    · exact (gk b hb).symm.trans q
  · rw [upd_ne (Ne.symm M.dne)]
    exact I1.hok.fresh M.new
def sRaise2 (c : Str) (ta : Gm → Res (List D)) (g : Gm) : SR := (ta g).bindS fun ds g1 => match ds with
  | [d, e] => .ex (c, [("limit", e), ("what", d)]) g1
  | _ => .no
theorem ds_raise2 {k : Nat} {a b : Expr} {ta : Gm → Res (List D)} {p pos pos2 : Pos} (hc : X.calm = true) (T : PySem.Low2.VTxt2 X.K X.mg x C fI) (hr : Rg k X.A) (tk : Takes X Wx) (ha : DAe X Wx [a, b] ta) (hg : Gl X x) (hdb : (x == ("__debug__" : Str)) = false := by decide)
    (he : starEach (a :: [b]) X.env = (false, eval a X.env) :: starEach [b] X.env := by rfl) (hpl : (backTo pos (starEach [b] X.env)).any (·.1) = false := by rfl) : DS X Wx (.Raise (some (.Call (.Name x p) [a, b] [] pos)) none pos2) (sRaise2 x ta) :=
  ⟨PS.imp (ps_raise hc tk (pmk_two T hr.rm ha.pa hg hdb he hpl)) fun D σ H ⟨Z, g, Hf, S, q⟩ => by
  refine giveAe ha S (SEnd.bindS (σ := σ) q) fun ds g1 xs H1 Hf1 q1 s1 l S1 => ?_
  match ds, l, q1 with
  | [d, e], l, q1 =>
    obtain ⟨y, z, ey, h1, h2⟩ : ∃ y z, xs = [y, z] ∧ Dp X.K Hf1 y d ∧ Dp X.K Hf1 z e := by
      cases l with
      | cons h1 h2 =>
        cases h2 with
        | cons h2 h3 => cases h3; exact ⟨_, _, rfl, h1, h2⟩
    subst ey
    refine ⟨y, z, rfl, fun dd hd => ?_⟩
    have q2 : ∀ σ, XEnd X Wx Z σ (x, [("limit", e), ("what", d)]) g1 := q1
    have S2 : Stx X.K Z g1 σ [] (upd H1 dd (.xd [(("limit" : Str), z), (("what" : Str), y)])) (upd Hf1 dd (.xd [(("limit" : Str), z), (("what" : Str), y)])) :=
      S1.step (same_new hd) (same_new (hf_none S1.frz hd)) (same_upd2 S1.frz hd) fun b u e => by
        by_cases hb : b = dd
        · subst hb; exact .inr hd
        · rw [upd_ne hb] at e; exact .inl e
    have mn := same_new (o := .xd [(("limit" : Str), z), (("what" : Str), y)]) (hf_none S1.frz hd)
    exact q2 σ _ _ _ _ S2 ⟨C, T.gC, rfl, .inr ⟨dd, _, rfl, upd_same, .cons ⟨rfl, dp_mono mn e _ h2⟩ (.cons ⟨rfl, dp_mono mn d _ h1⟩ .nil)⟩⟩
  | [], _, q1 => exact q1.elim
  | [_], _, q1 => exact q1.elim
  | _ :: _ :: _ :: _, _, q1 => exact q1.elim⟩
/-- [e.what, e.limit] -/
def tTwo (fs : List (Str × D)) : Option B := match fs.lookup ("what" : Str), fs.lookup ("limit" : Str) with
  | some a, some b => some (.mu [a, b])
  | _, _ => none
theorem dc_two {en : Str} {i : Nat} {q3 q4 q5 q6 q10 q11 : Pos} (T : EcT X.K X.mg x C) (n1 : PySem.W.findIn X.K (.ref C) "what" = some none) (n2 : PySem.W.findIn X.K (.ref C) "limit" = some none) (hN : X.N[i]? = some en) (hv : Vis X.env.scope en)
    (hd1 : (en == ("__debug__" : Str)) = false := by decide) (hd2 : (en == ("__classdict__" : Str)) = false := by decide) :
    DC X C i [.Return (some (.List [.Attribute (.Name en q3) "what" q4, .Attribute (.Name en q5) "limit" q6] q10)) q11] tTwo := by
  refine ⟨fun a oe d pn hz hf => ?_⟩
  have pe_e : ∀ p, PE (X.suite a ((a, oe) :: pn)) (.Name en p) (tVar i) := fun p => pe_var hN hv hd1 hd2
  have t1 := pe_xf (X := X) (pos := q4) ⟨T.ga, T.gg, T.exC, T.hdC⟩ n1 hz hf (pe_e q3)
  have t2 := pe_xf (X := X) (pos := q6) ⟨T.ga, T.gg, T.exC, T.hdC⟩ n2 hz hf (pe_e q5)
  refine ⟨_, pss_one (ps_ret (pe_lst (pa_cons t1 (pa_cons t2 pa_nil)))), fun D σ H Hf fs b f hs ht hfs k => ?_⟩
  unfold tTwo at ht
  cases e1 : fs.lookup ("what" : Str) with
  | none => rw [e1] at ht; cases ht
  | some dv =>
    cases e2 : fs.lookup ("limit" : Str) with
    | none => rw [e1, e2] at ht; cases ht
    | some du =>
      rw [e1, e2] at ht
      cases ht
      rcases hfs with ⟨z, _⟩ | ⟨dd, ys, z2, z3, z4⟩
      · subst z; cases e1
      · obtain ⟨y, hy, hd⟩ := fs_look z4 e1
        obtain ⟨y', hy', hd'⟩ := fs_look z4 e2
        refine ⟨.ref a, hs, rfl, rfl, dd, ys, y, z2, f _ _ z3, hy, ?_⟩
        refine ⟨.ref a, hs, rfl, rfl, dd, ys, y', z2, f _ _ z3, hy', ?_⟩
        refine ⟨by show 2 ≤ sizeLine; decide, fun p hp => ?_⟩
        exact k (.ref p) _ _ (Grow.lst f hp (.cons hd (.cons hd' .nil)))
end
end DL
/-! ## K11.lean -/
set_option Elab.async false
set_option linter.all false
set_option maxRecDepth 100000
set_option maxHeartbeats 4000000
namespace K11
open PySem PySem.Spec PyProof.Rows L2 DL
def topS (i : Nat) : Stmt := PySem.Challenge.pw_whichpaces_k11_polynomials_reckoned.main.body.getD i (.Pass ⟨0, 0, 0, 0⟩)
def cNames : List Str := ["TooMany", "InvalidRatio", "InvalidPolynomial"]
def cSub (y c : Str) : Bool := (y == "TooMany" && c == "TooMany") || (y == "InvalidRatio" && c == "InvalidRatio") || (y == "InvalidPolynomial" && c == "InvalidPolynomial")
/-- what is known of the module's names -/
structure Gs (K : PySem.W.Frag) (mg : Str → Option Value) (fI fJ c_PaceError c_LimitError c_InvalidRatio c_InvalidPolynomial c_TooMany : Addr) : Prop where
  n_abs : mg "abs" = none
  n_all : mg "all" = none
  n_bool : mg "bool" = none
  n_divmod : mg "divmod" = none
  n_enumerate : mg "enumerate" = none
  n_int : mg "int" = none
  n_isinstance : mg "isinstance" = none
  n_len : mg "len" = none
  n_list : mg "list" = none
  n_max : mg "max" = none
  n_range : mg "range" = none
  n_repr : mg "repr" = none
  n_reversed : mg "reversed" = none
  n_sum : mg "sum" = none
  n_tuple : mg "tuple" = none
  n_zip : mg "zip" = none
  m_gcd : mg "gcd" = some (.builtin "math.gcd")
  k_MOST_DEGREE : ∃ t, mg "MOST_DEGREE" = some (.int 12 t)
  k_MOST_SIZE : ∃ t, mg "MOST_SIZE" = some (.int 1000000 t)
  g_PaceError : mg "PaceError" = some (.ref c_PaceError)
  g_LimitError : mg "LimitError" = some (.ref c_LimitError)
  g_InvalidRatio : mg "InvalidRatio" = some (.ref c_InvalidRatio)
  g_InvalidPolynomial : mg "InvalidPolynomial" = some (.ref c_InvalidPolynomial)
  g_TooMany : mg "TooMany" = some (.ref c_TooMany)
  v_InvalidRatio : PySem.LowV.VTxt K mg "InvalidRatio" c_InvalidRatio fI
  v_InvalidPolynomial : PySem.LowV.VTxt K mg "InvalidPolynomial" c_InvalidPolynomial fI
  v_TooMany : PySem.Low2.VTxt2 K mg "TooMany" c_TooMany fJ
  ec_InvalidPolynomial : EcT K mg "InvalidPolynomial" c_InvalidPolynomial
  ec_InvalidRatio : EcT K mg "InvalidRatio" c_InvalidRatio
  ec_TooMany : EcT K mg "TooMany" c_TooMany
  i_InvalidPolynomial_PaceError : PySem.W.kitOne K (.ref c_InvalidPolynomial) (.ref c_PaceError) = some true
  i_InvalidRatio_PaceError : PySem.W.kitOne K (.ref c_InvalidRatio) (.ref c_PaceError) = some true
  s_InvalidPolynomial : ∀ y ∈ cNames, ∀ Y, mg y = some (.ref Y) → PySem.W.exmOne K (.ref Y) (.ref c_InvalidPolynomial) = some (cSub y "InvalidPolynomial")
  s_InvalidRatio : ∀ y ∈ cNames, ∀ Y, mg y = some (.ref Y) → PySem.W.exmOne K (.ref Y) (.ref c_InvalidRatio) = some (cSub y "InvalidRatio")
  s_TooMany : ∀ y ∈ cNames, ∀ Y, mg y = some (.ref Y) → PySem.W.exmOne K (.ref Y) (.ref c_TooMany) = some (cSub y "TooMany")
/-- what is known of a def -/
def RF (K : PySem.W.Frag) (mg : Str → Option Value) (x : Str) (st : Stmt) (ps : List Str) : Prop := ∃ f fd, Fun K x x st f fd ∧ mg x = some (.ref f) ∧ PySem.W.keepIn K (.ref f) = true ∧ Binds K fd ps []
def KF (P : Program) (w : World) (K : PySem.W.Frag) (mg : Str → Option Value) (base : Heap) (k : Nat) (x : Str) (st : Stmt) (ps : List Str) (den : List B → FR) : Prop := ∃ f fd, Fun K x x st f fd ∧ Kn P w K mg base k x f fd ps den
abbrev s__law_pot : Stmt := topS 33
theorem sc__law_pot : FnScope ["script", "k", "cell", "start"] ["script", "k"] (defScope s__law_pot) := ⟨rfl, rfl, rfl, by decide +kernel, rfl, by decide +kernel, by decide +kernel⟩
abbrev s__law_draw : Stmt := topS 34
theorem sc__law_draw : FnScope ["pot", "many", "digit"] ["pot", "many"] (defScope s__law_draw) := ⟨rfl, rfl, rfl, by decide +kernel, rfl, by decide +kernel, by decide +kernel⟩
abbrev s__law_poly : Stmt := topS 35
theorem sc__law_poly : FnScope ["pot", "long", "size", "row", "power"] ["pot", "long"] (defScope s__law_poly) := ⟨rfl, rfl, rfl, by decide +kernel, rfl, by decide +kernel, by decide +kernel⟩
abbrev s__law_is : Stmt := topS 44
theorem sc__law_is : FnScope ["told", "due"] ["told", "due"] (defScope s__law_is) := ⟨rfl, rfl, rfl, by decide +kernel, rfl, by decide +kernel, by decide +kernel⟩
abbrev s__law_cut : Stmt := topS 36
theorem sc__law_cut : FnScope ["row", "many", "power"] ["row"] (defScope s__law_cut) := ⟨rfl, rfl, rfl, by decide +kernel, rfl, by decide +kernel, by decide +kernel⟩
abbrev s__law_at : Stmt := topS 37
theorem sc__law_at : FnScope ["row", "power"] ["row", "power"] (defScope s__law_at) := ⟨rfl, rfl, rfl, by decide +kernel, rfl, by decide +kernel, by decide +kernel⟩
abbrev s__law_sum : Stmt := topS 38
theorem sc__law_sum : FnScope ["one", "other", "sign", "long", "at"] ["one", "other", "sign"] (defScope s__law_sum) := ⟨rfl, rfl, rfl, by decide +kernel, rfl, by decide +kernel, by decide +kernel⟩
abbrev s_trimmed : Stmt := topS 19
theorem sc_trimmed : FnScope ["row", "end"] ["row"] (defScope s_trimmed) := ⟨rfl, rfl, rfl, by decide +kernel, rfl, by decide +kernel, by decide +kernel⟩
abbrev s_added : Stmt := topS 20
theorem sc_added : FnScope ["p", "q", "one", "other", "near", "far"] ["p", "q"] (defScope s_added) := ⟨rfl, rfl, rfl, by decide +kernel, rfl, by decide +kernel, by decide +kernel⟩
abbrev s_is_integer : Stmt := topS 8
theorem sc_is_integer : FnScope ["value"] ["value"] (defScope s_is_integer) := ⟨rfl, rfl, rfl, by decide +kernel, rfl, by decide +kernel, by decide +kernel⟩
abbrev s_is_polynomial : Stmt := topS 17
theorem sc_is_polynomial : FnScope ["value", "one"] ["value"] (defScope s_is_polynomial) := ⟨rfl, rfl, rfl, by decide +kernel, rfl, by decide +kernel, by decide +kernel⟩
abbrev s_want_polynomial : Stmt := topS 18
theorem sc_want_polynomial : FnScope ["value"] ["value"] (defScope s_want_polynomial) := ⟨rfl, rfl, rfl, by decide +kernel, rfl, by decide +kernel, by decide +kernel⟩
abbrev s_poly_plus : Stmt := topS 26
theorem sc_poly_plus : FnScope ["polynomial", "other"] ["polynomial", "other"] (defScope s_poly_plus) := ⟨rfl, rfl, rfl, by decide +kernel, rfl, by decide +kernel, by decide +kernel⟩
abbrev s_scaled : Stmt := topS 21
theorem sc_scaled : FnScope ["p", "n", "one"] ["p", "n"] (defScope s_scaled) := ⟨rfl, rfl, rfl, by decide +kernel, rfl, by decide +kernel, by decide +kernel⟩
abbrev s_subtracted : Stmt := topS 22
theorem sc_subtracted : FnScope ["p", "q"] ["p", "q"] (defScope s_subtracted) := ⟨rfl, rfl, rfl, by decide +kernel, rfl, by decide +kernel, by decide +kernel⟩
abbrev s_poly_minus : Stmt := topS 27
theorem sc_poly_minus : FnScope ["polynomial", "other"] ["polynomial", "other"] (defScope s_poly_minus) := ⟨rfl, rfl, rfl, by decide +kernel, rfl, by decide +kernel, by decide +kernel⟩
abbrev s__law_product : Stmt := topS 39
theorem sc__law_product : FnScope ["one", "other", "row", "low", "first", "high", "second"] ["one", "other"] (defScope s__law_product) := ⟨rfl, rfl, rfl, by decide +kernel, rfl, by decide +kernel, by decide +kernel⟩
abbrev s_multiplied : Stmt := topS 23
theorem sc_multiplied : FnScope ["p", "q", "found", "at", "one", "place", "other"] ["p", "q"] (defScope s_multiplied) := ⟨rfl, rfl, rfl, by decide +kernel, rfl, by decide +kernel, by decide +kernel⟩
abbrev s_want_at_most : Stmt := topS 9
theorem sc_want_at_most : FnScope ["what", "limit", "number"] ["what", "limit", "number"] (defScope s_want_at_most) := ⟨rfl, rfl, rfl, by decide +kernel, rfl, by decide +kernel, by decide +kernel⟩
abbrev s_poly_times : Stmt := topS 28
theorem sc_poly_times : FnScope ["polynomial", "other", "found"] ["polynomial", "other"] (defScope s_poly_times) := ⟨rfl, rfl, rfl, by decide +kernel, rfl, by decide +kernel, by decide +kernel⟩
abbrev s_slope_of : Stmt := topS 25
theorem sc_slope_of : FnScope ["p", "at", "one"] ["p"] (defScope s_slope_of) := ⟨rfl, rfl, rfl, by decide +kernel, rfl, by decide +kernel, by decide +kernel⟩
abbrev s_poly_slope : Stmt := topS 30
theorem sc_poly_slope : FnScope ["polynomial"] ["polynomial"] (defScope s_poly_slope) := ⟨rfl, rfl, rfl, by decide +kernel, rfl, by decide +kernel, by decide +kernel⟩
abbrev s_is_ratio : Stmt := topS 11
theorem sc_is_ratio : FnScope ["value"] ["value"] (defScope s_is_ratio) := ⟨rfl, rfl, rfl, by decide +kernel, rfl, by decide +kernel, by decide +kernel⟩
abbrev s_want_ratio : Stmt := topS 12
theorem sc_want_ratio : FnScope ["value"] ["value"] (defScope s_want_ratio) := ⟨rfl, rfl, rfl, by decide +kernel, rfl, by decide +kernel, by decide +kernel⟩
abbrev s_bare_ratio : Stmt := topS 13
theorem sc_bare_ratio : FnScope ["number", "under", "shared"] ["number", "under"] (defScope s_bare_ratio) := ⟨rfl, rfl, rfl, by decide +kernel, rfl, by decide +kernel, by decide +kernel⟩
abbrev s_worth_of : Stmt := topS 24
theorem sc_worth_of : FnScope ["p", "a", "b", "total", "power", "one"] ["p", "a", "b"] (defScope s_worth_of) := ⟨rfl, rfl, rfl, by decide +kernel, rfl, by decide +kernel, by decide +kernel⟩
abbrev s_poly_worth : Stmt := topS 29
theorem sc_poly_worth : FnScope ["polynomial", "ratio", "a", "b", "bottom", "late"] ["polynomial", "ratio"] (defScope s_poly_worth) := ⟨rfl, rfl, rfl, by decide +kernel, rfl, by decide +kernel, by decide +kernel⟩
abbrev s__law_told : Stmt := topS 42
theorem sc__law_told : FnScope ["word", "one", "other"] ["word", "one", "other"] (defScope s__law_told) := ⟨rfl, rfl, rfl, by decide +kernel, rfl, by decide +kernel, by decide +kernel⟩
abbrev s__law_raised : Stmt := topS 43
theorem sc__law_raised : FnScope ["word", "one", "other", "e"] ["word", "one", "other"] (defScope s__law_raised) := ⟨rfl, rfl, rfl, by decide +kernel, rfl, by decide +kernel, by decide +kernel⟩
abbrev s__law_power : Stmt := topS 40
theorem sc__law_power : FnScope ["base", "many", "found", "turn"] ["base", "many"] (defScope s__law_power) := ⟨rfl, rfl, rfl, by decide +kernel, rfl, by decide +kernel, by decide +kernel⟩
abbrev s__law_worth : Stmt := topS 41
theorem sc__law_worth : FnScope ["row", "number", "under", "top", "most", "at", "a", "low", "one", "other"] ["row", "number", "under"] (defScope s__law_worth) := ⟨rfl, rfl, rfl, by decide +kernel, rfl, by decide +kernel, by decide +kernel⟩
abbrev s__law_two_right : Stmt := topS 45
theorem sc__law_two_right : FnScope ["one", "other", "number", "under", "product", "at", "first", "second"] ["one", "other", "number", "under"] (defScope s__law_two_right) := ⟨rfl, rfl, rfl, by decide +kernel, rfl, by decide +kernel, by decide +kernel⟩
abbrev s__law_one_right : Stmt := topS 46
theorem sc__law_one_right : FnScope ["one", "due", "at", "a"] ["one"] (defScope s__law_one_right) := ⟨rfl, rfl, rfl, by decide +kernel, rfl, by decide +kernel, by decide +kernel⟩
abbrev s__law_odd : Stmt := topS 32
theorem sc__law_odd : FnScope [] [] (defScope s__law_odd) := ⟨rfl, rfl, rfl, by decide +kernel, rfl, by decide +kernel, by decide +kernel⟩
abbrev s__law_refusals_right : Stmt := topS 47
theorem sc__law_refusals_right : FnScope ["pot", "one", "some", "odd", "later", "due", "word", "strange"] ["pot", "one"] (defScope s__law_refusals_right) := ⟨rfl, rfl, rfl, by decide +kernel, rfl, by decide +kernel, by decide +kernel⟩
abbrev s_law : Stmt := topS 48
theorem sc_law : FnScope ["script", "k", "pot", "one", "other", "number", "under", "great", "part"] ["script"] (defScope s_law) := ⟨rfl, rfl, rfl, by decide +kernel, rfl, by decide +kernel, by decide +kernel⟩
section
variable {P : Program} {w : World} {K : PySem.W.Frag} {mg : Str → Option Value} {base : Heap} {fI fJ c_PaceError c_LimitError c_InvalidRatio c_InvalidPolynomial c_TooMany : Addr}
noncomputable def b__law_pot : Gm → SR := (sSeq (sSet 2 (eIf (tOf (eOp2 fLt (eV 1) (eOpN fLen (aCons (eV 0) aNil)))) (eOpN fAbs (aCons (eOp2 fIx (eV 0) (eV 1)) aNil)) (eOp2 fAdd (eOp2 fAdd (eOp2 fMulA (eC (.int 613)) (eV 1)) (eC (.int 29))) (eOp2 fMod (eOpN fSum (aCons (eSl (eV 0) pNo (pSo (eC (.int 1)))) aNil)) (eC (.int 1000003))))))
  (sSeq (sSet 3 (eOp2 fAdd (eOp2 fMod (eOp2 fAdd (eOp2 fAdd (eOp2 fMulA (eOp2 fMod (eV 2) (eC (.int 2147483549))) (eC (.int 40014))) (eOp2 fMulA (eC (.int 9221)) (eV 1))) (eC (.int 57))) (eC (.int 2147483563))) (eC (.int 1))))
  (sRet (eLst (aConsE (eOpN fMax2 (aCons (eC (.int 0)) (aCons (eOp2 fSub (eV 2) (eOp2 fPow (eC (.int 10)) (eC (.int 18)))) aNil))) (aConsE (eV 3) aNilE))))))
noncomputable def d__law_pot : List B → FR := fnD 2 2 b__law_pot
theorem ok__law_pot (M : Gs K mg fI fJ c_PaceError c_LimitError c_InvalidRatio c_InvalidPolynomial c_TooMany) {f : Addr} {fd : FuncData} (F : Fun K "_law_pot" "_law_pot" s__law_pot f fd) : FnG P w K mg base 3 f fd ["script", "k"] (spD K mg d__law_pot) := by
  refine fn_ok (k := 2) (m := 2) (body := b__law_pot) F sc__law_pot rfl fun cdv A outer s H E hr => ?_
  have hu : (A.deeper (envOfC "_law_pot" (defScope s__law_pot) s.heap.objs.size f cdv)).units + 64 < cLine := by have := hr.rm.un; omega
  exact (dss_cons (ds_set (i := 2) sc__law_pot.nd rfl (by first | exact Or.inl rfl | exact Or.inr rfl) (de_if (dt_cmp op_lt op2_lt (de_v 1) (de_cb call_len opn_len rfl M.n_len boot_len (da_cons (de_v 0) da_nil)) (nomark _)) (de_cb call_abs opn_abs rfl M.n_abs boot_abs (da_cons (de_ix ix_any op2_ix (de_v 0) (de_v 1)) da_nil)) (de_bin op_addA op2_add (de_bin op_addA op2_add (de_bin op_mulA op2_mulA de_int (de_v 1)) de_int) (de_bin op_modN op2_mod (de_cb (cr_sum rfl) opn_sum rfl M.n_sum boot_sum (da_cons (de_sl (de_v 0) do_none (do_some de_int)) da_nil)) de_int))))
    (dss_cons (ds_set (i := 3) sc__law_pot.nd rfl (by first | exact Or.inl rfl | exact Or.inr rfl) (de_bin op_addA op2_add (de_bin op_modN op2_mod (de_bin op_addA op2_add (de_bin op_addA op2_add (de_bin op_mulA op2_mulA (de_bin op_modN op2_mod (de_v 2) de_int) de_int) (de_bin op_mulA op2_mulA de_int (de_v 1))) de_int) de_int) de_int))
    (dss_one (ds_ret (de_lst (dae_cons (de_cb (call_max2 rfl) opn_max2 rfl M.n_max boot_max (da_cons de_int (da_cons (de_bin op_subA op2_sub (de_v 2) (de_bin op_pow op2_pow de_int de_int)) da_nil))) (dae_cons (de_v 3) dae_nil)))))))
theorem kf__law_pot (M : Gs K mg fI fJ c_PaceError c_LimitError c_InvalidRatio c_InvalidPolynomial c_TooMany) (R : RF K mg "_law_pot" s__law_pot ["script", "k"]) : KF P w K mg base 3 "_law_pot" s__law_pot ["script", "k"] d__law_pot := by
  obtain ⟨f, fd, F, gm, kp, bi⟩ := R
  exact ⟨f, fd, F, ⟨ok__law_pot M F, gm, kp, bi⟩⟩
noncomputable def b__law_draw : Gm → SR := (sSeq (sIf (tOf (eOp2 fGt (eOp2 fIx (eV 0) (eC (.int 0))) (eC (.int 0)))) (sSeq (sAsg (tgT [(tgI 0 (eC (.int 0))), (tgN (.nm 2))]) (eOpN fDivmod (aCons (eOp2 fIx (eV 0) (eC (.int 0))) (aCons (eV 1) aNil))))
  (sRet (eV 2))) sNext)
  (sSeq (sAsg (tgI 0 (eC (.int 1))) (eOp2 fMod (eOp2 fAdd (eOp2 fMulA (eOp2 fIx (eV 0) (eC (.int 1))) (eC (.int 39373))) (eC (.int 9209))) (eC (.int 2147483587))))
  (sRet (eOp2 fMod (eOp2 fDiv (eOp2 fMod (eOp2 fMulA (eOp2 fIx (eV 0) (eC (.int 1))) (eOp2 fIx (eV 0) (eC (.int 1)))) (eC (.int 2147483563))) (eC (.int 17))) (eV 1)))))
noncomputable def d__law_draw : List B → FR := fnD 2 1 b__law_draw
theorem ok__law_draw (M : Gs K mg fI fJ c_PaceError c_LimitError c_InvalidRatio c_InvalidPolynomial c_TooMany) {f : Addr} {fd : FuncData} (F : Fun K "_law_draw" "_law_draw" s__law_draw f fd) : FnG P w K mg base 3 f fd ["pot", "many"] (spD K mg d__law_draw) := by
  refine fn_ok (k := 2) (m := 1) (body := b__law_draw) F sc__law_draw rfl fun cdv A outer s H E hr => ?_
  have hu : (A.deeper (envOfC "_law_draw" (defScope s__law_draw) s.heap.objs.size f cdv)).units + 64 < cLine := by have := hr.rm.un; omega
  exact (dss_cons (ds_if (dt_cmp op_gt op2_gt (de_ix ix_any op2_ix (de_v 0) de_int) de_int (nomark _)) (dss_cons (ds_asg (de_cb call_divmodW opn_divmod rfl M.n_divmod boot_divmod (da_cons (de_ix ix_any op2_ix (de_v 0) de_int) (da_cons (de_v 1) da_nil))) (dgt_tup (n := 2) rfl (dgts_cons (dgt_ix (i := 0) (pv 0) de_int (fun h => pg_sub (pv 0) h set_list)) (dgts_cons (dgt_n (dg_nm (pg_name (i := 2) sc__law_draw.nd rfl (by first | exact Or.inl rfl | exact Or.inr rfl)))) dgts_nil (fun h1 h2 => pgs_cons h1 h2)) (fun h1 h2 => pgs_cons h1 h2)) rfl (fun h => pg_tup rfl h)))
    (dss_one (ds_ret (de_v 2)))) dss_nil)
    (dss_cons (ds_asg (de_bin op_modN op2_mod (de_bin op_addA op2_add (de_bin op_mulA op2_mulA (de_ix ix_any op2_ix (de_v 0) de_int) de_int) de_int) de_int) (dgt_ix (i := 0) (pv 0) de_int (fun h => pg_sub (pv 0) h set_list)))
    (dss_one (ds_ret (de_bin op_modN op2_mod (de_bin op_divG op2_div (de_bin op_modN op2_mod (de_bin op_mulA op2_mulA (de_ix ix_any op2_ix (de_v 0) de_int) (de_ix ix_any op2_ix (de_v 0) de_int)) de_int) de_int) (de_v 1))))))
theorem kf__law_draw (M : Gs K mg fI fJ c_PaceError c_LimitError c_InvalidRatio c_InvalidPolynomial c_TooMany) (R : RF K mg "_law_draw" s__law_draw ["pot", "many"]) : KF P w K mg base 3 "_law_draw" s__law_draw ["pot", "many"] d__law_draw := by
  obtain ⟨f, fd, F, gm, kp, bi⟩ := R
  exact ⟨f, fd, F, ⟨ok__law_draw M F, gm, kp, bi⟩⟩
noncomputable def b__law_poly : Gm → SR := (sSeq (sSet 2 (eOp2 fIx (eLst (aConsE (eC (.int 3)) (aConsE (eC (.int 3)) (aConsE (eC (.int 9)) (aConsE (eOp2 fPow (eC (.int 10)) (eC (.int 6))) aNilE))))) (eCallIo d__law_draw 0 (aConsE (eC (.int 4)) aNilE))))
  (sSeq (sSet 3 (eComp [4] (itR (aConsE (eV 1) aNilE)) (.nm 4) tYs (eOp2 fSub (eCallIo d__law_draw 0 (aConsE (eOp2 fAdd (eOp2 fMulA (eC (.int 2)) (eV 2)) (eC (.int 1))) aNilE)) (eV 2))))
  (sSeq (sIf (tAn (tOf (eOp2 fGt (eV 1) (eC (.int 0)))) (tOf (eOp2 fEq (eOp2 fIx (eV 3) (eOp1 fNeg (eC (.int 1)))) (eC (.int 0))))) (sAsg (tgI 3 (eOp1 fNeg (eC (.int 1)))) (eOp2 fAdd (eC (.int 1)) (eCallIo d__law_draw 0 (aConsE (eV 2) aNilE)))) sNext)
  (sRet (eOpN fTuple (aCons (eV 3) aNil))))))
noncomputable def d__law_poly : List B → FR := fnD 2 3 b__law_poly
theorem ok__law_poly (M : Gs K mg fI fJ c_PaceError c_LimitError c_InvalidRatio c_InvalidPolynomial c_TooMany) (H__law_draw : KF P w K mg base 3 "_law_draw" s__law_draw ["pot", "many"] d__law_draw) {f : Addr} {fd : FuncData} (F : Fun K "_law_poly" "_law_poly" s__law_poly f fd) : FnG P w K mg base 4 f fd ["pot", "long"] (spD K mg d__law_poly) := by
  obtain ⟨f__law_draw, fd__law_draw, ⟨F__law_draw, C__law_draw⟩⟩ := H__law_draw
  refine fn_ok (k := 3) (m := 3) (body := b__law_poly) F sc__law_poly rfl fun cdv A outer s H E hr => ?_
  have hu : (A.deeper (envOfC "_law_poly" (defScope s__law_poly) s.heap.objs.size f cdv)).units + 64 < cLine := by have := hr.rm.un; omega
  exact (dss_cons (ds_set (i := 2) sc__law_poly.nd rfl (by first | exact Or.inl rfl | exact Or.inr rfl) (de_ix ix_any op2_ix (de_lst (dae_cons de_int (dae_cons de_int (dae_cons de_int (dae_cons (de_bin op_pow op2_pow de_int de_int) dae_nil))))) (de_callio (i := 0) C__law_draw (hr.mono (by decide)) (takes_of rfl rfl rfl rfl) (by rfl) (pv 0) (dae_cons de_int dae_nil))))
    (dss_cons (by first | exact (ds_setLc (i := 3) (own := [("power", 4)]) rfl sc__law_poly.nd rfl rfl rfl (di_range1 (dae_cons (de_v 1) dae_nil) (fun h => pi_range1 rfl M.n_range h) len1) (blkOk_by (by first | rfl | decide +kernel)) (fun s H C cl fp => (dg_nm (pg_name (i := 4) sc__law_poly.nd rfl (by first | exact Or.inl rfl | exact Or.inr rfl)))) (fun s H C cl fp => dts_nil) (fun s H C cl fp => (de_bin op_subA op2_sub (de_callio (i := 0) C__law_draw (hr.mono (by decide)) takes0 (by rfl) (pv 0) (dae_cons (de_bin op_addA op2_add (de_bin op_mulA op2_mulA de_int (de_v 2)) de_int) dae_nil)) (de_v 2)))) | exact (ds_set (i := 3) sc__law_poly.nd rfl (by first | exact Or.inl rfl | exact Or.inr rfl) (de_comp (own := [("power", 4)]) rfl sc__law_poly.nd (di_range1 (dae_cons (de_v 1) dae_nil) (fun h => pi_range1 rfl M.n_range h) len1) (blkOk_by (by first | rfl | decide +kernel)) (fun s H C cl fp => (dg_nm (pg_name (i := 4) sc__law_poly.nd rfl (by first | exact Or.inl rfl | exact Or.inr rfl)))) (fun s H C cl fp => dts_nil) (fun s H C cl fp => (de_bin op_subA op2_sub (de_callio (i := 0) C__law_draw (hr.mono (by decide)) takes0 (by rfl) (pv 0) (dae_cons (de_bin op_addA op2_add (de_bin op_mulA op2_mulA de_int (de_v 2)) de_int) dae_nil)) (de_v 2))))))
    (dss_cons (ds_if (dt_w (dw_and (dt_cmp op_gt op2_gt (de_v 1) de_int (nomark _)) (dw_and1 (dt_cmp (op_eqD hu) op2_eq (de_ix ix_any op2_ix (de_v 3) (de_un un_neg op1_neg de_int)) de_int (nomark _))))) (dss_one (ds_asg (de_bin op_addA op2_add de_int (de_callio (i := 0) C__law_draw (hr.mono (by decide)) (takes_of rfl rfl rfl rfl) (by rfl) (pv 0) (dae_cons (de_v 2) dae_nil))) (dgt_ix (i := 3) (pv 3) (de_un un_neg op1_neg de_int) (fun h => pg_sub (pv 3) h set_list)))) dss_nil)
    (dss_one (ds_ret (de_cty call_tuple_of opn_tuple rfl M.n_tuple boot_tuple (da_cons (de_v 3) da_nil)))))))
theorem kf__law_poly (M : Gs K mg fI fJ c_PaceError c_LimitError c_InvalidRatio c_InvalidPolynomial c_TooMany) (H__law_draw : KF P w K mg base 3 "_law_draw" s__law_draw ["pot", "many"] d__law_draw) (R : RF K mg "_law_poly" s__law_poly ["pot", "long"]) : KF P w K mg base 4 "_law_poly" s__law_poly ["pot", "long"] d__law_poly := by
  obtain ⟨f, fd, F, gm, kp, bi⟩ := R
  exact ⟨f, fd, F, ⟨ok__law_poly M H__law_draw F, gm, kp, bi⟩⟩
noncomputable def b__law_is : Gm → SR := (sRet (eOp2 fEq (eOpN fRepr (aCons (eV 0) aNil)) (eOpN fRepr (aCons (eV 1) aNil))))
noncomputable def d__law_is : List B → FR := fnD 2 0 b__law_is
theorem ok__law_is (M : Gs K mg fI fJ c_PaceError c_LimitError c_InvalidRatio c_InvalidPolynomial c_TooMany) {f : Addr} {fd : FuncData} (F : Fun K "_law_is" "_law_is" s__law_is f fd) : FnG P w K mg base 3 f fd ["told", "due"] (spD K mg d__law_is) := by
  refine fn_ok (k := 2) (m := 0) (body := b__law_is) F sc__law_is rfl fun cdv A outer s H E hr => ?_
  have hu : (A.deeper (envOfC "_law_is" (defScope s__law_is) s.heap.objs.size f cdv)).units + 64 < cLine := by have := hr.rm.un; omega
  exact (dss_one (ds_ret (de_cmp (op_eqD hu) op2_eq (de_cb (callr_repr hr.gd hu) opn_repr rfl M.n_repr boot_repr (da_cons (de_v 0) da_nil)) (de_cb (callr_repr hr.gd hu) opn_repr rfl M.n_repr boot_repr (da_cons (de_v 1) da_nil)) (nomark _))))
theorem kf__law_is (M : Gs K mg fI fJ c_PaceError c_LimitError c_InvalidRatio c_InvalidPolynomial c_TooMany) (R : RF K mg "_law_is" s__law_is ["told", "due"]) : KF P w K mg base 3 "_law_is" s__law_is ["told", "due"] d__law_is := by
  obtain ⟨f, fd, F, gm, kp, bi⟩ := R
  exact ⟨f, fd, F, ⟨ok__law_is M F, gm, kp, bi⟩⟩
noncomputable def b__law_cut : Gm → SR := (sSeq (sSet 1 (eOpN fMax1 (aCons (eOp2 fAdd (eComp [2] (itR (aConsE (eOpN fLen (aCons (eV 0) aNil)) aNilE)) (.nm 2) (tOf (eOp2 fNe (eOp2 fIx (eV 0) (eV 2)) (eC (.int 0)))) (eOp2 fAdd (eV 2) (eC (.int 1)))) (eLst (aConsE (eC (.int 0)) aNilE))) aNil)))
  (sRet (eOpN fTuple (aCons (eSl (eV 0) pNo (pSo (eV 1))) aNil))))
noncomputable def d__law_cut : List B → FR := fnD 1 2 b__law_cut
theorem ok__law_cut (M : Gs K mg fI fJ c_PaceError c_LimitError c_InvalidRatio c_InvalidPolynomial c_TooMany) {f : Addr} {fd : FuncData} (F : Fun K "_law_cut" "_law_cut" s__law_cut f fd) : FnG P w K mg base 3 f fd ["row"] (spD K mg d__law_cut) := by
  refine fn_ok (k := 2) (m := 2) (body := b__law_cut) F sc__law_cut rfl fun cdv A outer s H E hr => ?_
  have hu : (A.deeper (envOfC "_law_cut" (defScope s__law_cut) s.heap.objs.size f cdv)).units + 64 < cLine := by have := hr.rm.un; omega
  exact (dss_cons (ds_set (i := 1) sc__law_cut.nd rfl (by first | exact Or.inl rfl | exact Or.inr rfl) (de_cb (cr_max rfl) opn_max1 rfl M.n_max boot_max (da_cons (de_bin op_addA op2_add (de_comp (own := [("power", 2)]) rfl sc__law_cut.nd (di_range1 (dae_cons (de_cb call_len opn_len rfl M.n_len boot_len (da_cons (de_v 0) da_nil)) dae_nil) (fun h => pi_range1 rfl M.n_range h) len1) (blkOk_by (by first | rfl | decide +kernel)) (fun s H C cl fp => (dg_nm (pg_name (i := 2) sc__law_cut.nd rfl (by first | exact Or.inl rfl | exact Or.inr rfl)))) (fun s H C cl fp => (dts_one (dt_cmp (op_neD hu) op2_ne (de_ix ix_any op2_ix (de_v 0) (de_v 2)) de_int (nomark _)))) (fun s H C cl fp => (de_bin op_addA op2_add (de_v 2) de_int))) (de_lst (dae_cons de_int dae_nil))) da_nil)))
    (dss_one (ds_ret (de_cty call_tuple_of opn_tuple rfl M.n_tuple boot_tuple (da_cons (de_sl (de_v 0) do_none (do_some (de_v 1))) da_nil)))))
theorem kf__law_cut (M : Gs K mg fI fJ c_PaceError c_LimitError c_InvalidRatio c_InvalidPolynomial c_TooMany) (R : RF K mg "_law_cut" s__law_cut ["row"]) : KF P w K mg base 3 "_law_cut" s__law_cut ["row"] d__law_cut := by
  obtain ⟨f, fd, F, gm, kp, bi⟩ := R
  exact ⟨f, fd, F, ⟨ok__law_cut M F, gm, kp, bi⟩⟩
noncomputable def b__law_at : Gm → SR := (sRet (eIf (tOf (eOp2 fLt (eV 1) (eOpN fLen (aCons (eV 0) aNil)))) (eOp2 fIx (eV 0) (eV 1)) (eC (.int 0))))
noncomputable def d__law_at : List B → FR := fnD 2 0 b__law_at
theorem ok__law_at (M : Gs K mg fI fJ c_PaceError c_LimitError c_InvalidRatio c_InvalidPolynomial c_TooMany) {f : Addr} {fd : FuncData} (F : Fun K "_law_at" "_law_at" s__law_at f fd) : FnG P w K mg base 3 f fd ["row", "power"] (spD K mg d__law_at) := by
  refine fn_ok (k := 2) (m := 0) (body := b__law_at) F sc__law_at rfl fun cdv A outer s H E hr => ?_
  have hu : (A.deeper (envOfC "_law_at" (defScope s__law_at) s.heap.objs.size f cdv)).units + 64 < cLine := by have := hr.rm.un; omega
  exact (dss_one (ds_ret (de_if (dt_cmp op_lt op2_lt (de_v 1) (de_cb call_len opn_len rfl M.n_len boot_len (da_cons (de_v 0) da_nil)) (nomark _)) (de_ix ix_any op2_ix (de_v 0) (de_v 1)) de_int)))
theorem kf__law_at (M : Gs K mg fI fJ c_PaceError c_LimitError c_InvalidRatio c_InvalidPolynomial c_TooMany) (R : RF K mg "_law_at" s__law_at ["row", "power"]) : KF P w K mg base 3 "_law_at" s__law_at ["row", "power"] d__law_at := by
  obtain ⟨f, fd, F, gm, kp, bi⟩ := R
  exact ⟨f, fd, F, ⟨ok__law_at M F, gm, kp, bi⟩⟩
noncomputable def b__law_sum : Gm → SR := (sSeq (sSet 3 (eOpN fMax2 (aCons (eOpN fLen (aCons (eV 0) aNil)) (aCons (eOpN fLen (aCons (eV 1) aNil)) aNil))))
  (sRet (eCall d__law_cut (aConsE (eComp [4] (itR (aConsE (eV 3) aNilE)) (.nm 4) tYs (eOp2 fAdd (eCall d__law_at (aConsE (eV 0) (aConsE (eV 4) aNilE))) (eOp2 fMulA (eV 2) (eCall d__law_at (aConsE (eV 1) (aConsE (eV 4) aNilE)))))) aNilE))))
noncomputable def d__law_sum : List B → FR := fnD 3 2 b__law_sum
theorem ok__law_sum (M : Gs K mg fI fJ c_PaceError c_LimitError c_InvalidRatio c_InvalidPolynomial c_TooMany) (H__law_cut : KF P w K mg base 3 "_law_cut" s__law_cut ["row"] d__law_cut) (H__law_at : KF P w K mg base 3 "_law_at" s__law_at ["row", "power"] d__law_at) {f : Addr} {fd : FuncData} (F : Fun K "_law_sum" "_law_sum" s__law_sum f fd) : FnG P w K mg base 4 f fd ["one", "other", "sign"] (spD K mg d__law_sum) := by
  obtain ⟨f__law_cut, fd__law_cut, ⟨F__law_cut, C__law_cut⟩⟩ := H__law_cut
  obtain ⟨f__law_at, fd__law_at, ⟨F__law_at, C__law_at⟩⟩ := H__law_at
  refine fn_ok (k := 3) (m := 2) (body := b__law_sum) F sc__law_sum rfl fun cdv A outer s H E hr => ?_
  have hu : (A.deeper (envOfC "_law_sum" (defScope s__law_sum) s.heap.objs.size f cdv)).units + 64 < cLine := by have := hr.rm.un; omega
  exact (dss_cons (ds_set (i := 3) sc__law_sum.nd rfl (by first | exact Or.inl rfl | exact Or.inr rfl) (de_cb (call_max2 rfl) opn_max2 rfl M.n_max boot_max (da_cons (de_cb call_len opn_len rfl M.n_len boot_len (da_cons (de_v 0) da_nil)) (da_cons (de_cb call_len opn_len rfl M.n_len boot_len (da_cons (de_v 1) da_nil)) da_nil))))
    (dss_one (ds_ret (de_call C__law_cut (hr.mono (by decide)) (takes_of rfl rfl rfl rfl) (by rfl) (dae_cons (de_comp (own := [("at", 4)]) rfl sc__law_sum.nd (di_range1 (dae_cons (de_v 3) dae_nil) (fun h => pi_range1 rfl M.n_range h) len1) (blkOk_by (by first | rfl | decide +kernel)) (fun s H C cl fp => (dg_nm (pg_name (i := 4) sc__law_sum.nd rfl (by first | exact Or.inl rfl | exact Or.inr rfl)))) (fun s H C cl fp => dts_nil) (fun s H C cl fp => (de_bin op_addA op2_add (de_call C__law_at (hr.mono (by decide)) takes0 (by rfl) (dae_cons (de_v 0) (dae_cons (de_v 4) dae_nil))) (de_bin op_mulA op2_mulA (de_v 2) (de_call C__law_at (hr.mono (by decide)) takes0 (by rfl) (dae_cons (de_v 1) (dae_cons (de_v 4) dae_nil))))))) dae_nil)))))
theorem kf__law_sum (M : Gs K mg fI fJ c_PaceError c_LimitError c_InvalidRatio c_InvalidPolynomial c_TooMany) (H__law_cut : KF P w K mg base 3 "_law_cut" s__law_cut ["row"] d__law_cut) (H__law_at : KF P w K mg base 3 "_law_at" s__law_at ["row", "power"] d__law_at) (R : RF K mg "_law_sum" s__law_sum ["one", "other", "sign"]) : KF P w K mg base 4 "_law_sum" s__law_sum ["one", "other", "sign"] d__law_sum := by
  obtain ⟨f, fd, F, gm, kp, bi⟩ := R
  exact ⟨f, fd, F, ⟨ok__law_sum M H__law_cut H__law_at F, gm, kp, bi⟩⟩
noncomputable def b_trimmed : Gm → SR := (sSeq (sSet 1 (eOpN fLen (aCons (eV 0) aNil)))
  (sSeq (sWhile (tAn (tOf (eOp2 fGt (eV 1) (eC (.int 0)))) (tOf (eOp2 fEq (eOp2 fIx (eV 0) (eOp2 fSub (eV 1) (eC (.int 1)))) (eC (.int 0))))) (sSet 1 (eOp2 fSub (eV 1) (eC (.int 1)))) 1000)
  (sRet (eOpN fTuple (aCons (eSl (eV 0) pNo (pSo (eV 1))) aNil)))))
noncomputable def d_trimmed : List B → FR := fnD 1 1 b_trimmed
theorem ok_trimmed (M : Gs K mg fI fJ c_PaceError c_LimitError c_InvalidRatio c_InvalidPolynomial c_TooMany) {f : Addr} {fd : FuncData} (F : Fun K "trimmed" "trimmed" s_trimmed f fd) : FnG P w K mg base 3 f fd ["row"] (spD K mg d_trimmed) := by
  refine fn_ok (k := 2) (m := 1) (body := b_trimmed) F sc_trimmed rfl fun cdv A outer s H E hr => ?_
  have hu : (A.deeper (envOfC "trimmed" (defScope s_trimmed) s.heap.objs.size f cdv)).units + 64 < cLine := by have := hr.rm.un; omega
  exact (dss_cons (ds_set (i := 1) sc_trimmed.nd rfl (by first | exact Or.inl rfl | exact Or.inr rfl) (de_cb call_len opn_len rfl M.n_len boot_len (da_cons (de_v 0) da_nil)))
    (dss_cons (ds_while (n := 1000) (passes_of rfl) (dt_w (dw_and (dt_cmp op_gt op2_gt (de_v 1) de_int (nomark _)) (dw_and1 (dt_cmp (op_eqD hu) op2_eq (de_ix ix_any op2_ix (de_v 0) (de_bin op_subA op2_sub (de_v 1) de_int)) de_int (nomark _))))) (dss_one (ds_set (i := 1) sc_trimmed.nd rfl (by first | exact Or.inl rfl | exact Or.inr rfl) (de_bin op_subA op2_sub (de_v 1) de_int))))
    (dss_one (ds_ret (de_cty call_tuple_of opn_tuple rfl M.n_tuple boot_tuple (da_cons (de_sl (de_v 0) do_none (do_some (de_v 1))) da_nil))))))
theorem kf_trimmed (M : Gs K mg fI fJ c_PaceError c_LimitError c_InvalidRatio c_InvalidPolynomial c_TooMany) (R : RF K mg "trimmed" s_trimmed ["row"]) : KF P w K mg base 3 "trimmed" s_trimmed ["row"] d_trimmed := by
  obtain ⟨f, fd, F, gm, kp, bi⟩ := R
  exact ⟨f, fd, F, ⟨ok_trimmed M F, gm, kp, bi⟩⟩
noncomputable def b_added : Gm → SR := (sSeq (sAsg (tgN (.tp [(.nm 2), (.nm 3)])) (eIf (tOf (eOp2 fGe (eOpN fLen (aCons (eV 0) aNil)) (eOpN fLen (aCons (eV 1) aNil)))) (eTup (aConsE (eV 0) (aConsE (eV 1) aNilE))) (eTup (aConsE (eV 1) (aConsE (eV 0) aNilE)))))
  (sRet (eCall d_trimmed (aConsE (eOp2 fAdd (eComp [4, 5] (itf fZip (aConsE (eV 2) (aConsE (eV 3) aNilE))) (.tp [(.nm 4), (.nm 5)]) tYs (eOp2 fAdd (eV 4) (eV 5))) (eOpN fList (aCons (eSl (eV 2) (pSo (eOpN fLen (aCons (eV 3) aNil))) pNo) aNil))) aNilE))))
noncomputable def d_added : List B → FR := fnD 2 4 b_added
theorem ok_added (M : Gs K mg fI fJ c_PaceError c_LimitError c_InvalidRatio c_InvalidPolynomial c_TooMany) (H_trimmed : KF P w K mg base 3 "trimmed" s_trimmed ["row"] d_trimmed) {f : Addr} {fd : FuncData} (F : Fun K "added" "added" s_added f fd) : FnG P w K mg base 4 f fd ["p", "q"] (spD K mg d_added) := by
  obtain ⟨f_trimmed, fd_trimmed, ⟨F_trimmed, C_trimmed⟩⟩ := H_trimmed
  refine fn_ok (k := 3) (m := 4) (body := b_added) F sc_added rfl fun cdv A outer s H E hr => ?_
  have hu : (A.deeper (envOfC "added" (defScope s_added) s.heap.objs.size f cdv)).units + 64 < cLine := by have := hr.rm.un; omega
  exact (dss_cons (ds_asg (de_if (dt_cmp op_ge op2_ge (de_cb call_len opn_len rfl M.n_len boot_len (da_cons (de_v 0) da_nil)) (de_cb call_len opn_len rfl M.n_len boot_len (da_cons (de_v 1) da_nil)) (nomark _)) (de_tup (dae_cons (de_v 0) (dae_cons (de_v 1) dae_nil))) (de_tup (dae_cons (de_v 1) (dae_cons (de_v 0) dae_nil)))) (dgt_n (dg_tup (n := 2) rfl (dgs_cons (dg_nm (pg_name (i := 2) sc_added.nd rfl (by first | exact Or.inl rfl | exact Or.inr rfl))) (dgs_cons (dg_nm (pg_name (i := 3) sc_added.nd rfl (by first | exact Or.inl rfl | exact Or.inr rfl))) dgs_nil (fun h1 h2 => pgs_cons h1 h2)) (fun h1 h2 => pgs_cons h1 h2)) rfl (fun h => pg_tup rfl h))))
    (dss_one (ds_ret (de_call C_trimmed (hr.mono (by decide)) (takes_of rfl rfl rfl rfl) (by rfl) (dae_cons (de_bin op_addA op2_add (de_comp (own := [("near", 4), ("far", 5)]) rfl sc_added.nd (di_zip (dae_cons (de_v 2) (dae_cons (de_v 3) dae_nil)) (fun h => RZ.pi_zipA (by rfl) M.n_zip h)) (blkOk_by (by first | rfl | decide +kernel)) (fun s H C cl fp => (dg_tup (n := 2) rfl (dgs_cons (dg_nm (pg_name (i := 4) sc_added.nd rfl (by first | exact Or.inl rfl | exact Or.inr rfl))) (dgs_cons (dg_nm (pg_name (i := 5) sc_added.nd rfl (by first | exact Or.inl rfl | exact Or.inr rfl))) dgs_nil (fun h1 h2 => pgs_cons h1 h2)) (fun h1 h2 => pgs_cons h1 h2)) rfl (fun h => pg_tup rfl h))) (fun s H C cl fp => dts_nil) (fun s H C cl fp => (de_bin op_addA op2_add (de_v 4) (de_v 5)))) (de_cty call_list_of opn_list rfl M.n_list boot_list (da_cons (de_sl (de_v 2) (do_some (de_cb call_len opn_len rfl M.n_len boot_len (da_cons (de_v 3) da_nil))) do_none) da_nil))) dae_nil)))))
theorem kf_added (M : Gs K mg fI fJ c_PaceError c_LimitError c_InvalidRatio c_InvalidPolynomial c_TooMany) (H_trimmed : KF P w K mg base 3 "trimmed" s_trimmed ["row"] d_trimmed) (R : RF K mg "added" s_added ["p", "q"]) : KF P w K mg base 4 "added" s_added ["p", "q"] d_added := by
  obtain ⟨f, fd, F, gm, kp, bi⟩ := R
  exact ⟨f, fd, F, ⟨ok_added M H_trimmed F, gm, kp, bi⟩⟩
noncomputable def b_is_integer : Gm → SR := (sRet (eAnd (eIsi "int" (eV 0)) (eNot (eIsi "bool" (eV 0)))))
noncomputable def d_is_integer : List B → FR := fnD 1 0 b_is_integer
theorem ok_is_integer (M : Gs K mg fI fJ c_PaceError c_LimitError c_InvalidRatio c_InvalidPolynomial c_TooMany) {f : Addr} {fd : FuncData} (F : Fun K "is_integer" "is_integer" s_is_integer f fd) : FnG P w K mg base 3 f fd ["value"] (spD K mg d_is_integer) := by
  refine fn_ok (k := 2) (m := 0) (body := b_is_integer) F sc_is_integer rfl fun cdv A outer s H E hr => ?_
  have hu : (A.deeper (envOfC "is_integer" (defScope s_is_integer) s.heap.objs.size f cdv)).units + 64 < cLine := by have := hr.rm.un; omega
  exact (dss_one (ds_ret (de_and (de_isi (de_v 0) rfl M.n_isinstance (pe_tyname (by rfl) M.n_int (by decide +kernel))) (de_and1 (de_not (de_isi (de_v 0) rfl M.n_isinstance (pe_tyname (by rfl) M.n_bool (by decide +kernel))))))))
theorem kf_is_integer (M : Gs K mg fI fJ c_PaceError c_LimitError c_InvalidRatio c_InvalidPolynomial c_TooMany) (R : RF K mg "is_integer" s_is_integer ["value"]) : KF P w K mg base 3 "is_integer" s_is_integer ["value"] d_is_integer := by
  obtain ⟨f, fd, F, gm, kp, bi⟩ := R
  exact ⟨f, fd, F, ⟨ok_is_integer M F, gm, kp, bi⟩⟩
noncomputable def b_is_polynomial : Gm → SR := (sSeq (sIf (tOr' (tNo (tOf (eIsi "tuple" (eV 0)))) (tOf (eOp2 fGt (eOpN fLen (aCons (eV 0) aNil)) (eOp2 fAdd (eC (.int 12)) (eC (.int 1)))))) (sRet (eC (.bool false))) sNext)
  (sSeq (sIf (tNo (tOf (eOpN fAll (aCons (eComp [1] (itE (eV 0)) (.nm 1) tYs (eAnd (eCall d_is_integer (aConsE (eV 1) aNilE)) (eOp2 fLe (eOpN fAbs (aCons (eV 1) aNil)) (eC (.int 1000000))))) aNil)))) (sRet (eC (.bool false))) sNext)
  (sRet (eOr (eOp2 fEq (eV 0) (eTup aNilE)) (eOp2 fNe (eOp2 fIx (eV 0) (eOp1 fNeg (eC (.int 1)))) (eC (.int 0)))))))
noncomputable def d_is_polynomial : List B → FR := fnD 1 1 b_is_polynomial
theorem ok_is_polynomial (M : Gs K mg fI fJ c_PaceError c_LimitError c_InvalidRatio c_InvalidPolynomial c_TooMany) (H_is_integer : KF P w K mg base 3 "is_integer" s_is_integer ["value"] d_is_integer) {f : Addr} {fd : FuncData} (F : Fun K "is_polynomial" "is_polynomial" s_is_polynomial f fd) : FnG P w K mg base 4 f fd ["value"] (spD K mg d_is_polynomial) := by
  obtain ⟨f_is_integer, fd_is_integer, ⟨F_is_integer, C_is_integer⟩⟩ := H_is_integer
  refine fn_ok (k := 3) (m := 1) (body := b_is_polynomial) F sc_is_polynomial rfl fun cdv A outer s H E hr => ?_
  have hu : (A.deeper (envOfC "is_polynomial" (defScope s_is_polynomial) s.heap.objs.size f cdv)).units + 64 < cLine := by have := hr.rm.un; omega
  exact (dss_cons (ds_if (dt_w (dw_or (dt_not (dt_val (de_isi (de_v 0) rfl M.n_isinstance (pe_tyname (by rfl) M.n_tuple (by decide +kernel))))) (dw_or1 (dt_cmp op_gt op2_gt (de_cb call_len opn_len rfl M.n_len boot_len (da_cons (de_v 0) da_nil)) (de_bin op_addA op2_add (de_gint (by rfl) M.k_MOST_DEGREE) de_int) (nomark _))))) (dss_one (ds_ret de_bl)) dss_nil)
    (dss_cons (ds_if (dt_not (dt_val (de_cb (cr_all rfl) opn_all rfl M.n_all boot_all (da_cons (de_comp (own := [("one", 1)]) rfl sc_is_polynomial.nd (di_e (de_v 0)) (blkOk_by (by first | rfl | decide +kernel)) (fun s H C cl fp => (dg_nm (pg_name (i := 1) sc_is_polynomial.nd rfl (by first | exact Or.inl rfl | exact Or.inr rfl)))) (fun s H C cl fp => dts_nil) (fun s H C cl fp => (de_and (de_call C_is_integer (hr.mono (by decide)) takes0 (by rfl) (dae_cons (de_v 1) dae_nil)) (de_and1 (de_cmp op_le op2_le (de_cb call_abs opn_abs rfl M.n_abs boot_abs (da_cons (de_v 1) da_nil)) (de_gint (by rfl) M.k_MOST_SIZE) (nomark _)))))) da_nil)))) (dss_one (ds_ret de_bl)) dss_nil)
    (dss_one (ds_ret (de_or (de_cmp (op_eqD hu) op2_eq (de_v 0) (de_tup dae_nil) (nomark _)) (de_and1 (de_cmp (op_neD hu) op2_ne (de_ix ix_any op2_ix (de_v 0) (de_un un_neg op1_neg de_int)) de_int (nomark _))))))))
theorem kf_is_polynomial (M : Gs K mg fI fJ c_PaceError c_LimitError c_InvalidRatio c_InvalidPolynomial c_TooMany) (H_is_integer : KF P w K mg base 3 "is_integer" s_is_integer ["value"] d_is_integer) (R : RF K mg "is_polynomial" s_is_polynomial ["value"]) : KF P w K mg base 4 "is_polynomial" s_is_polynomial ["value"] d_is_polynomial := by
  obtain ⟨f, fd, F, gm, kp, bi⟩ := R
  exact ⟨f, fd, F, ⟨ok_is_polynomial M H_is_integer F, gm, kp, bi⟩⟩
noncomputable def b_want_polynomial : Gm → SR := (sSeq (sIf (tNo (tOf (eCall d_is_polynomial (aConsE (eV 0) aNilE)))) (sRaise1 "InvalidPolynomial" (aConsE (eV 0) aNilE)) sNext)
  (sRet (eV 0)))
noncomputable def d_want_polynomial : List B → FR := fnD 1 0 b_want_polynomial
theorem ok_want_polynomial (M : Gs K mg fI fJ c_PaceError c_LimitError c_InvalidRatio c_InvalidPolynomial c_TooMany) (H_is_polynomial : KF P w K mg base 4 "is_polynomial" s_is_polynomial ["value"] d_is_polynomial) {f : Addr} {fd : FuncData} (F : Fun K "want_polynomial" "want_polynomial" s_want_polynomial f fd) : FnG P w K mg base 5 f fd ["value"] (spD K mg d_want_polynomial) := by
  obtain ⟨f_is_polynomial, fd_is_polynomial, ⟨F_is_polynomial, C_is_polynomial⟩⟩ := H_is_polynomial
  refine fn_ok (k := 4) (m := 0) (body := b_want_polynomial) F sc_want_polynomial rfl fun cdv A outer s H E hr => ?_
  have hu : (A.deeper (envOfC "want_polynomial" (defScope s_want_polynomial) s.heap.objs.size f cdv)).units + 64 < cLine := by have := hr.rm.un; omega
  exact (dss_cons (ds_if (dt_not (dt_val (de_call C_is_polynomial (hr.mono (by decide)) (takes_of rfl rfl rfl rfl) (by rfl) (dae_cons (de_v 0) dae_nil)))) (dss_one (ds_raise1 (k := 1) rfl M.v_InvalidPolynomial (hr.mono (by decide)) (takes_of rfl rfl rfl rfl) (dae_cons (de_v 0) dae_nil) rfl)) dss_nil)
    (dss_one (ds_ret (de_v 0))))
theorem kf_want_polynomial (M : Gs K mg fI fJ c_PaceError c_LimitError c_InvalidRatio c_InvalidPolynomial c_TooMany) (H_is_polynomial : KF P w K mg base 4 "is_polynomial" s_is_polynomial ["value"] d_is_polynomial) (R : RF K mg "want_polynomial" s_want_polynomial ["value"]) : KF P w K mg base 5 "want_polynomial" s_want_polynomial ["value"] d_want_polynomial := by
  obtain ⟨f, fd, F, gm, kp, bi⟩ := R
  exact ⟨f, fd, F, ⟨ok_want_polynomial M H_is_polynomial F, gm, kp, bi⟩⟩
noncomputable def b_poly_plus : Gm → SR := (sRet (eCall d_added (aConsE (eCall d_want_polynomial (aConsE (eV 0) aNilE)) (aConsE (eCall d_want_polynomial (aConsE (eV 1) aNilE)) aNilE))))
noncomputable def d_poly_plus : List B → FR := fnD 2 0 b_poly_plus
theorem ok_poly_plus (M : Gs K mg fI fJ c_PaceError c_LimitError c_InvalidRatio c_InvalidPolynomial c_TooMany) (H_added : KF P w K mg base 4 "added" s_added ["p", "q"] d_added) (H_want_polynomial : KF P w K mg base 5 "want_polynomial" s_want_polynomial ["value"] d_want_polynomial) {f : Addr} {fd : FuncData} (F : Fun K "poly_plus" "poly_plus" s_poly_plus f fd) : FnG P w K mg base 6 f fd ["polynomial", "other"] (spD K mg d_poly_plus) := by
  obtain ⟨f_added, fd_added, ⟨F_added, C_added⟩⟩ := H_added
  obtain ⟨f_want_polynomial, fd_want_polynomial, ⟨F_want_polynomial, C_want_polynomial⟩⟩ := H_want_polynomial
  refine fn_ok (k := 5) (m := 0) (body := b_poly_plus) F sc_poly_plus rfl fun cdv A outer s H E hr => ?_
  have hu : (A.deeper (envOfC "poly_plus" (defScope s_poly_plus) s.heap.objs.size f cdv)).units + 64 < cLine := by have := hr.rm.un; omega
  exact (dss_one (ds_ret (de_call C_added (hr.mono (by decide)) (takes_of rfl rfl rfl rfl) (by rfl) (dae_cons (de_call C_want_polynomial (hr.mono (by decide)) (takes_of rfl rfl rfl rfl) (by rfl) (dae_cons (de_v 0) dae_nil)) (dae_cons (de_call C_want_polynomial (hr.mono (by decide)) (takes_of rfl rfl rfl rfl) (by rfl) (dae_cons (de_v 1) dae_nil)) dae_nil)))))
theorem kf_poly_plus (M : Gs K mg fI fJ c_PaceError c_LimitError c_InvalidRatio c_InvalidPolynomial c_TooMany) (H_added : KF P w K mg base 4 "added" s_added ["p", "q"] d_added) (H_want_polynomial : KF P w K mg base 5 "want_polynomial" s_want_polynomial ["value"] d_want_polynomial) (R : RF K mg "poly_plus" s_poly_plus ["polynomial", "other"]) : KF P w K mg base 6 "poly_plus" s_poly_plus ["polynomial", "other"] d_poly_plus := by
  obtain ⟨f, fd, F, gm, kp, bi⟩ := R
  exact ⟨f, fd, F, ⟨ok_poly_plus M H_added H_want_polynomial F, gm, kp, bi⟩⟩
noncomputable def b_scaled : Gm → SR := (sRet (eCall d_trimmed (aConsE (eComp [2] (itE (eV 0)) (.nm 2) tYs (eOp2 fMulA (eV 1) (eV 2))) aNilE)))
noncomputable def d_scaled : List B → FR := fnD 2 1 b_scaled
theorem ok_scaled (M : Gs K mg fI fJ c_PaceError c_LimitError c_InvalidRatio c_InvalidPolynomial c_TooMany) (H_trimmed : KF P w K mg base 3 "trimmed" s_trimmed ["row"] d_trimmed) {f : Addr} {fd : FuncData} (F : Fun K "scaled" "scaled" s_scaled f fd) : FnG P w K mg base 4 f fd ["p", "n"] (spD K mg d_scaled) := by
  obtain ⟨f_trimmed, fd_trimmed, ⟨F_trimmed, C_trimmed⟩⟩ := H_trimmed
  refine fn_ok (k := 3) (m := 1) (body := b_scaled) F sc_scaled rfl fun cdv A outer s H E hr => ?_
  have hu : (A.deeper (envOfC "scaled" (defScope s_scaled) s.heap.objs.size f cdv)).units + 64 < cLine := by have := hr.rm.un; omega
  exact (dss_one (ds_ret (de_call C_trimmed (hr.mono (by decide)) (takes_of rfl rfl rfl rfl) (by rfl) (dae_cons (de_comp (own := [("one", 2)]) rfl sc_scaled.nd (di_e (de_v 0)) (blkOk_by (by first | rfl | decide +kernel)) (fun s H C cl fp => (dg_nm (pg_name (i := 2) sc_scaled.nd rfl (by first | exact Or.inl rfl | exact Or.inr rfl)))) (fun s H C cl fp => dts_nil) (fun s H C cl fp => (de_bin op_mulA op2_mulA (de_v 1) (de_v 2)))) dae_nil))))
theorem kf_scaled (M : Gs K mg fI fJ c_PaceError c_LimitError c_InvalidRatio c_InvalidPolynomial c_TooMany) (H_trimmed : KF P w K mg base 3 "trimmed" s_trimmed ["row"] d_trimmed) (R : RF K mg "scaled" s_scaled ["p", "n"]) : KF P w K mg base 4 "scaled" s_scaled ["p", "n"] d_scaled := by
  obtain ⟨f, fd, F, gm, kp, bi⟩ := R
  exact ⟨f, fd, F, ⟨ok_scaled M H_trimmed F, gm, kp, bi⟩⟩
noncomputable def b_subtracted : Gm → SR := (sRet (eCall d_added (aConsE (eV 0) (aConsE (eCall d_scaled (aConsE (eV 1) (aConsE (eOp1 fNeg (eC (.int 1))) aNilE))) aNilE))))
noncomputable def d_subtracted : List B → FR := fnD 2 0 b_subtracted
theorem ok_subtracted (M : Gs K mg fI fJ c_PaceError c_LimitError c_InvalidRatio c_InvalidPolynomial c_TooMany) (H_added : KF P w K mg base 4 "added" s_added ["p", "q"] d_added) (H_scaled : KF P w K mg base 4 "scaled" s_scaled ["p", "n"] d_scaled) {f : Addr} {fd : FuncData} (F : Fun K "subtracted" "subtracted" s_subtracted f fd) : FnG P w K mg base 5 f fd ["p", "q"] (spD K mg d_subtracted) := by
  obtain ⟨f_added, fd_added, ⟨F_added, C_added⟩⟩ := H_added
  obtain ⟨f_scaled, fd_scaled, ⟨F_scaled, C_scaled⟩⟩ := H_scaled
  refine fn_ok (k := 4) (m := 0) (body := b_subtracted) F sc_subtracted rfl fun cdv A outer s H E hr => ?_
  have hu : (A.deeper (envOfC "subtracted" (defScope s_subtracted) s.heap.objs.size f cdv)).units + 64 < cLine := by have := hr.rm.un; omega
  exact (dss_one (ds_ret (de_call C_added (hr.mono (by decide)) (takes_of rfl rfl rfl rfl) (by rfl) (dae_cons (de_v 0) (dae_cons (de_call C_scaled (hr.mono (by decide)) (takes_of rfl rfl rfl rfl) (by rfl) (dae_cons (de_v 1) (dae_cons (de_un un_neg op1_neg de_int) dae_nil))) dae_nil)))))
theorem kf_subtracted (M : Gs K mg fI fJ c_PaceError c_LimitError c_InvalidRatio c_InvalidPolynomial c_TooMany) (H_added : KF P w K mg base 4 "added" s_added ["p", "q"] d_added) (H_scaled : KF P w K mg base 4 "scaled" s_scaled ["p", "n"] d_scaled) (R : RF K mg "subtracted" s_subtracted ["p", "q"]) : KF P w K mg base 5 "subtracted" s_subtracted ["p", "q"] d_subtracted := by
  obtain ⟨f, fd, F, gm, kp, bi⟩ := R
  exact ⟨f, fd, F, ⟨ok_subtracted M H_added H_scaled F, gm, kp, bi⟩⟩
noncomputable def b_poly_minus : Gm → SR := (sRet (eCall d_subtracted (aConsE (eCall d_want_polynomial (aConsE (eV 0) aNilE)) (aConsE (eCall d_want_polynomial (aConsE (eV 1) aNilE)) aNilE))))
noncomputable def d_poly_minus : List B → FR := fnD 2 0 b_poly_minus
theorem ok_poly_minus (M : Gs K mg fI fJ c_PaceError c_LimitError c_InvalidRatio c_InvalidPolynomial c_TooMany) (H_subtracted : KF P w K mg base 5 "subtracted" s_subtracted ["p", "q"] d_subtracted) (H_want_polynomial : KF P w K mg base 5 "want_polynomial" s_want_polynomial ["value"] d_want_polynomial) {f : Addr} {fd : FuncData} (F : Fun K "poly_minus" "poly_minus" s_poly_minus f fd) : FnG P w K mg base 6 f fd ["polynomial", "other"] (spD K mg d_poly_minus) := by
  obtain ⟨f_subtracted, fd_subtracted, ⟨F_subtracted, C_subtracted⟩⟩ := H_subtracted
  obtain ⟨f_want_polynomial, fd_want_polynomial, ⟨F_want_polynomial, C_want_polynomial⟩⟩ := H_want_polynomial
  refine fn_ok (k := 5) (m := 0) (body := b_poly_minus) F sc_poly_minus rfl fun cdv A outer s H E hr => ?_
  have hu : (A.deeper (envOfC "poly_minus" (defScope s_poly_minus) s.heap.objs.size f cdv)).units + 64 < cLine := by have := hr.rm.un; omega
  exact (dss_one (ds_ret (de_call C_subtracted (hr.mono (by decide)) (takes_of rfl rfl rfl rfl) (by rfl) (dae_cons (de_call C_want_polynomial (hr.mono (by decide)) (takes_of rfl rfl rfl rfl) (by rfl) (dae_cons (de_v 0) dae_nil)) (dae_cons (de_call C_want_polynomial (hr.mono (by decide)) (takes_of rfl rfl rfl rfl) (by rfl) (dae_cons (de_v 1) dae_nil)) dae_nil)))))
theorem kf_poly_minus (M : Gs K mg fI fJ c_PaceError c_LimitError c_InvalidRatio c_InvalidPolynomial c_TooMany) (H_subtracted : KF P w K mg base 5 "subtracted" s_subtracted ["p", "q"] d_subtracted) (H_want_polynomial : KF P w K mg base 5 "want_polynomial" s_want_polynomial ["value"] d_want_polynomial) (R : RF K mg "poly_minus" s_poly_minus ["polynomial", "other"]) : KF P w K mg base 6 "poly_minus" s_poly_minus ["polynomial", "other"] d_poly_minus := by
  obtain ⟨f, fd, F, gm, kp, bi⟩ := R
  exact ⟨f, fd, F, ⟨ok_poly_minus M H_subtracted H_want_polynomial F, gm, kp, bi⟩⟩
noncomputable def b__law_product : Gm → SR := (sSeq (sSet 2 (eRep (eLst (aConsE (eC (.int 0)) aNilE)) (eOp2 fAdd (eOpN fLen (aCons (eV 0) aNil)) (eOpN fLen (aCons (eV 1) aNil)))))
  (sSeq (sFor (itf fEnum (aConsE (eV 0) aNilE)) (tgN (.tp [(.nm 3), (.nm 4)]))
  (sFor (itf fEnum (aConsE (eV 1) aNilE)) (tgN (.tp [(.nm 5), (.nm 6)]))
  (sAugI 2 (fun i j => i + j) (eOp2 fAdd (eV 3) (eV 5)) (eOp2 fMulA (eV 4) (eV 6)))))
  (sRet (eCall d__law_cut (aConsE (eV 2) aNilE)))))
noncomputable def d__law_product : List B → FR := fnD 2 5 b__law_product
theorem ok__law_product (M : Gs K mg fI fJ c_PaceError c_LimitError c_InvalidRatio c_InvalidPolynomial c_TooMany) (H__law_cut : KF P w K mg base 3 "_law_cut" s__law_cut ["row"] d__law_cut) {f : Addr} {fd : FuncData} (F : Fun K "_law_product" "_law_product" s__law_product f fd) : FnG P w K mg base 4 f fd ["one", "other"] (spD K mg d__law_product) := by
  obtain ⟨f__law_cut, fd__law_cut, ⟨F__law_cut, C__law_cut⟩⟩ := H__law_cut
  refine fn_ok (k := 3) (m := 5) (body := b__law_product) F sc__law_product rfl fun cdv A outer s H E hr => ?_
  have hu : (A.deeper (envOfC "_law_product" (defScope s__law_product) s.heap.objs.size f cdv)).units + 64 < cLine := by have := hr.rm.un; omega
  exact (dss_cons (ds_set (i := 2) sc__law_product.nd rfl (by first | exact Or.inl rfl | exact Or.inr rfl) (de_rep (de_lst (dae_cons de_int dae_nil)) (de_bin op_addA op2_add (de_cb call_len opn_len rfl M.n_len boot_len (da_cons (de_v 0) da_nil)) (de_cb call_len opn_len rfl M.n_len boot_len (da_cons (de_v 1) da_nil)))))
    (dss_cons (ds_for (passes_of rfl) rfl (di_enum (dae_cons (de_v 0) dae_nil) (by rfl) M.n_enumerate) (dgt_n (dg_tup (n := 2) rfl (dgs_cons (dg_nm (pg_name (i := 3) sc__law_product.nd rfl (by first | exact Or.inl rfl | exact Or.inr rfl))) (dgs_cons (dg_nm (pg_name (i := 4) sc__law_product.nd rfl (by first | exact Or.inl rfl | exact Or.inr rfl))) dgs_nil (fun h1 h2 => pgs_cons h1 h2)) (fun h1 h2 => pgs_cons h1 h2)) rfl (fun h => pg_tup rfl h)))
    (dss_one (ds_for (passes_of rfl) rfl (di_enum (dae_cons (de_v 1) dae_nil) (by rfl) M.n_enumerate) (dgt_n (dg_tup (n := 2) rfl (dgs_cons (dg_nm (pg_name (i := 5) sc__law_product.nd rfl (by first | exact Or.inl rfl | exact Or.inr rfl))) (dgs_cons (dg_nm (pg_name (i := 6) sc__law_product.nd rfl (by first | exact Or.inl rfl | exact Or.inr rfl))) dgs_nil (fun h1 h2 => pgs_cons h1 h2)) (fun h1 h2 => pgs_cons h1 h2)) rfl (fun h => pg_tup rfl h)))
    (dss_one (ds_augI (i := 2) ip_add (pv 2) (de_bin op_addA op2_add (de_v 3) (de_v 5)) (de_bin op_mulA op2_mulA (de_v 4) (de_v 6)))))))
    (dss_one (ds_ret (de_call C__law_cut (hr.mono (by decide)) (takes_of rfl rfl rfl rfl) (by rfl) (dae_cons (de_v 2) dae_nil))))))
theorem kf__law_product (M : Gs K mg fI fJ c_PaceError c_LimitError c_InvalidRatio c_InvalidPolynomial c_TooMany) (H__law_cut : KF P w K mg base 3 "_law_cut" s__law_cut ["row"] d__law_cut) (R : RF K mg "_law_product" s__law_product ["one", "other"]) : KF P w K mg base 4 "_law_product" s__law_product ["one", "other"] d__law_product := by
  obtain ⟨f, fd, F, gm, kp, bi⟩ := R
  exact ⟨f, fd, F, ⟨ok__law_product M H__law_cut F, gm, kp, bi⟩⟩
noncomputable def b_multiplied : Gm → SR := (sSeq (sIf (tOr' (tOf (eOp2 fEq (eV 0) (eTup aNilE))) (tOf (eOp2 fEq (eV 1) (eTup aNilE)))) (sRet (eTup aNilE)) sNext)
  (sSeq (sSet 2 (eRep (eLst (aConsE (eC (.int 0)) aNilE)) (eOp2 fSub (eOp2 fAdd (eOpN fLen (aCons (eV 0) aNil)) (eOpN fLen (aCons (eV 1) aNil))) (eC (.int 1)))))
  (sSeq (sFor (itf fEnum (aConsE (eV 0) aNilE)) (tgN (.tp [(.nm 3), (.nm 4)]))
  (sFor (itf fEnum (aConsE (eV 1) aNilE)) (tgN (.tp [(.nm 5), (.nm 6)]))
  (sAsg (tgI 2 (eOp2 fAdd (eV 3) (eV 5))) (eOp2 fAdd (eOp2 fIx (eV 2) (eOp2 fAdd (eV 3) (eV 5))) (eOp2 fMulA (eV 4) (eV 6))))))
  (sRet (eOpN fTuple (aCons (eV 2) aNil))))))
noncomputable def d_multiplied : List B → FR := fnD 2 5 b_multiplied
theorem ok_multiplied (M : Gs K mg fI fJ c_PaceError c_LimitError c_InvalidRatio c_InvalidPolynomial c_TooMany) {f : Addr} {fd : FuncData} (F : Fun K "multiplied" "multiplied" s_multiplied f fd) : FnG P w K mg base 3 f fd ["p", "q"] (spD K mg d_multiplied) := by
  refine fn_ok (k := 2) (m := 5) (body := b_multiplied) F sc_multiplied rfl fun cdv A outer s H E hr => ?_
  have hu : (A.deeper (envOfC "multiplied" (defScope s_multiplied) s.heap.objs.size f cdv)).units + 64 < cLine := by have := hr.rm.un; omega
  exact (dss_cons (ds_if (dt_w (dw_or (dt_cmp (op_eqD hu) op2_eq (de_v 0) (de_tup dae_nil) (nomark _)) (dw_or1 (dt_cmp (op_eqD hu) op2_eq (de_v 1) (de_tup dae_nil) (nomark _))))) (dss_one (ds_ret (de_tup dae_nil))) dss_nil)
    (dss_cons (ds_set (i := 2) sc_multiplied.nd rfl (by first | exact Or.inl rfl | exact Or.inr rfl) (de_rep (de_lst (dae_cons de_int dae_nil)) (de_bin op_subA op2_sub (de_bin op_addA op2_add (de_cb call_len opn_len rfl M.n_len boot_len (da_cons (de_v 0) da_nil)) (de_cb call_len opn_len rfl M.n_len boot_len (da_cons (de_v 1) da_nil))) de_int)))
    (dss_cons (ds_for (passes_of rfl) rfl (di_enum (dae_cons (de_v 0) dae_nil) (by rfl) M.n_enumerate) (dgt_n (dg_tup (n := 2) rfl (dgs_cons (dg_nm (pg_name (i := 3) sc_multiplied.nd rfl (by first | exact Or.inl rfl | exact Or.inr rfl))) (dgs_cons (dg_nm (pg_name (i := 4) sc_multiplied.nd rfl (by first | exact Or.inl rfl | exact Or.inr rfl))) dgs_nil (fun h1 h2 => pgs_cons h1 h2)) (fun h1 h2 => pgs_cons h1 h2)) rfl (fun h => pg_tup rfl h)))
    (dss_one (ds_for (passes_of rfl) rfl (di_enum (dae_cons (de_v 1) dae_nil) (by rfl) M.n_enumerate) (dgt_n (dg_tup (n := 2) rfl (dgs_cons (dg_nm (pg_name (i := 5) sc_multiplied.nd rfl (by first | exact Or.inl rfl | exact Or.inr rfl))) (dgs_cons (dg_nm (pg_name (i := 6) sc_multiplied.nd rfl (by first | exact Or.inl rfl | exact Or.inr rfl))) dgs_nil (fun h1 h2 => pgs_cons h1 h2)) (fun h1 h2 => pgs_cons h1 h2)) rfl (fun h => pg_tup rfl h)))
    (dss_one (ds_asg (de_bin op_addA op2_add (de_ix ix_any op2_ix (de_v 2) (de_bin op_addA op2_add (de_v 3) (de_v 5))) (de_bin op_mulA op2_mulA (de_v 4) (de_v 6))) (dgt_ix (i := 2) (pv 2) (de_bin op_addA op2_add (de_v 3) (de_v 5)) (fun h => pg_sub (pv 2) h set_list)))))))
    (dss_one (ds_ret (de_cty call_tuple_of opn_tuple rfl M.n_tuple boot_tuple (da_cons (de_v 2) da_nil)))))))
theorem kf_multiplied (M : Gs K mg fI fJ c_PaceError c_LimitError c_InvalidRatio c_InvalidPolynomial c_TooMany) (R : RF K mg "multiplied" s_multiplied ["p", "q"]) : KF P w K mg base 3 "multiplied" s_multiplied ["p", "q"] d_multiplied := by
  obtain ⟨f, fd, F, gm, kp, bi⟩ := R
  exact ⟨f, fd, F, ⟨ok_multiplied M F, gm, kp, bi⟩⟩
noncomputable def b_want_at_most : Gm → SR := (sIf (tOf (eOp2 fGt (eV 2) (eV 1))) (sRaise2 "TooMany" (aConsE (eV 0) (aConsE (eV 1) aNilE))) sNext)
noncomputable def d_want_at_most : List B → FR := fnD 3 0 b_want_at_most
theorem ok_want_at_most (M : Gs K mg fI fJ c_PaceError c_LimitError c_InvalidRatio c_InvalidPolynomial c_TooMany) {f : Addr} {fd : FuncData} (F : Fun K "want_at_most" "want_at_most" s_want_at_most f fd) : FnG P w K mg base 3 f fd ["what", "limit", "number"] (spD K mg d_want_at_most) := by
  refine fn_ok (k := 2) (m := 0) (body := b_want_at_most) F sc_want_at_most rfl fun cdv A outer s H E hr => ?_
  have hu : (A.deeper (envOfC "want_at_most" (defScope s_want_at_most) s.heap.objs.size f cdv)).units + 64 < cLine := by have := hr.rm.un; omega
  exact (dss_one (ds_if (dt_cmp op_gt op2_gt (de_v 2) (de_v 1) (nomark _)) (dss_one (ds_raise2 (k := 1) rfl M.v_TooMany (hr.mono (by decide)) (takes_of rfl rfl rfl rfl) (dae_cons (de_v 0) (dae_cons (de_v 1) dae_nil)) (by rfl))) dss_nil))
theorem kf_want_at_most (M : Gs K mg fI fJ c_PaceError c_LimitError c_InvalidRatio c_InvalidPolynomial c_TooMany) (R : RF K mg "want_at_most" s_want_at_most ["what", "limit", "number"]) : KF P w K mg base 3 "want_at_most" s_want_at_most ["what", "limit", "number"] d_want_at_most := by
  obtain ⟨f, fd, F, gm, kp, bi⟩ := R
  exact ⟨f, fd, F, ⟨ok_want_at_most M F, gm, kp, bi⟩⟩
noncomputable def b_poly_times : Gm → SR := (sSeq (sSet 2 (eCall d_multiplied (aConsE (eCall d_want_polynomial (aConsE (eV 0) aNilE)) (aConsE (eCall d_want_polynomial (aConsE (eV 1) aNilE)) aNilE))))
  (sSeq (sExpr (eCall d_want_at_most (aConsE (eC (.str "degree")) (aConsE (eC (.int 12)) (aConsE (eOp2 fSub (eOpN fLen (aCons (eV 2) aNil)) (eC (.int 1))) aNilE)))))
  (sRet (eV 2))))
noncomputable def d_poly_times : List B → FR := fnD 2 1 b_poly_times
theorem ok_poly_times (M : Gs K mg fI fJ c_PaceError c_LimitError c_InvalidRatio c_InvalidPolynomial c_TooMany) (H_multiplied : KF P w K mg base 3 "multiplied" s_multiplied ["p", "q"] d_multiplied) (H_want_polynomial : KF P w K mg base 5 "want_polynomial" s_want_polynomial ["value"] d_want_polynomial) (H_want_at_most : KF P w K mg base 3 "want_at_most" s_want_at_most ["what", "limit", "number"] d_want_at_most) {f : Addr} {fd : FuncData} (F : Fun K "poly_times" "poly_times" s_poly_times f fd) : FnG P w K mg base 6 f fd ["polynomial", "other"] (spD K mg d_poly_times) := by
  obtain ⟨f_multiplied, fd_multiplied, ⟨F_multiplied, C_multiplied⟩⟩ := H_multiplied
  obtain ⟨f_want_polynomial, fd_want_polynomial, ⟨F_want_polynomial, C_want_polynomial⟩⟩ := H_want_polynomial
  obtain ⟨f_want_at_most, fd_want_at_most, ⟨F_want_at_most, C_want_at_most⟩⟩ := H_want_at_most
  refine fn_ok (k := 5) (m := 1) (body := b_poly_times) F sc_poly_times rfl fun cdv A outer s H E hr => ?_
  have hu : (A.deeper (envOfC "poly_times" (defScope s_poly_times) s.heap.objs.size f cdv)).units + 64 < cLine := by have := hr.rm.un; omega
  exact (dss_cons (ds_set (i := 2) sc_poly_times.nd rfl (by first | exact Or.inl rfl | exact Or.inr rfl) (de_call C_multiplied (hr.mono (by decide)) (takes_of rfl rfl rfl rfl) (by rfl) (dae_cons (de_call C_want_polynomial (hr.mono (by decide)) (takes_of rfl rfl rfl rfl) (by rfl) (dae_cons (de_v 0) dae_nil)) (dae_cons (de_call C_want_polynomial (hr.mono (by decide)) (takes_of rfl rfl rfl rfl) (by rfl) (dae_cons (de_v 1) dae_nil)) dae_nil))))
    (dss_cons (ds_expr (de_call C_want_at_most (hr.mono (by decide)) (takes_of rfl rfl rfl rfl) (by rfl) (dae_cons de_str (dae_cons (de_gint (by rfl) M.k_MOST_DEGREE) (dae_cons (de_bin op_subA op2_sub (de_cb call_len opn_len rfl M.n_len boot_len (da_cons (de_v 2) da_nil)) de_int) dae_nil)))))
    (dss_one (ds_ret (de_v 2)))))
theorem kf_poly_times (M : Gs K mg fI fJ c_PaceError c_LimitError c_InvalidRatio c_InvalidPolynomial c_TooMany) (H_multiplied : KF P w K mg base 3 "multiplied" s_multiplied ["p", "q"] d_multiplied) (H_want_polynomial : KF P w K mg base 5 "want_polynomial" s_want_polynomial ["value"] d_want_polynomial) (H_want_at_most : KF P w K mg base 3 "want_at_most" s_want_at_most ["what", "limit", "number"] d_want_at_most) (R : RF K mg "poly_times" s_poly_times ["polynomial", "other"]) : KF P w K mg base 6 "poly_times" s_poly_times ["polynomial", "other"] d_poly_times := by
  obtain ⟨f, fd, F, gm, kp, bi⟩ := R
  exact ⟨f, fd, F, ⟨ok_poly_times M H_multiplied H_want_polynomial H_want_at_most F, gm, kp, bi⟩⟩
noncomputable def b_slope_of : Gm → SR := (sRet (eOpN fTuple (aCons (eSl (eComp [1, 2] (itf fEnum (aConsE (eV 0) aNilE)) (.tp [(.nm 1), (.nm 2)]) tYs (eOp2 fMulA (eV 1) (eV 2))) (pSo (eC (.int 1))) pNo) aNil)))
noncomputable def d_slope_of : List B → FR := fnD 1 2 b_slope_of
theorem ok_slope_of (M : Gs K mg fI fJ c_PaceError c_LimitError c_InvalidRatio c_InvalidPolynomial c_TooMany) {f : Addr} {fd : FuncData} (F : Fun K "slope_of" "slope_of" s_slope_of f fd) : FnG P w K mg base 3 f fd ["p"] (spD K mg d_slope_of) := by
  refine fn_ok (k := 2) (m := 2) (body := b_slope_of) F sc_slope_of rfl fun cdv A outer s H E hr => ?_
  have hu : (A.deeper (envOfC "slope_of" (defScope s_slope_of) s.heap.objs.size f cdv)).units + 64 < cLine := by have := hr.rm.un; omega
  exact (dss_one (ds_ret (de_cty call_tuple_of opn_tuple rfl M.n_tuple boot_tuple (da_cons (de_sl (de_comp (own := [("at", 1), ("one", 2)]) rfl sc_slope_of.nd (di_enum (dae_cons (de_v 0) dae_nil) (by rfl) M.n_enumerate) (blkOk_by (by first | rfl | decide +kernel)) (fun s H C cl fp => (dg_tup (n := 2) rfl (dgs_cons (dg_nm (pg_name (i := 1) sc_slope_of.nd rfl (by first | exact Or.inl rfl | exact Or.inr rfl))) (dgs_cons (dg_nm (pg_name (i := 2) sc_slope_of.nd rfl (by first | exact Or.inl rfl | exact Or.inr rfl))) dgs_nil (fun h1 h2 => pgs_cons h1 h2)) (fun h1 h2 => pgs_cons h1 h2)) rfl (fun h => pg_tup rfl h))) (fun s H C cl fp => dts_nil) (fun s H C cl fp => (de_bin op_mulA op2_mulA (de_v 1) (de_v 2)))) (do_some de_int) do_none) da_nil))))
theorem kf_slope_of (M : Gs K mg fI fJ c_PaceError c_LimitError c_InvalidRatio c_InvalidPolynomial c_TooMany) (R : RF K mg "slope_of" s_slope_of ["p"]) : KF P w K mg base 3 "slope_of" s_slope_of ["p"] d_slope_of := by
  obtain ⟨f, fd, F, gm, kp, bi⟩ := R
  exact ⟨f, fd, F, ⟨ok_slope_of M F, gm, kp, bi⟩⟩
noncomputable def b_poly_slope : Gm → SR := (sRet (eCall d_slope_of (aConsE (eCall d_want_polynomial (aConsE (eV 0) aNilE)) aNilE)))
noncomputable def d_poly_slope : List B → FR := fnD 1 0 b_poly_slope
theorem ok_poly_slope (M : Gs K mg fI fJ c_PaceError c_LimitError c_InvalidRatio c_InvalidPolynomial c_TooMany) (H_slope_of : KF P w K mg base 3 "slope_of" s_slope_of ["p"] d_slope_of) (H_want_polynomial : KF P w K mg base 5 "want_polynomial" s_want_polynomial ["value"] d_want_polynomial) {f : Addr} {fd : FuncData} (F : Fun K "poly_slope" "poly_slope" s_poly_slope f fd) : FnG P w K mg base 6 f fd ["polynomial"] (spD K mg d_poly_slope) := by
  obtain ⟨f_slope_of, fd_slope_of, ⟨F_slope_of, C_slope_of⟩⟩ := H_slope_of
  obtain ⟨f_want_polynomial, fd_want_polynomial, ⟨F_want_polynomial, C_want_polynomial⟩⟩ := H_want_polynomial
  refine fn_ok (k := 5) (m := 0) (body := b_poly_slope) F sc_poly_slope rfl fun cdv A outer s H E hr => ?_
  have hu : (A.deeper (envOfC "poly_slope" (defScope s_poly_slope) s.heap.objs.size f cdv)).units + 64 < cLine := by have := hr.rm.un; omega
  exact (dss_one (ds_ret (de_call C_slope_of (hr.mono (by decide)) (takes_of rfl rfl rfl rfl) (by rfl) (dae_cons (de_call C_want_polynomial (hr.mono (by decide)) (takes_of rfl rfl rfl rfl) (by rfl) (dae_cons (de_v 0) dae_nil)) dae_nil))))
theorem kf_poly_slope (M : Gs K mg fI fJ c_PaceError c_LimitError c_InvalidRatio c_InvalidPolynomial c_TooMany) (H_slope_of : KF P w K mg base 3 "slope_of" s_slope_of ["p"] d_slope_of) (H_want_polynomial : KF P w K mg base 5 "want_polynomial" s_want_polynomial ["value"] d_want_polynomial) (R : RF K mg "poly_slope" s_poly_slope ["polynomial"]) : KF P w K mg base 6 "poly_slope" s_poly_slope ["polynomial"] d_poly_slope := by
  obtain ⟨f, fd, F, gm, kp, bi⟩ := R
  exact ⟨f, fd, F, ⟨ok_poly_slope M H_slope_of H_want_polynomial F, gm, kp, bi⟩⟩
noncomputable def b_is_ratio : Gm → SR := (sSeq (sIf (tOr' (tNo (tOf (eIsi "tuple" (eV 0)))) (tOr' (tOf (eOp2 fNe (eOpN fLen (aCons (eV 0) aNil)) (eC (.int 2)))) (tOr' (tNo (tOf (eCall d_is_integer (aConsE (eOp2 fIx (eV 0) (eC (.int 0))) aNilE)))) (tNo (tOf (eCall d_is_integer (aConsE (eOp2 fIx (eV 0) (eC (.int 1))) aNilE))))))) (sRet (eC (.bool false))) sNext)
  (sRet (eAnd (eOp2 fGe (eOp2 fIx (eV 0) (eC (.int 1))) (eC (.int 1))) (eOp2 fEq (eOpN fGcd (aCons (eOp2 fIx (eV 0) (eC (.int 0))) (aCons (eOp2 fIx (eV 0) (eC (.int 1))) aNil))) (eC (.int 1))))))
noncomputable def d_is_ratio : List B → FR := fnD 1 0 b_is_ratio
theorem ok_is_ratio (M : Gs K mg fI fJ c_PaceError c_LimitError c_InvalidRatio c_InvalidPolynomial c_TooMany) (H_is_integer : KF P w K mg base 3 "is_integer" s_is_integer ["value"] d_is_integer) {f : Addr} {fd : FuncData} (F : Fun K "is_ratio" "is_ratio" s_is_ratio f fd) : FnG P w K mg base 4 f fd ["value"] (spD K mg d_is_ratio) := by
  obtain ⟨f_is_integer, fd_is_integer, ⟨F_is_integer, C_is_integer⟩⟩ := H_is_integer
  refine fn_ok (k := 3) (m := 0) (body := b_is_ratio) F sc_is_ratio rfl fun cdv A outer s H E hr => ?_
  have hu : (A.deeper (envOfC "is_ratio" (defScope s_is_ratio) s.heap.objs.size f cdv)).units + 64 < cLine := by have := hr.rm.un; omega
  exact (dss_cons (ds_if (dt_w (dw_or (dt_not (dt_val (de_isi (de_v 0) rfl M.n_isinstance (pe_tyname (by rfl) M.n_tuple (by decide +kernel))))) (dw_or (dt_cmp (op_neD hu) op2_ne (de_cb call_len opn_len rfl M.n_len boot_len (da_cons (de_v 0) da_nil)) de_int (nomark _)) (dw_or (dt_not (dt_val (de_call C_is_integer (hr.mono (by decide)) (takes_of rfl rfl rfl rfl) (by rfl) (dae_cons (de_ix ix_any op2_ix (de_v 0) de_int) dae_nil)))) (dw_or1 (dt_not (dt_val (de_call C_is_integer (hr.mono (by decide)) (takes_of rfl rfl rfl rfl) (by rfl) (dae_cons (de_ix ix_any op2_ix (de_v 0) de_int) dae_nil))))))))) (dss_one (ds_ret de_bl)) dss_nil)
    (dss_one (ds_ret (de_and (de_cmp op_ge op2_ge (de_ix ix_any op2_ix (de_v 0) de_int) de_int (nomark _)) (de_and1 (de_cmp (op_eqD hu) op2_eq (de_cfn cr_gcd opn_gcd rfl M.m_gcd (da_cons (de_ix ix_any op2_ix (de_v 0) de_int) (da_cons (de_ix ix_any op2_ix (de_v 0) de_int) da_nil))) de_int (nomark _)))))))
theorem kf_is_ratio (M : Gs K mg fI fJ c_PaceError c_LimitError c_InvalidRatio c_InvalidPolynomial c_TooMany) (H_is_integer : KF P w K mg base 3 "is_integer" s_is_integer ["value"] d_is_integer) (R : RF K mg "is_ratio" s_is_ratio ["value"]) : KF P w K mg base 4 "is_ratio" s_is_ratio ["value"] d_is_ratio := by
  obtain ⟨f, fd, F, gm, kp, bi⟩ := R
  exact ⟨f, fd, F, ⟨ok_is_ratio M H_is_integer F, gm, kp, bi⟩⟩
noncomputable def b_want_ratio : Gm → SR := (sSeq (sIf (tNo (tOf (eCall d_is_ratio (aConsE (eV 0) aNilE)))) (sRaise1 "InvalidRatio" (aConsE (eV 0) aNilE)) sNext)
  (sRet (eV 0)))
noncomputable def d_want_ratio : List B → FR := fnD 1 0 b_want_ratio
theorem ok_want_ratio (M : Gs K mg fI fJ c_PaceError c_LimitError c_InvalidRatio c_InvalidPolynomial c_TooMany) (H_is_ratio : KF P w K mg base 4 "is_ratio" s_is_ratio ["value"] d_is_ratio) {f : Addr} {fd : FuncData} (F : Fun K "want_ratio" "want_ratio" s_want_ratio f fd) : FnG P w K mg base 5 f fd ["value"] (spD K mg d_want_ratio) := by
  obtain ⟨f_is_ratio, fd_is_ratio, ⟨F_is_ratio, C_is_ratio⟩⟩ := H_is_ratio
  refine fn_ok (k := 4) (m := 0) (body := b_want_ratio) F sc_want_ratio rfl fun cdv A outer s H E hr => ?_
  have hu : (A.deeper (envOfC "want_ratio" (defScope s_want_ratio) s.heap.objs.size f cdv)).units + 64 < cLine := by have := hr.rm.un; omega
  exact (dss_cons (ds_if (dt_not (dt_val (de_call C_is_ratio (hr.mono (by decide)) (takes_of rfl rfl rfl rfl) (by rfl) (dae_cons (de_v 0) dae_nil)))) (dss_one (ds_raise1 (k := 1) rfl M.v_InvalidRatio (hr.mono (by decide)) (takes_of rfl rfl rfl rfl) (dae_cons (de_v 0) dae_nil) rfl)) dss_nil)
    (dss_one (ds_ret (de_v 0))))
theorem kf_want_ratio (M : Gs K mg fI fJ c_PaceError c_LimitError c_InvalidRatio c_InvalidPolynomial c_TooMany) (H_is_ratio : KF P w K mg base 4 "is_ratio" s_is_ratio ["value"] d_is_ratio) (R : RF K mg "want_ratio" s_want_ratio ["value"]) : KF P w K mg base 5 "want_ratio" s_want_ratio ["value"] d_want_ratio := by
  obtain ⟨f, fd, F, gm, kp, bi⟩ := R
  exact ⟨f, fd, F, ⟨ok_want_ratio M H_is_ratio F, gm, kp, bi⟩⟩
noncomputable def b_bare_ratio : Gm → SR := (sSeq (sSet 2 (eOpN fGcd (aCons (eV 0) (aCons (eV 1) aNil))))
  (sSeq (sIf (tOf (eOp2 fLt (eV 1) (eC (.int 0)))) (sSet 2 (eOp1 fNeg (eV 2))) sNext)
  (sRet (eTup (aConsE (eOp2 fDiv (eV 0) (eV 2)) (aConsE (eOp2 fDiv (eV 1) (eV 2)) aNilE))))))
noncomputable def d_bare_ratio : List B → FR := fnD 2 1 b_bare_ratio
theorem ok_bare_ratio (M : Gs K mg fI fJ c_PaceError c_LimitError c_InvalidRatio c_InvalidPolynomial c_TooMany) {f : Addr} {fd : FuncData} (F : Fun K "bare_ratio" "bare_ratio" s_bare_ratio f fd) : FnG P w K mg base 3 f fd ["number", "under"] (spD K mg d_bare_ratio) := by
  refine fn_ok (k := 2) (m := 1) (body := b_bare_ratio) F sc_bare_ratio rfl fun cdv A outer s H E hr => ?_
  have hu : (A.deeper (envOfC "bare_ratio" (defScope s_bare_ratio) s.heap.objs.size f cdv)).units + 64 < cLine := by have := hr.rm.un; omega
  exact (dss_cons (ds_set (i := 2) sc_bare_ratio.nd rfl (by first | exact Or.inl rfl | exact Or.inr rfl) (de_cfn cr_gcd opn_gcd rfl M.m_gcd (da_cons (de_v 0) (da_cons (de_v 1) da_nil))))
    (dss_cons (ds_if (dt_cmp op_lt op2_lt (de_v 1) de_int (nomark _)) (dss_one (ds_set (i := 2) sc_bare_ratio.nd rfl (by first | exact Or.inl rfl | exact Or.inr rfl) (de_un un_neg op1_neg (de_v 2)))) dss_nil)
    (dss_one (ds_ret (de_tup (dae_cons (de_bin op_divG op2_div (de_v 0) (de_v 2)) (dae_cons (de_bin op_divG op2_div (de_v 1) (de_v 2)) dae_nil)))))))
theorem kf_bare_ratio (M : Gs K mg fI fJ c_PaceError c_LimitError c_InvalidRatio c_InvalidPolynomial c_TooMany) (R : RF K mg "bare_ratio" s_bare_ratio ["number", "under"]) : KF P w K mg base 3 "bare_ratio" s_bare_ratio ["number", "under"] d_bare_ratio := by
  obtain ⟨f, fd, F, gm, kp, bi⟩ := R
  exact ⟨f, fd, F, ⟨ok_bare_ratio M F, gm, kp, bi⟩⟩
noncomputable def b_worth_of : Gm → SR := (sSeq (sPar [3, 4] (aCons (eC (.int 0)) (aCons (eC (.int 1)) aNil)))
  (sSeq (sFor (itf fRev (aConsE (eV 0) aNilE)) (tgN (.nm 5))
  (sSeq (sSet 3 (eOp2 fAdd (eOp2 fMulA (eV 3) (eV 1)) (eOp2 fMulA (eV 5) (eV 4))))
  (sSet 4 (eOp2 fMulA (eV 4) (eV 2)))))
  (sRet (eV 3))))
noncomputable def d_worth_of : List B → FR := fnD 3 3 b_worth_of
theorem ok_worth_of (M : Gs K mg fI fJ c_PaceError c_LimitError c_InvalidRatio c_InvalidPolynomial c_TooMany) {f : Addr} {fd : FuncData} (F : Fun K "worth_of" "worth_of" s_worth_of f fd) : FnG P w K mg base 3 f fd ["p", "a", "b"] (spD K mg d_worth_of) := by
  refine fn_ok (k := 2) (m := 3) (body := b_worth_of) F sc_worth_of rfl fun cdv A outer s H E hr => ?_
  have hu : (A.deeper (envOfC "worth_of" (defScope s_worth_of) s.heap.objs.size f cdv)).units + 64 < cLine := by have := hr.rm.un; omega
  exact (dss_cons (by first | exact (ds_par2 (i := 3) (j := 4) rfl sc_worth_of.nd rfl rfl (by decide) rfl rfl (da_cons de_int (da_cons de_int da_nil)) rfl) | exact (ds_parT (n := 2) (da_cons de_int (da_cons de_int da_nil)) (pgs_names_cons (pg_name (i := 3) sc_worth_of.nd rfl (by first | exact Or.inl rfl | exact Or.inr rfl)) (pgs_names_cons (pg_name (i := 4) sc_worth_of.nd rfl (by first | exact Or.inl rfl | exact Or.inr rfl)) pgs_names_nil (by decide) (fun h1 h2 => pgs_cons h1 h2)) (by decide) (fun h1 h2 => pgs_cons h1 h2)) (fun h => pg_tup rfl h) rfl (by decide)))
    (dss_cons (ds_for (passes_of rfl) rfl (di_rev (de_v 0) (fun h => RT.pi_revA (by rfl) M.n_reversed h)) (dgt_n (dg_nm (pg_name (i := 5) sc_worth_of.nd rfl (by first | exact Or.inl rfl | exact Or.inr rfl))))
    (dss_cons (ds_set (i := 3) sc_worth_of.nd rfl (by first | exact Or.inl rfl | exact Or.inr rfl) (de_bin op_addA op2_add (de_bin op_mulA op2_mulA (de_v 3) (de_v 1)) (de_bin op_mulA op2_mulA (de_v 5) (de_v 4))))
    (dss_one (ds_set (i := 4) sc_worth_of.nd rfl (by first | exact Or.inl rfl | exact Or.inr rfl) (de_bin op_mulA op2_mulA (de_v 4) (de_v 2))))))
    (dss_one (ds_ret (de_v 3)))))
theorem kf_worth_of (M : Gs K mg fI fJ c_PaceError c_LimitError c_InvalidRatio c_InvalidPolynomial c_TooMany) (R : RF K mg "worth_of" s_worth_of ["p", "a", "b"]) : KF P w K mg base 3 "worth_of" s_worth_of ["p", "a", "b"] d_worth_of := by
  obtain ⟨f, fd, F, gm, kp, bi⟩ := R
  exact ⟨f, fd, F, ⟨ok_worth_of M F, gm, kp, bi⟩⟩
noncomputable def b_poly_worth : Gm → SR := (sSeq (sExpr (eCall d_want_polynomial (aConsE (eV 0) aNilE)))
  (sSeq (sAsg (tgN (.tp [(.nm 2), (.nm 3)])) (eCall d_want_ratio (aConsE (eV 1) aNilE)))
  (sSeq (sSet 4 (eC (.int 1)))
  (sSeq (sFor (itE (eSl (eV 0) (pSo (eC (.int 1))) pNo)) (tgN (.nm 5))
  (sSet 4 (eOp2 fMulA (eV 4) (eV 3))))
  (sRet (eCall d_bare_ratio (aConsE (eCall d_worth_of (aConsE (eV 0) (aConsE (eV 2) (aConsE (eV 3) aNilE)))) (aConsE (eV 4) aNilE))))))))
noncomputable def d_poly_worth : List B → FR := fnD 2 4 b_poly_worth
theorem ok_poly_worth (M : Gs K mg fI fJ c_PaceError c_LimitError c_InvalidRatio c_InvalidPolynomial c_TooMany) (H_want_polynomial : KF P w K mg base 5 "want_polynomial" s_want_polynomial ["value"] d_want_polynomial) (H_want_ratio : KF P w K mg base 5 "want_ratio" s_want_ratio ["value"] d_want_ratio) (H_bare_ratio : KF P w K mg base 3 "bare_ratio" s_bare_ratio ["number", "under"] d_bare_ratio) (H_worth_of : KF P w K mg base 3 "worth_of" s_worth_of ["p", "a", "b"] d_worth_of) {f : Addr} {fd : FuncData} (F : Fun K "poly_worth" "poly_worth" s_poly_worth f fd) : FnG P w K mg base 6 f fd ["polynomial", "ratio"] (spD K mg d_poly_worth) := by
  obtain ⟨f_want_polynomial, fd_want_polynomial, ⟨F_want_polynomial, C_want_polynomial⟩⟩ := H_want_polynomial
  obtain ⟨f_want_ratio, fd_want_ratio, ⟨F_want_ratio, C_want_ratio⟩⟩ := H_want_ratio
  obtain ⟨f_bare_ratio, fd_bare_ratio, ⟨F_bare_ratio, C_bare_ratio⟩⟩ := H_bare_ratio
  obtain ⟨f_worth_of, fd_worth_of, ⟨F_worth_of, C_worth_of⟩⟩ := H_worth_of
  refine fn_ok (k := 5) (m := 4) (body := b_poly_worth) F sc_poly_worth rfl fun cdv A outer s H E hr => ?_
  have hu : (A.deeper (envOfC "poly_worth" (defScope s_poly_worth) s.heap.objs.size f cdv)).units + 64 < cLine := by have := hr.rm.un; omega
  exact (dss_cons (ds_expr (de_call C_want_polynomial (hr.mono (by decide)) (takes_of rfl rfl rfl rfl) (by rfl) (dae_cons (de_v 0) dae_nil)))
    (dss_cons (ds_asg (de_call C_want_ratio (hr.mono (by decide)) (takes_of rfl rfl rfl rfl) (by rfl) (dae_cons (de_v 1) dae_nil)) (dgt_n (dg_tup (n := 2) rfl (dgs_cons (dg_nm (pg_name (i := 2) sc_poly_worth.nd rfl (by first | exact Or.inl rfl | exact Or.inr rfl))) (dgs_cons (dg_nm (pg_name (i := 3) sc_poly_worth.nd rfl (by first | exact Or.inl rfl | exact Or.inr rfl))) dgs_nil (fun h1 h2 => pgs_cons h1 h2)) (fun h1 h2 => pgs_cons h1 h2)) rfl (fun h => pg_tup rfl h))))
    (dss_cons (ds_set (i := 4) sc_poly_worth.nd rfl (by first | exact Or.inl rfl | exact Or.inr rfl) de_int)
    (dss_cons (ds_for (passes_of rfl) rfl (di_e (de_sl (de_v 0) (do_some de_int) do_none)) (dgt_n (dg_nm (pg_name (i := 5) sc_poly_worth.nd rfl (by first | exact Or.inl rfl | exact Or.inr rfl))))
    (dss_one (ds_set (i := 4) sc_poly_worth.nd rfl (by first | exact Or.inl rfl | exact Or.inr rfl) (de_bin op_mulA op2_mulA (de_v 4) (de_v 3)))))
    (dss_one (ds_ret (de_call C_bare_ratio (hr.mono (by decide)) (takes_of rfl rfl rfl rfl) (by rfl) (dae_cons (de_call C_worth_of (hr.mono (by decide)) (takes_of rfl rfl rfl rfl) (by rfl) (dae_cons (de_v 0) (dae_cons (de_v 2) (dae_cons (de_v 3) dae_nil)))) (dae_cons (de_v 4) dae_nil)))))))))
theorem kf_poly_worth (M : Gs K mg fI fJ c_PaceError c_LimitError c_InvalidRatio c_InvalidPolynomial c_TooMany) (H_want_polynomial : KF P w K mg base 5 "want_polynomial" s_want_polynomial ["value"] d_want_polynomial) (H_want_ratio : KF P w K mg base 5 "want_ratio" s_want_ratio ["value"] d_want_ratio) (H_bare_ratio : KF P w K mg base 3 "bare_ratio" s_bare_ratio ["number", "under"] d_bare_ratio) (H_worth_of : KF P w K mg base 3 "worth_of" s_worth_of ["p", "a", "b"] d_worth_of) (R : RF K mg "poly_worth" s_poly_worth ["polynomial", "ratio"]) : KF P w K mg base 6 "poly_worth" s_poly_worth ["polynomial", "ratio"] d_poly_worth := by
  obtain ⟨f, fd, F, gm, kp, bi⟩ := R
  exact ⟨f, fd, F, ⟨ok_poly_worth M H_want_polynomial H_want_ratio H_bare_ratio H_worth_of F, gm, kp, bi⟩⟩
noncomputable def b__law_told : Gm → SR := (sSeq (sIf (tOf (eOp2 fEq (eV 0) (eC (.str "plus")))) (sRet (eCall d_poly_plus (aConsE (eV 1) (aConsE (eV 2) aNilE)))) sNext)
  (sSeq (sIf (tOf (eOp2 fEq (eV 0) (eC (.str "minus")))) (sRet (eCall d_poly_minus (aConsE (eV 1) (aConsE (eV 2) aNilE)))) sNext)
  (sSeq (sIf (tOf (eOp2 fEq (eV 0) (eC (.str "times")))) (sRet (eCall d_poly_times (aConsE (eV 1) (aConsE (eV 2) aNilE)))) sNext)
  (sRet (eIf (tOf (eOp2 fEq (eV 0) (eC (.str "slope")))) (eCall d_poly_slope (aConsE (eV 1) aNilE)) (eCall d_poly_worth (aConsE (eV 1) (aConsE (eV 2) aNilE))))))))
noncomputable def d__law_told : List B → FR := fnD 3 0 b__law_told
theorem ok__law_told (M : Gs K mg fI fJ c_PaceError c_LimitError c_InvalidRatio c_InvalidPolynomial c_TooMany) (H_poly_plus : KF P w K mg base 6 "poly_plus" s_poly_plus ["polynomial", "other"] d_poly_plus) (H_poly_minus : KF P w K mg base 6 "poly_minus" s_poly_minus ["polynomial", "other"] d_poly_minus) (H_poly_times : KF P w K mg base 6 "poly_times" s_poly_times ["polynomial", "other"] d_poly_times) (H_poly_slope : KF P w K mg base 6 "poly_slope" s_poly_slope ["polynomial"] d_poly_slope) (H_poly_worth : KF P w K mg base 6 "poly_worth" s_poly_worth ["polynomial", "ratio"] d_poly_worth) {f : Addr} {fd : FuncData} (F : Fun K "_law_told" "_law_told" s__law_told f fd) : FnG P w K mg base 7 f fd ["word", "one", "other"] (spD K mg d__law_told) := by
  obtain ⟨f_poly_plus, fd_poly_plus, ⟨F_poly_plus, C_poly_plus⟩⟩ := H_poly_plus
  obtain ⟨f_poly_minus, fd_poly_minus, ⟨F_poly_minus, C_poly_minus⟩⟩ := H_poly_minus
  obtain ⟨f_poly_times, fd_poly_times, ⟨F_poly_times, C_poly_times⟩⟩ := H_poly_times
  obtain ⟨f_poly_slope, fd_poly_slope, ⟨F_poly_slope, C_poly_slope⟩⟩ := H_poly_slope
  obtain ⟨f_poly_worth, fd_poly_worth, ⟨F_poly_worth, C_poly_worth⟩⟩ := H_poly_worth
  refine fn_ok (k := 6) (m := 0) (body := b__law_told) F sc__law_told rfl fun cdv A outer s H E hr => ?_
  have hu : (A.deeper (envOfC "_law_told" (defScope s__law_told) s.heap.objs.size f cdv)).units + 64 < cLine := by have := hr.rm.un; omega
  exact (dss_cons (ds_if (dt_cmp (op_eqD hu) op2_eq (de_v 0) de_str (nomark _)) (dss_one (ds_ret (de_call C_poly_plus (hr.mono (by decide)) (takes_of rfl rfl rfl rfl) (by rfl) (dae_cons (de_v 1) (dae_cons (de_v 2) dae_nil))))) dss_nil)
    (dss_cons (ds_if (dt_cmp (op_eqD hu) op2_eq (de_v 0) de_str (nomark _)) (dss_one (ds_ret (de_call C_poly_minus (hr.mono (by decide)) (takes_of rfl rfl rfl rfl) (by rfl) (dae_cons (de_v 1) (dae_cons (de_v 2) dae_nil))))) dss_nil)
    (dss_cons (ds_if (dt_cmp (op_eqD hu) op2_eq (de_v 0) de_str (nomark _)) (dss_one (ds_ret (de_call C_poly_times (hr.mono (by decide)) (takes_of rfl rfl rfl rfl) (by rfl) (dae_cons (de_v 1) (dae_cons (de_v 2) dae_nil))))) dss_nil)
    (dss_one (ds_ret (de_if (dt_cmp (op_eqD hu) op2_eq (de_v 0) de_str (nomark _)) (de_call C_poly_slope (hr.mono (by decide)) (takes_of rfl rfl rfl rfl) (by rfl) (dae_cons (de_v 1) dae_nil)) (de_call C_poly_worth (hr.mono (by decide)) (takes_of rfl rfl rfl rfl) (by rfl) (dae_cons (de_v 1) (dae_cons (de_v 2) dae_nil)))))))))
theorem kf__law_told (M : Gs K mg fI fJ c_PaceError c_LimitError c_InvalidRatio c_InvalidPolynomial c_TooMany) (H_poly_plus : KF P w K mg base 6 "poly_plus" s_poly_plus ["polynomial", "other"] d_poly_plus) (H_poly_minus : KF P w K mg base 6 "poly_minus" s_poly_minus ["polynomial", "other"] d_poly_minus) (H_poly_times : KF P w K mg base 6 "poly_times" s_poly_times ["polynomial", "other"] d_poly_times) (H_poly_slope : KF P w K mg base 6 "poly_slope" s_poly_slope ["polynomial"] d_poly_slope) (H_poly_worth : KF P w K mg base 6 "poly_worth" s_poly_worth ["polynomial", "ratio"] d_poly_worth) (R : RF K mg "_law_told" s__law_told ["word", "one", "other"]) : KF P w K mg base 7 "_law_told" s__law_told ["word", "one", "other"] d__law_told := by
  obtain ⟨f, fd, F, gm, kp, bi⟩ := R
  exact ⟨f, fd, F, ⟨ok__law_told M H_poly_plus H_poly_minus H_poly_times H_poly_slope H_poly_worth F, gm, kp, bi⟩⟩
noncomputable def b__law_raised : Gm → SR := (sSeq (sTry cNames cSub (sExpr (eCall d__law_told (aConsE (eV 0) (aConsE (eV 1) (aConsE (eV 2) aNilE))))) [⟨"InvalidPolynomial", 3, tVal "InvalidPolynomial"⟩, ⟨"InvalidRatio", 3, tVal "InvalidRatio"⟩, ⟨"TooMany", 3, tTwo⟩])
  (sRet (eLst aNilE)))
noncomputable def d__law_raised : List B → FR := fnD 3 1 b__law_raised
theorem ok__law_raised (M : Gs K mg fI fJ c_PaceError c_LimitError c_InvalidRatio c_InvalidPolynomial c_TooMany) (H__law_told : KF P w K mg base 7 "_law_told" s__law_told ["word", "one", "other"] d__law_told) {f : Addr} {fd : FuncData} (F : Fun K "_law_raised" "_law_raised" s__law_raised f fd) : FnG P w K mg base 8 f fd ["word", "one", "other"] (spD K mg d__law_raised) := by
  obtain ⟨f__law_told, fd__law_told, ⟨F__law_told, C__law_told⟩⟩ := H__law_told
  refine fn_ok (k := 7) (m := 1) (body := b__law_raised) F sc__law_raised rfl fun cdv A outer s H E hr => ?_
  have hu : (A.deeper (envOfC "_law_raised" (defScope s__law_raised) s.heap.objs.size f cdv)).units + 64 < cLine := by have := hr.rm.un; omega
  exact (dss_cons (ds_try rfl rfl sc__law_raised.nd (takes_of rfl rfl rfl rfl) (fun W pn xe tk pas => (dss_one (ds_expr (de_call C__law_told (hr.mono (by decide)) tk (by rfl) (dae_cons (de_v 0) (dae_cons (de_v 1) (dae_cons (de_v 2) dae_nil))))))) (ClD.cons rfl rfl rfl (by decide) M.g_InvalidPolynomial M.s_InvalidPolynomial (by decide) (dc_val M.ec_InvalidPolynomial M.v_InvalidPolynomial.noN M.g_PaceError M.i_InvalidPolynomial_PaceError rfl (by first | exact Or.inl rfl | exact Or.inr (by first | exact Or.inl rfl | exact Or.inr rfl) | exact Or.inr (Or.inr rfl)) hr.gd hu rfl M.n_repr rfl M.n_isinstance rfl) trivial (ClD.cons rfl rfl rfl (by decide) M.g_InvalidRatio M.s_InvalidRatio (by decide) (dc_val M.ec_InvalidRatio M.v_InvalidRatio.noN M.g_PaceError M.i_InvalidRatio_PaceError rfl (by first | exact Or.inl rfl | exact Or.inr (by first | exact Or.inl rfl | exact Or.inr rfl) | exact Or.inr (Or.inr rfl)) hr.gd hu rfl M.n_repr rfl M.n_isinstance rfl) trivial (ClD.cons rfl rfl rfl (by decide) M.g_TooMany M.s_TooMany (by decide) (dc_two M.ec_TooMany M.v_TooMany.no1 M.v_TooMany.no2 rfl (by first | exact Or.inl rfl | exact Or.inr (Or.inl rfl) | exact Or.inr (Or.inr rfl))) trivial ClD.nil))))
    (dss_one (ds_ret (de_lst dae_nil))))
theorem kf__law_raised (M : Gs K mg fI fJ c_PaceError c_LimitError c_InvalidRatio c_InvalidPolynomial c_TooMany) (H__law_told : KF P w K mg base 7 "_law_told" s__law_told ["word", "one", "other"] d__law_told) (R : RF K mg "_law_raised" s__law_raised ["word", "one", "other"]) : KF P w K mg base 8 "_law_raised" s__law_raised ["word", "one", "other"] d__law_raised := by
  obtain ⟨f, fd, F, gm, kp, bi⟩ := R
  exact ⟨f, fd, F, ⟨ok__law_raised M H__law_told F, gm, kp, bi⟩⟩
noncomputable def b__law_power : Gm → SR := (sSeq (sSet 2 (eC (.int 1)))
  (sSeq (sFor (itR (aConsE (eV 1) aNilE)) (tgN (.nm 3))
  (sSet 2 (eOp2 fMulA (eV 2) (eV 0))))
  (sRet (eV 2))))
noncomputable def d__law_power : List B → FR := fnD 2 2 b__law_power
theorem ok__law_power (M : Gs K mg fI fJ c_PaceError c_LimitError c_InvalidRatio c_InvalidPolynomial c_TooMany) {f : Addr} {fd : FuncData} (F : Fun K "_law_power" "_law_power" s__law_power f fd) : FnG P w K mg base 3 f fd ["base", "many"] (spD K mg d__law_power) := by
  refine fn_ok (k := 2) (m := 2) (body := b__law_power) F sc__law_power rfl fun cdv A outer s H E hr => ?_
  have hu : (A.deeper (envOfC "_law_power" (defScope s__law_power) s.heap.objs.size f cdv)).units + 64 < cLine := by have := hr.rm.un; omega
  exact (dss_cons (ds_set (i := 2) sc__law_power.nd rfl (by first | exact Or.inl rfl | exact Or.inr rfl) de_int)
    (dss_cons (ds_for (passes_of rfl) rfl (di_range1 (dae_cons (de_v 1) dae_nil) (fun h => pi_range1 rfl M.n_range h) len1) (dgt_n (dg_nm (pg_name (i := 3) sc__law_power.nd rfl (by first | exact Or.inl rfl | exact Or.inr rfl))))
    (dss_one (ds_set (i := 2) sc__law_power.nd rfl (by first | exact Or.inl rfl | exact Or.inr rfl) (de_bin op_mulA op2_mulA (de_v 2) (de_v 0)))))
    (dss_one (ds_ret (de_v 2)))))
theorem kf__law_power (M : Gs K mg fI fJ c_PaceError c_LimitError c_InvalidRatio c_InvalidPolynomial c_TooMany) (R : RF K mg "_law_power" s__law_power ["base", "many"]) : KF P w K mg base 3 "_law_power" s__law_power ["base", "many"] d__law_power := by
  obtain ⟨f, fd, F, gm, kp, bi⟩ := R
  exact ⟨f, fd, F, ⟨ok__law_power M F, gm, kp, bi⟩⟩
noncomputable def b__law_worth : Gm → SR := (sSeq (sIf (tOf (eOp2 fEq (eV 0) (eTup aNilE))) (sRet (eTup (aConsE (eC (.int 0)) (aConsE (eC (.int 1)) aNilE)))) sNext)
  (sSeq (sPar [3, 4] (aCons (eC (.int 0)) (aCons (eOp2 fSub (eOpN fLen (aCons (eV 0) aNil)) (eC (.int 1))) aNil)))
  (sSeq (sFor (itf fEnum (aConsE (eV 0) aNilE)) (tgN (.tp [(.nm 5), (.nm 6)]))
  (sAugN 3 (fun i j => i + j) (eOp2 fMulA (eOp2 fMulA (eV 6) (eCall d__law_power (aConsE (eV 1) (aConsE (eV 5) aNilE)))) (eCall d__law_power (aConsE (eV 2) (aConsE (eOp2 fSub (eV 4) (eV 5)) aNilE))))))
  (sSeq (sSet 7 (eCall d__law_power (aConsE (eV 2) (aConsE (eV 4) aNilE))))
  (sSeq (sPar [8, 9] (aCons (eOpN fAbs (aCons (eV 3) aNil)) (aCons (eV 7) aNil)))
  (sSeq (sWhile (tOf (eOp2 fNe (eV 8) (eC (.int 0)))) (sPar [8, 9] (aCons (eOp2 fMod (eV 9) (eV 8)) (aCons (eV 8) aNil))) 1000000000000000000000000000000000000000000000000000000000000)
  (sRet (eTup (aConsE (eOp2 fDiv (eV 3) (eV 9)) (aConsE (eOp2 fDiv (eV 7) (eV 9)) aNilE))))))))))
noncomputable def d__law_worth : List B → FR := fnD 3 7 b__law_worth
theorem ok__law_worth (M : Gs K mg fI fJ c_PaceError c_LimitError c_InvalidRatio c_InvalidPolynomial c_TooMany) (H__law_power : KF P w K mg base 3 "_law_power" s__law_power ["base", "many"] d__law_power) {f : Addr} {fd : FuncData} (F : Fun K "_law_worth" "_law_worth" s__law_worth f fd) : FnG P w K mg base 4 f fd ["row", "number", "under"] (spD K mg d__law_worth) := by
  obtain ⟨f__law_power, fd__law_power, ⟨F__law_power, C__law_power⟩⟩ := H__law_power
  refine fn_ok (k := 3) (m := 7) (body := b__law_worth) F sc__law_worth rfl fun cdv A outer s H E hr => ?_
  have hu : (A.deeper (envOfC "_law_worth" (defScope s__law_worth) s.heap.objs.size f cdv)).units + 64 < cLine := by have := hr.rm.un; omega
  exact (dss_cons (ds_if (dt_cmp (op_eqD hu) op2_eq (de_v 0) (de_tup dae_nil) (nomark _)) (dss_one (ds_ret (de_tup (dae_cons de_int (dae_cons de_int dae_nil))))) dss_nil)
    (dss_cons (by first | exact (ds_par2 (i := 3) (j := 4) rfl sc__law_worth.nd rfl rfl (by decide) rfl rfl (da_cons de_int (da_cons (de_bin op_subA op2_sub (de_cb call_len opn_len rfl M.n_len boot_len (da_cons (de_v 0) da_nil)) de_int) da_nil)) rfl) | exact (ds_parT (n := 2) (da_cons de_int (da_cons (de_bin op_subA op2_sub (de_cb call_len opn_len rfl M.n_len boot_len (da_cons (de_v 0) da_nil)) de_int) da_nil)) (pgs_names_cons (pg_name (i := 3) sc__law_worth.nd rfl (by first | exact Or.inl rfl | exact Or.inr rfl)) (pgs_names_cons (pg_name (i := 4) sc__law_worth.nd rfl (by first | exact Or.inl rfl | exact Or.inr rfl)) pgs_names_nil (by decide) (fun h1 h2 => pgs_cons h1 h2)) (by decide) (fun h1 h2 => pgs_cons h1 h2)) (fun h => pg_tup rfl h) rfl (by decide)))
    (dss_cons (ds_for (passes_of rfl) rfl (di_enum (dae_cons (de_v 0) dae_nil) (by rfl) M.n_enumerate) (dgt_n (dg_tup (n := 2) rfl (dgs_cons (dg_nm (pg_name (i := 5) sc__law_worth.nd rfl (by first | exact Or.inl rfl | exact Or.inr rfl))) (dgs_cons (dg_nm (pg_name (i := 6) sc__law_worth.nd rfl (by first | exact Or.inl rfl | exact Or.inr rfl))) dgs_nil (fun h1 h2 => pgs_cons h1 h2)) (fun h1 h2 => pgs_cons h1 h2)) rfl (fun h => pg_tup rfl h)))
    (dss_one (ds_augN (i := 3) sc__law_worth.nd rfl (by first | exact Or.inl rfl | exact Or.inr rfl) ip_add (de_bin op_mulA op2_mulA (de_bin op_mulA op2_mulA (de_v 6) (de_call C__law_power (hr.mono (by decide)) (takes_of rfl rfl rfl rfl) (by rfl) (dae_cons (de_v 1) (dae_cons (de_v 5) dae_nil)))) (de_call C__law_power (hr.mono (by decide)) (takes_of rfl rfl rfl rfl) (by rfl) (dae_cons (de_v 2) (dae_cons (de_bin op_subA op2_sub (de_v 4) (de_v 5)) dae_nil)))))))
    (dss_cons (ds_set (i := 7) sc__law_worth.nd rfl (by first | exact Or.inl rfl | exact Or.inr rfl) (de_call C__law_power (hr.mono (by decide)) (takes_of rfl rfl rfl rfl) (by rfl) (dae_cons (de_v 2) (dae_cons (de_v 4) dae_nil))))
    (dss_cons (by first | exact (ds_par2 (i := 8) (j := 9) rfl sc__law_worth.nd rfl rfl (by decide) rfl rfl (da_cons (de_cb call_abs opn_abs rfl M.n_abs boot_abs (da_cons (de_v 3) da_nil)) (da_cons (de_v 7) da_nil)) rfl) | exact (ds_parT (n := 2) (da_cons (de_cb call_abs opn_abs rfl M.n_abs boot_abs (da_cons (de_v 3) da_nil)) (da_cons (de_v 7) da_nil)) (pgs_names_cons (pg_name (i := 8) sc__law_worth.nd rfl (by first | exact Or.inl rfl | exact Or.inr rfl)) (pgs_names_cons (pg_name (i := 9) sc__law_worth.nd rfl (by first | exact Or.inl rfl | exact Or.inr rfl)) pgs_names_nil (by decide) (fun h1 h2 => pgs_cons h1 h2)) (by decide) (fun h1 h2 => pgs_cons h1 h2)) (fun h => pg_tup rfl h) rfl (by decide)))
    (dss_cons (ds_while (n := 1000000000000000000000000000000000000000000000000000000000000) (passes_of rfl) (dt_cmp (op_neD hu) op2_ne (de_v 8) de_int (nomark _)) (dss_one (by first | exact (ds_par2 (i := 8) (j := 9) rfl sc__law_worth.nd rfl rfl (by decide) rfl rfl (da_cons (de_bin op_modN op2_mod (de_v 9) (de_v 8)) (da_cons (de_v 8) da_nil)) rfl) | exact (ds_parT (n := 2) (da_cons (de_bin op_modN op2_mod (de_v 9) (de_v 8)) (da_cons (de_v 8) da_nil)) (pgs_names_cons (pg_name (i := 8) sc__law_worth.nd rfl (by first | exact Or.inl rfl | exact Or.inr rfl)) (pgs_names_cons (pg_name (i := 9) sc__law_worth.nd rfl (by first | exact Or.inl rfl | exact Or.inr rfl)) pgs_names_nil (by decide) (fun h1 h2 => pgs_cons h1 h2)) (by decide) (fun h1 h2 => pgs_cons h1 h2)) (fun h => pg_tup rfl h) rfl (by decide)))))
    (dss_one (ds_ret (de_tup (dae_cons (de_bin op_divG op2_div (de_v 3) (de_v 9)) (dae_cons (de_bin op_divG op2_div (de_v 7) (de_v 9)) dae_nil)))))))))))
theorem kf__law_worth (M : Gs K mg fI fJ c_PaceError c_LimitError c_InvalidRatio c_InvalidPolynomial c_TooMany) (H__law_power : KF P w K mg base 3 "_law_power" s__law_power ["base", "many"] d__law_power) (R : RF K mg "_law_worth" s__law_worth ["row", "number", "under"]) : KF P w K mg base 4 "_law_worth" s__law_worth ["row", "number", "under"] d__law_worth := by
  obtain ⟨f, fd, F, gm, kp, bi⟩ := R
  exact ⟨f, fd, F, ⟨ok__law_worth M H__law_power F, gm, kp, bi⟩⟩
noncomputable def b__law_two_right : Gm → SR := (sSeq (sIf (tNo (tOf (eCall d__law_is (aConsE (eCall d_poly_plus (aConsE (eV 0) (aConsE (eV 1) aNilE))) (aConsE (eCall d__law_sum (aConsE (eV 0) (aConsE (eV 1) (aConsE (eC (.int 1)) aNilE)))) aNilE))))) (sRet (eC (.bool false))) sNext)
  (sSeq (sIf (tNo (tOf (eCall d__law_is (aConsE (eCallK d_poly_minus 0 2 (permL [1, 0]) aNilE (aConsE (eV 1) (aConsE (eV 0) aNilE))) (aConsE (eCall d__law_sum (aConsE (eV 0) (aConsE (eV 1) (aConsE (eOp1 fNeg (eC (.int 1))) aNilE)))) aNilE))))) (sRet (eC (.bool false))) sNext)
  (sSeq (sIf (tOr' (tNo (tOf (eCall d__law_is (aConsE (eCall d_poly_minus (aConsE (eV 0) (aConsE (eV 0) aNilE))) (aConsE (eTup aNilE) aNilE))))) (tNo (tOf (eCall d__law_is (aConsE (eCall d_poly_plus (aConsE (eV 0) (aConsE (eTup aNilE) aNilE))) (aConsE (eV 0) aNilE)))))) (sRet (eC (.bool false))) sNext)
  (sSeq (sSet 4 (eCall d__law_product (aConsE (eV 0) (aConsE (eV 1) aNilE))))
  (sSeq (sIf (tOf (eOp2 fGt (eOpN fLen (aCons (eV 4) aNil)) (eC (.int 13)))) (sRet (eOp2 fEq (eCall d__law_raised (aConsE (eC (.str "times")) (aConsE (eV 0) (aConsE (eV 1) aNilE)))) (eLst (aConsE (eC (.str "degree")) (aConsE (eC (.int 12)) aNilE))))) sNext)
  (sSeq (sIf (tNo (tOf (eCall d__law_is (aConsE (eCall d_poly_times (aConsE (eV 0) (aConsE (eV 1) aNilE))) (aConsE (eV 4) aNilE))))) (sRet (eC (.bool false))) sNext)
  (sSeq (sFor (itE (eLst (aConsE (eC (.int 0)) (aConsE (eC (.int 1)) (aConsE (eOp1 fNeg (eC (.int 1))) (aConsE (eC (.int 2)) aNilE)))))) (tgN (.nm 5))
  (sSeq (sPar [6, 7] (aCons (eOp2 fIx (eCall d__law_worth (aConsE (eV 0) (aConsE (eV 5) (aConsE (eC (.int 1)) aNilE)))) (eC (.int 0))) (aCons (eOp2 fIx (eCall d__law_worth (aConsE (eV 1) (aConsE (eV 5) (aConsE (eC (.int 1)) aNilE)))) (eC (.int 0))) aNil)))
  (sIf (tOf (eOp2 fNe (eCall d__law_worth (aConsE (eCallK d_poly_times 0 2 (permL [0, 1]) aNilE (aConsE (eV 0) (aConsE (eV 1) aNilE))) (aConsE (eV 5) (aConsE (eC (.int 1)) aNilE)))) (eTup (aConsE (eOp2 fMulA (eV 6) (eV 7)) (aConsE (eC (.int 1)) aNilE))))) (sRet (eC (.bool false))) sNext)))
  (sRet (eCall d__law_is (aConsE (eCall d_poly_worth (aConsE (eV 0) (aConsE (eTup (aConsE (eV 2) (aConsE (eV 3) aNilE))) aNilE))) (aConsE (eCall d__law_worth (aConsE (eV 0) (aConsE (eV 2) (aConsE (eV 3) aNilE)))) aNilE)))))))))))
noncomputable def d__law_two_right : List B → FR := fnD 4 4 b__law_two_right
theorem ok__law_two_right (M : Gs K mg fI fJ c_PaceError c_LimitError c_InvalidRatio c_InvalidPolynomial c_TooMany) (H__law_is : KF P w K mg base 3 "_law_is" s__law_is ["told", "due"] d__law_is) (H__law_sum : KF P w K mg base 4 "_law_sum" s__law_sum ["one", "other", "sign"] d__law_sum) (H_poly_plus : KF P w K mg base 6 "poly_plus" s_poly_plus ["polynomial", "other"] d_poly_plus) (H_poly_minus : KF P w K mg base 6 "poly_minus" s_poly_minus ["polynomial", "other"] d_poly_minus) (H__law_product : KF P w K mg base 4 "_law_product" s__law_product ["one", "other"] d__law_product) (H__law_raised : KF P w K mg base 8 "_law_raised" s__law_raised ["word", "one", "other"] d__law_raised) (H_poly_times : KF P w K mg base 6 "poly_times" s_poly_times ["polynomial", "other"] d_poly_times) (H__law_worth : KF P w K mg base 4 "_law_worth" s__law_worth ["row", "number", "under"] d__law_worth) (H_poly_worth : KF P w K mg base 6 "poly_worth" s_poly_worth ["polynomial", "ratio"] d_poly_worth) {f : Addr} {fd : FuncData} (F : Fun K "_law_two_right" "_law_two_right" s__law_two_right f fd) : FnG P w K mg base 9 f fd ["one", "other", "number", "under"] (spD K mg d__law_two_right) := by
  obtain ⟨f__law_is, fd__law_is, ⟨F__law_is, C__law_is⟩⟩ := H__law_is
  obtain ⟨f__law_sum, fd__law_sum, ⟨F__law_sum, C__law_sum⟩⟩ := H__law_sum
  obtain ⟨f_poly_plus, fd_poly_plus, ⟨F_poly_plus, C_poly_plus⟩⟩ := H_poly_plus
  obtain ⟨f_poly_minus, fd_poly_minus, ⟨F_poly_minus, C_poly_minus⟩⟩ := H_poly_minus
  obtain ⟨f__law_product, fd__law_product, ⟨F__law_product, C__law_product⟩⟩ := H__law_product
  obtain ⟨f__law_raised, fd__law_raised, ⟨F__law_raised, C__law_raised⟩⟩ := H__law_raised
  obtain ⟨f_poly_times, fd_poly_times, ⟨F_poly_times, C_poly_times⟩⟩ := H_poly_times
  obtain ⟨f__law_worth, fd__law_worth, ⟨F__law_worth, C__law_worth⟩⟩ := H__law_worth
  obtain ⟨f_poly_worth, fd_poly_worth, ⟨F_poly_worth, C_poly_worth⟩⟩ := H_poly_worth
  refine fn_ok (k := 8) (m := 4) (body := b__law_two_right) F sc__law_two_right rfl fun cdv A outer s H E hr => ?_
  have hu : (A.deeper (envOfC "_law_two_right" (defScope s__law_two_right) s.heap.objs.size f cdv)).units + 64 < cLine := by have := hr.rm.un; omega
  exact (dss_cons (ds_if (dt_not (dt_val (de_call C__law_is (hr.mono (by decide)) (takes_of rfl rfl rfl rfl) (by rfl) (dae_cons (de_call C_poly_plus (hr.mono (by decide)) (takes_of rfl rfl rfl rfl) (by rfl) (dae_cons (de_v 0) (dae_cons (de_v 1) dae_nil))) (dae_cons (de_call C__law_sum (hr.mono (by decide)) (takes_of rfl rfl rfl rfl) (by rfl) (dae_cons (de_v 0) (dae_cons (de_v 1) (dae_cons de_int dae_nil)))) dae_nil))))) (dss_one (ds_ret de_bl)) dss_nil)
    (dss_cons (ds_if (dt_not (dt_val (de_call C__law_is (hr.mono (by decide)) (takes_of rfl rfl rfl rfl) (by rfl) (dae_cons (de_callk0 C_poly_minus (hr.mono (by decide)) (takes_of rfl rfl rfl rfl) (by rfl) (kbn_fun F_poly_minus (ks := ["other", "polynomial"]) (n := 0) (is := [1, 0]) fun _ _ _ _ _ _ us ws h1 h2 => match us, ws, h1, h2 with | [], [_, _], _, _ => rfl) (dk_cons (de_v 1) (dk_cons (de_v 0) dk_nil))) (dae_cons (de_call C__law_sum (hr.mono (by decide)) (takes_of rfl rfl rfl rfl) (by rfl) (dae_cons (de_v 0) (dae_cons (de_v 1) (dae_cons (de_un un_neg op1_neg de_int) dae_nil)))) dae_nil))))) (dss_one (ds_ret de_bl)) dss_nil)
    (dss_cons (ds_if (dt_w (dw_or (dt_not (dt_val (de_call C__law_is (hr.mono (by decide)) (takes_of rfl rfl rfl rfl) (by rfl) (dae_cons (de_call C_poly_minus (hr.mono (by decide)) (takes_of rfl rfl rfl rfl) (by rfl) (dae_cons (de_v 0) (dae_cons (de_v 0) dae_nil))) (dae_cons (de_tup dae_nil) dae_nil))))) (dw_or1 (dt_not (dt_val (de_call C__law_is (hr.mono (by decide)) (takes_of rfl rfl rfl rfl) (by rfl) (dae_cons (de_call C_poly_plus (hr.mono (by decide)) (takes_of rfl rfl rfl rfl) (by rfl) (dae_cons (de_v 0) (dae_cons (de_tup dae_nil) dae_nil))) (dae_cons (de_v 0) dae_nil)))))))) (dss_one (ds_ret de_bl)) dss_nil)
    (dss_cons (ds_set (i := 4) sc__law_two_right.nd rfl (by first | exact Or.inl rfl | exact Or.inr rfl) (de_call C__law_product (hr.mono (by decide)) (takes_of rfl rfl rfl rfl) (by rfl) (dae_cons (de_v 0) (dae_cons (de_v 1) dae_nil))))
    (dss_cons (ds_if (dt_cmp op_gt op2_gt (de_cb call_len opn_len rfl M.n_len boot_len (da_cons (de_v 4) da_nil)) de_int (nomark _)) (dss_one (ds_ret (de_cmp (op_eqD hu) op2_eq (de_call C__law_raised (hr.mono (by decide)) (takes_of rfl rfl rfl rfl) (by rfl) (dae_cons de_str (dae_cons (de_v 0) (dae_cons (de_v 1) dae_nil)))) (de_lst (dae_cons de_str (dae_cons de_int dae_nil))) (nomark _)))) dss_nil)
    (dss_cons (ds_if (dt_not (dt_val (de_call C__law_is (hr.mono (by decide)) (takes_of rfl rfl rfl rfl) (by rfl) (dae_cons (de_call C_poly_times (hr.mono (by decide)) (takes_of rfl rfl rfl rfl) (by rfl) (dae_cons (de_v 0) (dae_cons (de_v 1) dae_nil))) (dae_cons (de_v 4) dae_nil))))) (dss_one (ds_ret de_bl)) dss_nil)
    (dss_cons (ds_for (passes_of rfl) rfl (di_e (de_lst (dae_cons de_int (dae_cons de_int (dae_cons (de_un un_neg op1_neg de_int) (dae_cons de_int dae_nil)))))) (dgt_n (dg_nm (pg_name (i := 5) sc__law_two_right.nd rfl (by first | exact Or.inl rfl | exact Or.inr rfl))))
    (dss_cons (by first | exact (ds_par2 (i := 6) (j := 7) rfl sc__law_two_right.nd rfl rfl (by decide) rfl rfl (da_cons (de_ix ix_any op2_ix (de_call C__law_worth (hr.mono (by decide)) (takes_of rfl rfl rfl rfl) (by rfl) (dae_cons (de_v 0) (dae_cons (de_v 5) (dae_cons de_int dae_nil)))) de_int) (da_cons (de_ix ix_any op2_ix (de_call C__law_worth (hr.mono (by decide)) (takes_of rfl rfl rfl rfl) (by rfl) (dae_cons (de_v 1) (dae_cons (de_v 5) (dae_cons de_int dae_nil)))) de_int) da_nil)) rfl) | exact (ds_parT (n := 2) (da_cons (de_ix ix_any op2_ix (de_call C__law_worth (hr.mono (by decide)) (takes_of rfl rfl rfl rfl) (by rfl) (dae_cons (de_v 0) (dae_cons (de_v 5) (dae_cons de_int dae_nil)))) de_int) (da_cons (de_ix ix_any op2_ix (de_call C__law_worth (hr.mono (by decide)) (takes_of rfl rfl rfl rfl) (by rfl) (dae_cons (de_v 1) (dae_cons (de_v 5) (dae_cons de_int dae_nil)))) de_int) da_nil)) (pgs_names_cons (pg_name (i := 6) sc__law_two_right.nd rfl (by first | exact Or.inl rfl | exact Or.inr rfl)) (pgs_names_cons (pg_name (i := 7) sc__law_two_right.nd rfl (by first | exact Or.inl rfl | exact Or.inr rfl)) pgs_names_nil (by decide) (fun h1 h2 => pgs_cons h1 h2)) (by decide) (fun h1 h2 => pgs_cons h1 h2)) (fun h => pg_tup rfl h) rfl (by decide)))
    (dss_one (ds_if (dt_cmp (op_neD hu) op2_ne (de_call C__law_worth (hr.mono (by decide)) (takes_of rfl rfl rfl rfl) (by rfl) (dae_cons (de_callk0 C_poly_times (hr.mono (by decide)) (takes_of rfl rfl rfl rfl) (by rfl) (kbn_fun F_poly_times (ks := ["polynomial", "other"]) (n := 0) (is := [0, 1]) fun _ _ _ _ _ _ us ws h1 h2 => match us, ws, h1, h2 with | [], [_, _], _, _ => rfl) (dk_cons (de_v 0) (dk_cons (de_v 1) dk_nil))) (dae_cons (de_v 5) (dae_cons de_int dae_nil)))) (de_tup (dae_cons (de_bin op_mulA op2_mulA (de_v 6) (de_v 7)) (dae_cons de_int dae_nil))) (nomark _)) (dss_one (ds_ret de_bl)) dss_nil))))
    (dss_one (ds_ret (de_call C__law_is (hr.mono (by decide)) (takes_of rfl rfl rfl rfl) (by rfl) (dae_cons (de_call C_poly_worth (hr.mono (by decide)) (takes_of rfl rfl rfl rfl) (by rfl) (dae_cons (de_v 0) (dae_cons (de_tup (dae_cons (de_v 2) (dae_cons (de_v 3) dae_nil))) dae_nil))) (dae_cons (de_call C__law_worth (hr.mono (by decide)) (takes_of rfl rfl rfl rfl) (by rfl) (dae_cons (de_v 0) (dae_cons (de_v 2) (dae_cons (de_v 3) dae_nil)))) dae_nil))))))))))))
theorem kf__law_two_right (M : Gs K mg fI fJ c_PaceError c_LimitError c_InvalidRatio c_InvalidPolynomial c_TooMany) (H__law_is : KF P w K mg base 3 "_law_is" s__law_is ["told", "due"] d__law_is) (H__law_sum : KF P w K mg base 4 "_law_sum" s__law_sum ["one", "other", "sign"] d__law_sum) (H_poly_plus : KF P w K mg base 6 "poly_plus" s_poly_plus ["polynomial", "other"] d_poly_plus) (H_poly_minus : KF P w K mg base 6 "poly_minus" s_poly_minus ["polynomial", "other"] d_poly_minus) (H__law_product : KF P w K mg base 4 "_law_product" s__law_product ["one", "other"] d__law_product) (H__law_raised : KF P w K mg base 8 "_law_raised" s__law_raised ["word", "one", "other"] d__law_raised) (H_poly_times : KF P w K mg base 6 "poly_times" s_poly_times ["polynomial", "other"] d_poly_times) (H__law_worth : KF P w K mg base 4 "_law_worth" s__law_worth ["row", "number", "under"] d__law_worth) (H_poly_worth : KF P w K mg base 6 "poly_worth" s_poly_worth ["polynomial", "ratio"] d_poly_worth) (R : RF K mg "_law_two_right" s__law_two_right ["one", "other", "number", "under"]) : KF P w K mg base 9 "_law_two_right" s__law_two_right ["one", "other", "number", "under"] d__law_two_right := by
  obtain ⟨f, fd, F, gm, kp, bi⟩ := R
  exact ⟨f, fd, F, ⟨ok__law_two_right M H__law_is H__law_sum H_poly_plus H_poly_minus H__law_product H__law_raised H_poly_times H__law_worth H_poly_worth F, gm, kp, bi⟩⟩
noncomputable def b__law_one_right : Gm → SR := (sSeq (sIf (tOr' (tOf (eOp2 fIsNot (eCall d_is_polynomial (aConsE (eV 0) aNilE)) (eC (.bool true)))) (tOf (eOp2 fIsNot (eCallK d_is_polynomial 0 1 (permL [0]) aNilE (aConsE (eOpN fList (aCons (eV 0) aNil)) aNilE)) (eC (.bool false))))) (sRet (eC (.bool false))) sNext)
  (sSeq (sSet 1 (eCall d__law_cut (aConsE (eSl (eComp [2, 3] (itf fEnum (aConsE (eV 0) aNilE)) (.tp [(.nm 2), (.nm 3)]) tYs (eOp2 fMulA (eV 2) (eV 3))) (pSo (eC (.int 1))) pNo) aNilE)))
  (sSeq (sIf (tOr' (tNo (tOf (eCall d__law_is (aConsE (eCall d_poly_slope (aConsE (eV 0) aNilE)) (aConsE (eV 1) aNilE))))) (tNo (tOf (eCall d__law_is (aConsE (eCallK d_poly_slope 0 1 (permL [0]) aNilE (aConsE (eV 0) aNilE)) (aConsE (eV 1) aNilE)))))) (sRet (eC (.bool false))) sNext)
  (sRet (eCall d__law_is (aConsE (eCallK d_poly_worth 0 2 (permL [0, 1]) aNilE (aConsE (eV 0) (aConsE (eTup (aConsE (eC (.int 0)) (aConsE (eC (.int 1)) aNilE))) aNilE))) (aConsE (eTup (aConsE (eCall d__law_at (aConsE (eV 0) (aConsE (eC (.int 0)) aNilE))) (aConsE (eC (.int 1)) aNilE))) aNilE)))))))
noncomputable def d__law_one_right : List B → FR := fnD 1 3 b__law_one_right
theorem ok__law_one_right (M : Gs K mg fI fJ c_PaceError c_LimitError c_InvalidRatio c_InvalidPolynomial c_TooMany) (H_is_polynomial : KF P w K mg base 4 "is_polynomial" s_is_polynomial ["value"] d_is_polynomial) (H__law_cut : KF P w K mg base 3 "_law_cut" s__law_cut ["row"] d__law_cut) (H__law_is : KF P w K mg base 3 "_law_is" s__law_is ["told", "due"] d__law_is) (H_poly_slope : KF P w K mg base 6 "poly_slope" s_poly_slope ["polynomial"] d_poly_slope) (H__law_at : KF P w K mg base 3 "_law_at" s__law_at ["row", "power"] d__law_at) (H_poly_worth : KF P w K mg base 6 "poly_worth" s_poly_worth ["polynomial", "ratio"] d_poly_worth) {f : Addr} {fd : FuncData} (F : Fun K "_law_one_right" "_law_one_right" s__law_one_right f fd) : FnG P w K mg base 7 f fd ["one"] (spD K mg d__law_one_right) := by
  obtain ⟨f_is_polynomial, fd_is_polynomial, ⟨F_is_polynomial, C_is_polynomial⟩⟩ := H_is_polynomial
  obtain ⟨f__law_cut, fd__law_cut, ⟨F__law_cut, C__law_cut⟩⟩ := H__law_cut
  obtain ⟨f__law_is, fd__law_is, ⟨F__law_is, C__law_is⟩⟩ := H__law_is
  obtain ⟨f_poly_slope, fd_poly_slope, ⟨F_poly_slope, C_poly_slope⟩⟩ := H_poly_slope
  obtain ⟨f__law_at, fd__law_at, ⟨F__law_at, C__law_at⟩⟩ := H__law_at
  obtain ⟨f_poly_worth, fd_poly_worth, ⟨F_poly_worth, C_poly_worth⟩⟩ := H_poly_worth
  refine fn_ok (k := 6) (m := 3) (body := b__law_one_right) F sc__law_one_right rfl fun cdv A outer s H E hr => ?_
  have hu : (A.deeper (envOfC "_law_one_right" (defScope s__law_one_right) s.heap.objs.size f cdv)).units + 64 < cLine := by have := hr.rm.un; omega
  exact (dss_cons (ds_if (dt_w (dw_or (dt_cmp op_isnot_bl op2_isnot (de_call C_is_polynomial (hr.mono (by decide)) (takes_of rfl rfl rfl rfl) (by rfl) (dae_cons (de_v 0) dae_nil)) de_bl (nomark _)) (dw_or1 (dt_cmp op_isnot_bl op2_isnot (de_callk0 C_is_polynomial (hr.mono (by decide)) (takes_of rfl rfl rfl rfl) (by rfl) (kbn_fun F_is_polynomial (ks := ["value"]) (n := 0) (is := [0]) fun _ _ _ _ _ _ us ws h1 h2 => match us, ws, h1, h2 with | [], [_], _, _ => rfl) (dk_cons (de_cty call_list_of opn_list rfl M.n_list boot_list (da_cons (de_v 0) da_nil)) dk_nil)) de_bl (nomark _))))) (dss_one (ds_ret de_bl)) dss_nil)
    (dss_cons (ds_set (i := 1) sc__law_one_right.nd rfl (by first | exact Or.inl rfl | exact Or.inr rfl) (de_call C__law_cut (hr.mono (by decide)) (takes_of rfl rfl rfl rfl) (by rfl) (dae_cons (de_sl (de_comp (own := [("at", 2), ("a", 3)]) rfl sc__law_one_right.nd (di_enum (dae_cons (de_v 0) dae_nil) (by rfl) M.n_enumerate) (blkOk_by (by first | rfl | decide +kernel)) (fun s H C cl fp => (dg_tup (n := 2) rfl (dgs_cons (dg_nm (pg_name (i := 2) sc__law_one_right.nd rfl (by first | exact Or.inl rfl | exact Or.inr rfl))) (dgs_cons (dg_nm (pg_name (i := 3) sc__law_one_right.nd rfl (by first | exact Or.inl rfl | exact Or.inr rfl))) dgs_nil (fun h1 h2 => pgs_cons h1 h2)) (fun h1 h2 => pgs_cons h1 h2)) rfl (fun h => pg_tup rfl h))) (fun s H C cl fp => dts_nil) (fun s H C cl fp => (de_bin op_mulA op2_mulA (de_v 2) (de_v 3)))) (do_some de_int) do_none) dae_nil)))
    (dss_cons (ds_if (dt_w (dw_or (dt_not (dt_val (de_call C__law_is (hr.mono (by decide)) (takes_of rfl rfl rfl rfl) (by rfl) (dae_cons (de_call C_poly_slope (hr.mono (by decide)) (takes_of rfl rfl rfl rfl) (by rfl) (dae_cons (de_v 0) dae_nil)) (dae_cons (de_v 1) dae_nil))))) (dw_or1 (dt_not (dt_val (de_call C__law_is (hr.mono (by decide)) (takes_of rfl rfl rfl rfl) (by rfl) (dae_cons (de_callk0 C_poly_slope (hr.mono (by decide)) (takes_of rfl rfl rfl rfl) (by rfl) (kbn_fun F_poly_slope (ks := ["polynomial"]) (n := 0) (is := [0]) fun _ _ _ _ _ _ us ws h1 h2 => match us, ws, h1, h2 with | [], [_], _, _ => rfl) (dk_cons (de_v 0) dk_nil)) (dae_cons (de_v 1) dae_nil)))))))) (dss_one (ds_ret de_bl)) dss_nil)
    (dss_one (ds_ret (de_call C__law_is (hr.mono (by decide)) (takes_of rfl rfl rfl rfl) (by rfl) (dae_cons (de_callk0 C_poly_worth (hr.mono (by decide)) (takes_of rfl rfl rfl rfl) (by rfl) (kbn_fun F_poly_worth (ks := ["polynomial", "ratio"]) (n := 0) (is := [0, 1]) fun _ _ _ _ _ _ us ws h1 h2 => match us, ws, h1, h2 with | [], [_, _], _, _ => rfl) (dk_cons (de_v 0) (dk_cons (de_tup (dae_cons de_int (dae_cons de_int dae_nil))) dk_nil))) (dae_cons (de_tup (dae_cons (de_call C__law_at (hr.mono (by decide)) (takes_of rfl rfl rfl rfl) (by rfl) (dae_cons (de_v 0) (dae_cons de_int dae_nil))) (dae_cons de_int dae_nil))) dae_nil))))))))
theorem kf__law_one_right (M : Gs K mg fI fJ c_PaceError c_LimitError c_InvalidRatio c_InvalidPolynomial c_TooMany) (H_is_polynomial : KF P w K mg base 4 "is_polynomial" s_is_polynomial ["value"] d_is_polynomial) (H__law_cut : KF P w K mg base 3 "_law_cut" s__law_cut ["row"] d__law_cut) (H__law_is : KF P w K mg base 3 "_law_is" s__law_is ["told", "due"] d__law_is) (H_poly_slope : KF P w K mg base 6 "poly_slope" s_poly_slope ["polynomial"] d_poly_slope) (H__law_at : KF P w K mg base 3 "_law_at" s__law_at ["row", "power"] d__law_at) (H_poly_worth : KF P w K mg base 6 "poly_worth" s_poly_worth ["polynomial", "ratio"] d_poly_worth) (R : RF K mg "_law_one_right" s__law_one_right ["one"]) : KF P w K mg base 7 "_law_one_right" s__law_one_right ["one"] d__law_one_right := by
  obtain ⟨f, fd, F, gm, kp, bi⟩ := R
  exact ⟨f, fd, F, ⟨ok__law_one_right M H_is_polynomial H__law_cut H__law_is H_poly_slope H__law_at H_poly_worth F, gm, kp, bi⟩⟩
noncomputable def b__law_odd : Gm → SR := (sRet (eLst (aConsE (eLst (aConsE (eC (.int 1)) (aConsE (eC (.int 2)) aNilE))) (aConsE (eTup (aConsE (eC (.int 1)) (aConsE (eC (.int 0)) aNilE))) (aConsE (eTup (aConsE (eC (.int 0)) aNilE)) (aConsE (eTup (aConsE (eC (.bool true)) aNilE)) (aConsE (eTup (aConsE (eC (.int 1)) (aConsE (eC (.bool false)) (aConsE (eC (.int 1)) aNilE)))) (aConsE (eTup (aConsE (eC (.str "1")) aNilE)) (aConsE (eTup (aConsE (eC .none) aNilE)) (aConsE (eC .none) (aConsE (eC (.str "")) (aConsE (eC (.int 1)) (aConsE (eTup (aConsE (eTup (aConsE (eC (.int 1)) aNilE)) aNilE)) (aConsE (eTup (aConsE (eOp2 fAdd (eOp2 fPow (eC (.int 10)) (eC (.int 6))) (eC (.int 1))) aNilE)) (aConsE (eTup (aConsE (eC (.int 0)) (aConsE (eOp2 fSub (eOp1 fNeg (eOp2 fPow (eC (.int 10)) (eC (.int 6)))) (eC (.int 1))) aNilE))) (aConsE (eOp2 fMulA (eTup (aConsE (eC (.int 1)) aNilE)) (eC (.int 14))) (aConsE (eTup (aConsE (eC (.int 1)) (aConsE (eC (.str "2")) (aConsE (eC (.int 3)) aNilE)))) (aConsE (eLst aNilE) (aConsE (eLst (aConsE (eTup aNilE) aNilE)) (aConsE (eTup (aConsE (eC (.int 2)) (aConsE (eTup (aConsE (eC (.int 1)) aNilE)) aNilE))) aNilE))))))))))))))))))))
noncomputable def d__law_odd : List B → FR := fnD 0 0 b__law_odd
theorem ok__law_odd (M : Gs K mg fI fJ c_PaceError c_LimitError c_InvalidRatio c_InvalidPolynomial c_TooMany) {f : Addr} {fd : FuncData} (F : Fun K "_law_odd" "_law_odd" s__law_odd f fd) : FnG P w K mg base 3 f fd [] (spD K mg d__law_odd) := by
  refine fn_ok (k := 2) (m := 0) (body := b__law_odd) F sc__law_odd rfl fun cdv A outer s H E hr => ?_
  have hu : (A.deeper (envOfC "_law_odd" (defScope s__law_odd) s.heap.objs.size f cdv)).units + 64 < cLine := by have := hr.rm.un; omega
  exact (dss_one (ds_ret (de_lst (dae_cons (de_lst (dae_cons de_int (dae_cons de_int dae_nil))) (dae_cons (de_tup (dae_cons de_int (dae_cons de_int dae_nil))) (dae_cons (de_tup (dae_cons de_int dae_nil)) (dae_cons (de_tup (dae_cons de_bl dae_nil)) (dae_cons (de_tup (dae_cons de_int (dae_cons de_bl (dae_cons de_int dae_nil)))) (dae_cons (de_tup (dae_cons de_str dae_nil)) (dae_cons (de_tup (dae_cons de_non dae_nil)) (dae_cons de_non (dae_cons de_str (dae_cons de_int (dae_cons (de_tup (dae_cons (de_tup (dae_cons de_int dae_nil)) dae_nil)) (dae_cons (de_tup (dae_cons (de_bin op_addA op2_add (de_bin op_pow op2_pow de_int de_int) de_int) dae_nil)) (dae_cons (de_tup (dae_cons de_int (dae_cons (de_bin op_subA op2_sub (de_un un_neg op1_neg (de_bin op_pow op2_pow de_int de_int)) de_int) dae_nil))) (dae_cons (de_bin op_mulA op2_mulA (de_tup (dae_cons de_int dae_nil)) de_int) (dae_cons (de_tup (dae_cons de_int (dae_cons de_str (dae_cons de_int dae_nil)))) (dae_cons (de_lst dae_nil) (dae_cons (de_lst (dae_cons (de_tup dae_nil) dae_nil)) (dae_cons (de_tup (dae_cons de_int (dae_cons (de_tup (dae_cons de_int dae_nil)) dae_nil))) dae_nil)))))))))))))))))))))
theorem kf__law_odd (M : Gs K mg fI fJ c_PaceError c_LimitError c_InvalidRatio c_InvalidPolynomial c_TooMany) (R : RF K mg "_law_odd" s__law_odd []) : KF P w K mg base 3 "_law_odd" s__law_odd [] d__law_odd := by
  obtain ⟨f, fd, F, gm, kp, bi⟩ := R
  exact ⟨f, fd, F, ⟨ok__law_odd M F, gm, kp, bi⟩⟩
noncomputable def b__law_refusals_right : Gm → SR := (sSeq (sSet 2 (eCall0 d__law_odd))
  (sSeq (sPar [3, 4] (aCons (eOp2 fIx (eV 2) (eCallIo d__law_draw 0 (aConsE (eOpN fLen (aCons (eV 2) aNil)) aNilE))) (aCons (eOp2 fIx (eV 2) (eCallIo d__law_draw 0 (aConsE (eOpN fLen (aCons (eV 2) aNil)) aNilE))) aNil)))
  (sSeq (sIf (tOf (eOp2 fIsNot (eCall d_is_polynomial (aConsE (eV 3) aNilE)) (eC (.bool false)))) (sRet (eC (.bool false))) sNext)
  (sSeq (sSet 5 (eLst (aConsE (eC (.str "InvalidPolynomial")) (aConsE (eOpN fRepr (aCons (eV 3) aNil)) (aConsE (eC (.bool true)) aNilE)))))
  (sSeq (sFor (itE (eLst (aConsE (eC (.str "plus")) (aConsE (eC (.str "minus")) (aConsE (eC (.str "times")) aNilE))))) (tgN (.nm 6))
  (sIf (tOr' (tOf (eOp2 fNe (eCall d__law_raised (aConsE (eV 6) (aConsE (eV 3) (aConsE (eV 4) aNilE)))) (eV 5))) (tOf (eOp2 fNe (eCall d__law_raised (aConsE (eV 6) (aConsE (eV 1) (aConsE (eV 3) aNilE)))) (eV 5)))) (sRet (eC (.bool false))) sNext))
  (sSeq (sIf (tOr' (tOf (eOp2 fNe (eCall d__law_raised (aConsE (eC (.str "slope")) (aConsE (eV 3) (aConsE (eC .none) aNilE)))) (eV 5))) (tOf (eOp2 fNe (eCall d__law_raised (aConsE (eC (.str "worth")) (aConsE (eV 3) (aConsE (eC .none) aNilE)))) (eV 5)))) (sRet (eC (.bool false))) sNext)
  (sSeq (sSet 7 (eOp2 fIx (eLst (aConsE (eTup (aConsE (eC (.int 2)) (aConsE (eC (.int 4)) aNilE))) (aConsE (eLst (aConsE (eC (.int 1)) (aConsE (eC (.int 2)) aNilE))) (aConsE (eTup (aConsE (eC (.int 1)) (aConsE (eC (.int 0)) aNilE))) (aConsE (eC (.int 1)) (aConsE (eC .none) (aConsE (eTup (aConsE (eC (.bool true)) (aConsE (eC (.int 1)) aNilE))) aNilE))))))) (eCallIo d__law_draw 0 (aConsE (eC (.int 6)) aNilE))))
  (sRet (eOp2 fEq (eCall d__law_raised (aConsE (eC (.str "worth")) (aConsE (eV 1) (aConsE (eV 7) aNilE)))) (eLst (aConsE (eC (.str "InvalidRatio")) (aConsE (eOpN fRepr (aCons (eV 7) aNil)) (aConsE (eC (.bool true)) aNilE)))))))))))))
noncomputable def d__law_refusals_right : List B → FR := fnD 2 6 b__law_refusals_right
theorem ok__law_refusals_right (M : Gs K mg fI fJ c_PaceError c_LimitError c_InvalidRatio c_InvalidPolynomial c_TooMany) (H__law_odd : KF P w K mg base 3 "_law_odd" s__law_odd [] d__law_odd) (H__law_draw : KF P w K mg base 3 "_law_draw" s__law_draw ["pot", "many"] d__law_draw) (H_is_polynomial : KF P w K mg base 4 "is_polynomial" s_is_polynomial ["value"] d_is_polynomial) (H__law_raised : KF P w K mg base 8 "_law_raised" s__law_raised ["word", "one", "other"] d__law_raised) {f : Addr} {fd : FuncData} (F : Fun K "_law_refusals_right" "_law_refusals_right" s__law_refusals_right f fd) : FnG P w K mg base 9 f fd ["pot", "one"] (spD K mg d__law_refusals_right) := by
  obtain ⟨f__law_odd, fd__law_odd, ⟨F__law_odd, C__law_odd⟩⟩ := H__law_odd
  obtain ⟨f__law_draw, fd__law_draw, ⟨F__law_draw, C__law_draw⟩⟩ := H__law_draw
  obtain ⟨f_is_polynomial, fd_is_polynomial, ⟨F_is_polynomial, C_is_polynomial⟩⟩ := H_is_polynomial
  obtain ⟨f__law_raised, fd__law_raised, ⟨F__law_raised, C__law_raised⟩⟩ := H__law_raised
  refine fn_ok (k := 8) (m := 6) (body := b__law_refusals_right) F sc__law_refusals_right rfl fun cdv A outer s H E hr => ?_
  have hu : (A.deeper (envOfC "_law_refusals_right" (defScope s__law_refusals_right) s.heap.objs.size f cdv)).units + 64 < cLine := by have := hr.rm.un; omega
  exact (dss_cons (ds_set (i := 2) sc__law_refusals_right.nd rfl (by first | exact Or.inl rfl | exact Or.inr rfl) (de_call0 C__law_odd (hr.mono (by decide)) (takes_of rfl rfl rfl rfl) (by rfl)))
    (dss_cons (by first | exact (ds_par2 (i := 3) (j := 4) rfl sc__law_refusals_right.nd rfl rfl (by decide) rfl rfl (da_cons (de_ix ix_any op2_ix (de_v 2) (de_callio (i := 0) C__law_draw (hr.mono (by decide)) (takes_of rfl rfl rfl rfl) (by rfl) (pv 0) (dae_cons (de_cb call_len opn_len rfl M.n_len boot_len (da_cons (de_v 2) da_nil)) dae_nil))) (da_cons (de_ix ix_any op2_ix (de_v 2) (de_callio (i := 0) C__law_draw (hr.mono (by decide)) (takes_of rfl rfl rfl rfl) (by rfl) (pv 0) (dae_cons (de_cb call_len opn_len rfl M.n_len boot_len (da_cons (de_v 2) da_nil)) dae_nil))) da_nil)) rfl) | exact (ds_parT (n := 2) (da_cons (de_ix ix_any op2_ix (de_v 2) (de_callio (i := 0) C__law_draw (hr.mono (by decide)) (takes_of rfl rfl rfl rfl) (by rfl) (pv 0) (dae_cons (de_cb call_len opn_len rfl M.n_len boot_len (da_cons (de_v 2) da_nil)) dae_nil))) (da_cons (de_ix ix_any op2_ix (de_v 2) (de_callio (i := 0) C__law_draw (hr.mono (by decide)) (takes_of rfl rfl rfl rfl) (by rfl) (pv 0) (dae_cons (de_cb call_len opn_len rfl M.n_len boot_len (da_cons (de_v 2) da_nil)) dae_nil))) da_nil)) (pgs_names_cons (pg_name (i := 3) sc__law_refusals_right.nd rfl (by first | exact Or.inl rfl | exact Or.inr rfl)) (pgs_names_cons (pg_name (i := 4) sc__law_refusals_right.nd rfl (by first | exact Or.inl rfl | exact Or.inr rfl)) pgs_names_nil (by decide) (fun h1 h2 => pgs_cons h1 h2)) (by decide) (fun h1 h2 => pgs_cons h1 h2)) (fun h => pg_tup rfl h) rfl (by decide)))
    (dss_cons (ds_if (dt_cmp op_isnot_bl op2_isnot (de_call C_is_polynomial (hr.mono (by decide)) (takes_of rfl rfl rfl rfl) (by rfl) (dae_cons (de_v 3) dae_nil)) de_bl (nomark _)) (dss_one (ds_ret de_bl)) dss_nil)
    (dss_cons (ds_set (i := 5) sc__law_refusals_right.nd rfl (by first | exact Or.inl rfl | exact Or.inr rfl) (de_lst (dae_cons de_str (dae_cons (de_cb (callr_repr hr.gd hu) opn_repr rfl M.n_repr boot_repr (da_cons (de_v 3) da_nil)) (dae_cons de_bl dae_nil)))))
    (dss_cons (ds_for (passes_of rfl) rfl (di_e (de_lst (dae_cons de_str (dae_cons de_str (dae_cons de_str dae_nil))))) (dgt_n (dg_nm (pg_name (i := 6) sc__law_refusals_right.nd rfl (by first | exact Or.inl rfl | exact Or.inr rfl))))
    (dss_one (ds_if (dt_w (dw_or (dt_cmp (op_neD hu) op2_ne (de_call C__law_raised (hr.mono (by decide)) (takes_of rfl rfl rfl rfl) (by rfl) (dae_cons (de_v 6) (dae_cons (de_v 3) (dae_cons (de_v 4) dae_nil)))) (de_v 5) (nomark _)) (dw_or1 (dt_cmp (op_neD hu) op2_ne (de_call C__law_raised (hr.mono (by decide)) (takes_of rfl rfl rfl rfl) (by rfl) (dae_cons (de_v 6) (dae_cons (de_v 1) (dae_cons (de_v 3) dae_nil)))) (de_v 5) (nomark _))))) (dss_one (ds_ret de_bl)) dss_nil)))
    (dss_cons (ds_if (dt_w (dw_or (dt_cmp (op_neD hu) op2_ne (de_call C__law_raised (hr.mono (by decide)) (takes_of rfl rfl rfl rfl) (by rfl) (dae_cons de_str (dae_cons (de_v 3) (dae_cons de_non dae_nil)))) (de_v 5) (nomark _)) (dw_or1 (dt_cmp (op_neD hu) op2_ne (de_call C__law_raised (hr.mono (by decide)) (takes_of rfl rfl rfl rfl) (by rfl) (dae_cons de_str (dae_cons (de_v 3) (dae_cons de_non dae_nil)))) (de_v 5) (nomark _))))) (dss_one (ds_ret de_bl)) dss_nil)
    (dss_cons (ds_set (i := 7) sc__law_refusals_right.nd rfl (by first | exact Or.inl rfl | exact Or.inr rfl) (de_ix ix_any op2_ix (de_lst (dae_cons (de_tup (dae_cons de_int (dae_cons de_int dae_nil))) (dae_cons (de_lst (dae_cons de_int (dae_cons de_int dae_nil))) (dae_cons (de_tup (dae_cons de_int (dae_cons de_int dae_nil))) (dae_cons de_int (dae_cons de_non (dae_cons (de_tup (dae_cons de_bl (dae_cons de_int dae_nil))) dae_nil))))))) (de_callio (i := 0) C__law_draw (hr.mono (by decide)) (takes_of rfl rfl rfl rfl) (by rfl) (pv 0) (dae_cons de_int dae_nil))))
    (dss_one (ds_ret (de_cmp (op_eqD hu) op2_eq (de_call C__law_raised (hr.mono (by decide)) (takes_of rfl rfl rfl rfl) (by rfl) (dae_cons de_str (dae_cons (de_v 1) (dae_cons (de_v 7) dae_nil)))) (de_lst (dae_cons de_str (dae_cons (de_cb (callr_repr hr.gd hu) opn_repr rfl M.n_repr boot_repr (da_cons (de_v 7) da_nil)) (dae_cons de_bl dae_nil)))) (nomark _)))))))))))
theorem kf__law_refusals_right (M : Gs K mg fI fJ c_PaceError c_LimitError c_InvalidRatio c_InvalidPolynomial c_TooMany) (H__law_odd : KF P w K mg base 3 "_law_odd" s__law_odd [] d__law_odd) (H__law_draw : KF P w K mg base 3 "_law_draw" s__law_draw ["pot", "many"] d__law_draw) (H_is_polynomial : KF P w K mg base 4 "is_polynomial" s_is_polynomial ["value"] d_is_polynomial) (H__law_raised : KF P w K mg base 8 "_law_raised" s__law_raised ["word", "one", "other"] d__law_raised) (R : RF K mg "_law_refusals_right" s__law_refusals_right ["pot", "one"]) : KF P w K mg base 9 "_law_refusals_right" s__law_refusals_right ["pot", "one"] d__law_refusals_right := by
  obtain ⟨f, fd, F, gm, kp, bi⟩ := R
  exact ⟨f, fd, F, ⟨ok__law_refusals_right M H__law_odd H__law_draw H_is_polynomial H__law_raised F, gm, kp, bi⟩⟩
noncomputable def b_law : Gm → SR := (sSeq (sFor (itR (aConsE (eC (.int 2)) aNilE)) (tgN (.nm 1))
  (sSeq (sSet 2 (eCall d__law_pot (aConsE (eV 0) (aConsE (eV 1) aNilE))))
  (sSeq (sPar [3, 4] (aCons (eCallIo d__law_poly 2 (aConsE (eCallIo d__law_draw 2 (aConsE (eC (.int 10)) aNilE)) aNilE)) (aCons (eCallIo d__law_poly 2 (aConsE (eCallIo d__law_draw 2 (aConsE (eC (.int 9)) aNilE)) aNilE)) aNil)))
  (sSeq (sPar [5, 6] (aCons (eOp2 fSub (eCallIo d__law_draw 2 (aConsE (eC (.int 41)) aNilE)) (eC (.int 20))) (aCons (eOp2 fAdd (eC (.int 1)) (eCallIo d__law_draw 2 (aConsE (eC (.int 7)) aNilE))) aNil)))
  (sSeq (sWhile (tOf (eOp2 fNe (eComp [8] (itR (aConsE (eC (.int 2)) (aConsE (eOp2 fAdd (eV 6) (eC (.int 1))) aNilE))) (.nm 8) (tOf (eCh fEq fEq (eOp2 fMod (eV 5) (eV 8)) (eC (.int 0)) (eOp2 fMod (eV 6) (eV 8)))) (eV 8)) (eLst aNilE))) (sSet 5 (eOp2 fAdd (eV 5) (eC (.int 1)))) 1000)
  (sSeq (sIf (tNo (tOf (eCall d__law_two_right (aConsE (eV 3) (aConsE (eV 4) (aConsE (eV 5) (aConsE (eV 6) aNilE))))))) (sRet (eC (.bool false))) sNext)
  (sSeq (sIf (tOr' (tNo (tOf (eCall d__law_two_right (aConsE (eV 4) (aConsE (eV 3) (aConsE (eV 5) (aConsE (eV 6) aNilE))))))) (tNo (tOf (eCall d__law_one_right (aConsE (eV 3) aNilE))))) (sRet (eC (.bool false))) sNext)
  (sSeq (sSet 7 (eCallIo d__law_poly 2 (aConsE (eOp2 fAdd (eC (.int 7)) (eCallIo d__law_draw 2 (aConsE (eC (.int 2)) aNilE))) aNilE)))
  (sSeq (sIf (tNo (tOf (eCall d__law_two_right (aConsE (eV 7) (aConsE (eCallIo d__law_poly 2 (aConsE (eC (.int 7)) aNilE)) (aConsE (eC (.int 1)) (aConsE (eC (.int 2)) aNilE))))))) (sRet (eC (.bool false))) sNext)
  (sIf (tNo (tOf (eCallIo d__law_refusals_right 2 (aConsE (eV 3) aNilE)))) (sRet (eC (.bool false))) sNext))))))))))
  (sRet (eC (.bool true))))
noncomputable def d_law : List B → FR := fnD 1 8 b_law
theorem ok_law (M : Gs K mg fI fJ c_PaceError c_LimitError c_InvalidRatio c_InvalidPolynomial c_TooMany) (H__law_pot : KF P w K mg base 3 "_law_pot" s__law_pot ["script", "k"] d__law_pot) (H__law_poly : KF P w K mg base 4 "_law_poly" s__law_poly ["pot", "long"] d__law_poly) (H__law_draw : KF P w K mg base 3 "_law_draw" s__law_draw ["pot", "many"] d__law_draw) (H__law_two_right : KF P w K mg base 9 "_law_two_right" s__law_two_right ["one", "other", "number", "under"] d__law_two_right) (H__law_one_right : KF P w K mg base 7 "_law_one_right" s__law_one_right ["one"] d__law_one_right) (H__law_refusals_right : KF P w K mg base 9 "_law_refusals_right" s__law_refusals_right ["pot", "one"] d__law_refusals_right) {f : Addr} {fd : FuncData} (F : Fun K "law" "law" s_law f fd) : FnG P w K mg base 10 f fd ["script"] (spD K mg d_law) := by
  obtain ⟨f__law_pot, fd__law_pot, ⟨F__law_pot, C__law_pot⟩⟩ := H__law_pot
  obtain ⟨f__law_poly, fd__law_poly, ⟨F__law_poly, C__law_poly⟩⟩ := H__law_poly
  obtain ⟨f__law_draw, fd__law_draw, ⟨F__law_draw, C__law_draw⟩⟩ := H__law_draw
  obtain ⟨f__law_two_right, fd__law_two_right, ⟨F__law_two_right, C__law_two_right⟩⟩ := H__law_two_right
  obtain ⟨f__law_one_right, fd__law_one_right, ⟨F__law_one_right, C__law_one_right⟩⟩ := H__law_one_right
  obtain ⟨f__law_refusals_right, fd__law_refusals_right, ⟨F__law_refusals_right, C__law_refusals_right⟩⟩ := H__law_refusals_right
  refine fn_ok (k := 9) (m := 8) (body := b_law) F sc_law rfl fun cdv A outer s H E hr => ?_
  have hu : (A.deeper (envOfC "law" (defScope s_law) s.heap.objs.size f cdv)).units + 64 < cLine := by have := hr.rm.un; omega
  exact (dss_cons (ds_for (passes_of rfl) rfl (di_range1 (dae_cons de_int dae_nil) (fun h => pi_range1 rfl M.n_range h) len1) (dgt_n (dg_nm (pg_name (i := 1) sc_law.nd rfl (by first | exact Or.inl rfl | exact Or.inr rfl))))
    (dss_cons (ds_set (i := 2) sc_law.nd rfl (by first | exact Or.inl rfl | exact Or.inr rfl) (de_call C__law_pot (hr.mono (by decide)) (takes_of rfl rfl rfl rfl) (by rfl) (dae_cons (de_v 0) (dae_cons (de_v 1) dae_nil))))
    (dss_cons (by first | exact (ds_par2 (i := 3) (j := 4) rfl sc_law.nd rfl rfl (by decide) rfl rfl (da_cons (de_callio (i := 2) C__law_poly (hr.mono (by decide)) (takes_of rfl rfl rfl rfl) (by rfl) (pv 2) (dae_cons (de_callio (i := 2) C__law_draw (hr.mono (by decide)) (takes_of rfl rfl rfl rfl) (by rfl) (pv 2) (dae_cons de_int dae_nil)) dae_nil)) (da_cons (de_callio (i := 2) C__law_poly (hr.mono (by decide)) (takes_of rfl rfl rfl rfl) (by rfl) (pv 2) (dae_cons (de_callio (i := 2) C__law_draw (hr.mono (by decide)) (takes_of rfl rfl rfl rfl) (by rfl) (pv 2) (dae_cons de_int dae_nil)) dae_nil)) da_nil)) rfl) | exact (ds_parT (n := 2) (da_cons (de_callio (i := 2) C__law_poly (hr.mono (by decide)) (takes_of rfl rfl rfl rfl) (by rfl) (pv 2) (dae_cons (de_callio (i := 2) C__law_draw (hr.mono (by decide)) (takes_of rfl rfl rfl rfl) (by rfl) (pv 2) (dae_cons de_int dae_nil)) dae_nil)) (da_cons (de_callio (i := 2) C__law_poly (hr.mono (by decide)) (takes_of rfl rfl rfl rfl) (by rfl) (pv 2) (dae_cons (de_callio (i := 2) C__law_draw (hr.mono (by decide)) (takes_of rfl rfl rfl rfl) (by rfl) (pv 2) (dae_cons de_int dae_nil)) dae_nil)) da_nil)) (pgs_names_cons (pg_name (i := 3) sc_law.nd rfl (by first | exact Or.inl rfl | exact Or.inr rfl)) (pgs_names_cons (pg_name (i := 4) sc_law.nd rfl (by first | exact Or.inl rfl | exact Or.inr rfl)) pgs_names_nil (by decide) (fun h1 h2 => pgs_cons h1 h2)) (by decide) (fun h1 h2 => pgs_cons h1 h2)) (fun h => pg_tup rfl h) rfl (by decide)))
    (dss_cons (by first | exact (ds_par2 (i := 5) (j := 6) rfl sc_law.nd rfl rfl (by decide) rfl rfl (da_cons (de_bin op_subA op2_sub (de_callio (i := 2) C__law_draw (hr.mono (by decide)) (takes_of rfl rfl rfl rfl) (by rfl) (pv 2) (dae_cons de_int dae_nil)) de_int) (da_cons (de_bin op_addA op2_add de_int (de_callio (i := 2) C__law_draw (hr.mono (by decide)) (takes_of rfl rfl rfl rfl) (by rfl) (pv 2) (dae_cons de_int dae_nil))) da_nil)) rfl) | exact (ds_parT (n := 2) (da_cons (de_bin op_subA op2_sub (de_callio (i := 2) C__law_draw (hr.mono (by decide)) (takes_of rfl rfl rfl rfl) (by rfl) (pv 2) (dae_cons de_int dae_nil)) de_int) (da_cons (de_bin op_addA op2_add de_int (de_callio (i := 2) C__law_draw (hr.mono (by decide)) (takes_of rfl rfl rfl rfl) (by rfl) (pv 2) (dae_cons de_int dae_nil))) da_nil)) (pgs_names_cons (pg_name (i := 5) sc_law.nd rfl (by first | exact Or.inl rfl | exact Or.inr rfl)) (pgs_names_cons (pg_name (i := 6) sc_law.nd rfl (by first | exact Or.inl rfl | exact Or.inr rfl)) pgs_names_nil (by decide) (fun h1 h2 => pgs_cons h1 h2)) (by decide) (fun h1 h2 => pgs_cons h1 h2)) (fun h => pg_tup rfl h) rfl (by decide)))
    (dss_cons (ds_while (n := 1000) (passes_of rfl) (dt_cmp (op_neD hu) op2_ne (de_comp (own := [("part", 8)]) rfl sc_law.nd (di_range2 (dae_cons de_int (dae_cons (de_bin op_addA op2_add (de_v 6) de_int) dae_nil)) (fun h => pi_range2 rfl M.n_range h) len2) (blkOk_by (by first | rfl | decide +kernel)) (fun s H C cl fp => (dg_nm (pg_name (i := 8) sc_law.nd rfl (by first | exact Or.inl rfl | exact Or.inr rfl)))) (fun s H C cl fp => (dts_one (dt_chain (op_eqD hu) op2_eq (op_eqD hu) op2_eq (de_bin op_modN op2_mod (de_v 5) (de_v 8)) de_int (de_bin op_modN op2_mod (de_v 6) (de_v 8))))) (fun s H C cl fp => (de_v 8))) (de_lst dae_nil) (nomark _)) (dss_one (ds_set (i := 5) sc_law.nd rfl (by first | exact Or.inl rfl | exact Or.inr rfl) (de_bin op_addA op2_add (de_v 5) de_int))))
    (dss_cons (ds_if (dt_not (dt_val (de_call C__law_two_right (hr.mono (by decide)) (takes_of rfl rfl rfl rfl) (by rfl) (dae_cons (de_v 3) (dae_cons (de_v 4) (dae_cons (de_v 5) (dae_cons (de_v 6) dae_nil))))))) (dss_one (ds_ret de_bl)) dss_nil)
    (dss_cons (ds_if (dt_w (dw_or (dt_not (dt_val (de_call C__law_two_right (hr.mono (by decide)) (takes_of rfl rfl rfl rfl) (by rfl) (dae_cons (de_v 4) (dae_cons (de_v 3) (dae_cons (de_v 5) (dae_cons (de_v 6) dae_nil))))))) (dw_or1 (dt_not (dt_val (de_call C__law_one_right (hr.mono (by decide)) (takes_of rfl rfl rfl rfl) (by rfl) (dae_cons (de_v 3) dae_nil))))))) (dss_one (ds_ret de_bl)) dss_nil)
    (dss_cons (ds_set (i := 7) sc_law.nd rfl (by first | exact Or.inl rfl | exact Or.inr rfl) (de_callio (i := 2) C__law_poly (hr.mono (by decide)) (takes_of rfl rfl rfl rfl) (by rfl) (pv 2) (dae_cons (de_bin op_addA op2_add de_int (de_callio (i := 2) C__law_draw (hr.mono (by decide)) (takes_of rfl rfl rfl rfl) (by rfl) (pv 2) (dae_cons de_int dae_nil))) dae_nil)))
    (dss_cons (ds_if (dt_not (dt_val (de_call C__law_two_right (hr.mono (by decide)) (takes_of rfl rfl rfl rfl) (by rfl) (dae_cons (de_v 7) (dae_cons (de_callio (i := 2) C__law_poly (hr.mono (by decide)) (takes_of rfl rfl rfl rfl) (by rfl) (pv 2) (dae_cons de_int dae_nil)) (dae_cons de_int (dae_cons de_int dae_nil))))))) (dss_one (ds_ret de_bl)) dss_nil)
    (dss_one (ds_if (dt_not (dt_val (de_callio (i := 2) C__law_refusals_right (hr.mono (by decide)) (takes_of rfl rfl rfl rfl) (by rfl) (pv 2) (dae_cons (de_v 3) dae_nil)))) (dss_one (ds_ret de_bl)) dss_nil)))))))))))
    (dss_one (ds_ret de_bl)))
theorem kf_law (M : Gs K mg fI fJ c_PaceError c_LimitError c_InvalidRatio c_InvalidPolynomial c_TooMany) (H__law_pot : KF P w K mg base 3 "_law_pot" s__law_pot ["script", "k"] d__law_pot) (H__law_poly : KF P w K mg base 4 "_law_poly" s__law_poly ["pot", "long"] d__law_poly) (H__law_draw : KF P w K mg base 3 "_law_draw" s__law_draw ["pot", "many"] d__law_draw) (H__law_two_right : KF P w K mg base 9 "_law_two_right" s__law_two_right ["one", "other", "number", "under"] d__law_two_right) (H__law_one_right : KF P w K mg base 7 "_law_one_right" s__law_one_right ["one"] d__law_one_right) (H__law_refusals_right : KF P w K mg base 9 "_law_refusals_right" s__law_refusals_right ["pot", "one"] d__law_refusals_right) (R : RF K mg "law" s_law ["script"]) : KF P w K mg base 10 "law" s_law ["script"] d_law := by
  obtain ⟨f, fd, F, gm, kp, bi⟩ := R
  exact ⟨f, fd, F, ⟨ok_law M H__law_pot H__law_poly H__law_draw H__law_two_right H__law_one_right H__law_refusals_right F, gm, kp, bi⟩⟩
end
/-! ### what the top has written -/
theorem rf_mk {K : PySem.W.Frag} {h : Heap} {mg : Str → Option Value} {x : Str} {st : Stmt} {ps : List Str} {f : Addr} {od an : Option Addr} {sl : Array (Option Value)} {oc kV dc pm cd ct : Value} (X : K.In h) (G : h.Ns mainGlobals mg) (a : PySem.W.nsIn K mainGlobals x = some (some (.ref f))) (l : K.lookup f = some ⟨oc, od, .func (PySem.W.fnOf x x (defArgs st) (defBody st) (defScope st) .none kV dc pm an cd ct), sl⟩) (c : PySem.W.codeIn K cd x = true) (k : PySem.W.keepIn K (.ref f) = true)
    (b : ∀ (kV doc pm : Value) (an : Option Addr) (cdv ct : Value) (us : List Value), us.length = ps.length → bindArgs (PySem.W.fnOf x x (defArgs st) (defBody st) (defScope st) .none kV doc pm an cdv ct) ⟨us, []⟩ = pure (ps.zip us)) : RF K mg x st ps :=
  ⟨f, _, fun_mk (st := st) l c k, PySem.W.mg_of X G a, k, (fun_mk (st := st) l c k).binds b⟩
theorem gs_mk {K : PySem.W.Frag} {h : Heap} {mg : Str → Option Value} (X : K.In h) (G : h.Ns mainGlobals mg)
    {fI fJ c_PaceError c_LimitError c_InvalidRatio c_InvalidPolynomial c_TooMany : Addr}
    (a_PaceError : PySem.W.nsIn K mainGlobals "PaceError" = some (some (.ref c_PaceError)))
    (a_LimitError : PySem.W.nsIn K mainGlobals "LimitError" = some (some (.ref c_LimitError)))
    (a_InvalidRatio : PySem.W.nsIn K mainGlobals "InvalidRatio" = some (some (.ref c_InvalidRatio)))
    (a_InvalidPolynomial : PySem.W.nsIn K mainGlobals "InvalidPolynomial" = some (some (.ref c_InvalidPolynomial)))
    (a_TooMany : PySem.W.nsIn K mainGlobals "TooMany" = some (some (.ref c_TooMany)))
    (n_abs : PySem.W.nsIn K mainGlobals "abs" = some none)
    (n_all : PySem.W.nsIn K mainGlobals "all" = some none)
    (n_bool : PySem.W.nsIn K mainGlobals "bool" = some none)
    (n_divmod : PySem.W.nsIn K mainGlobals "divmod" = some none)
    (n_enumerate : PySem.W.nsIn K mainGlobals "enumerate" = some none)
    (n_int : PySem.W.nsIn K mainGlobals "int" = some none)
    (n_isinstance : PySem.W.nsIn K mainGlobals "isinstance" = some none)
    (n_len : PySem.W.nsIn K mainGlobals "len" = some none)
    (n_list : PySem.W.nsIn K mainGlobals "list" = some none)
    (n_max : PySem.W.nsIn K mainGlobals "max" = some none)
    (n_range : PySem.W.nsIn K mainGlobals "range" = some none)
    (n_repr : PySem.W.nsIn K mainGlobals "repr" = some none)
    (n_reversed : PySem.W.nsIn K mainGlobals "reversed" = some none)
    (n_sum : PySem.W.nsIn K mainGlobals "sum" = some none)
    (n_tuple : PySem.W.nsIn K mainGlobals "tuple" = some none)
    (n_zip : PySem.W.nsIn K mainGlobals "zip" = some none)
    (m_gcd : PySem.W.nsIn K mainGlobals "gcd" = some (some (.builtin "math.gcd")))
    {t_MOST_DEGREE : Tok}
    (kk_MOST_DEGREE : PySem.W.nsIn K mainGlobals "MOST_DEGREE" = some (some (.int 12 t_MOST_DEGREE)))
    {t_MOST_SIZE : Tok}
    (kk_MOST_SIZE : PySem.W.nsIn K mainGlobals "MOST_SIZE" = some (some (.int 1000000 t_MOST_SIZE)))
    {nm_InvalidRatio q_InvalidRatio : Str} {N_InvalidRatio : Addr} {bs_InvalidRatio sub_InvalidRatio : List Value} {sn_InvalidRatio : List Str} {ab_InvalidRatio : Bool} {col_InvalidRatio : Option Bool} {dd_InvalidRatio : Option Addr} {m0_InvalidRatio m1_InvalidRatio m2_InvalidRatio m3_InvalidRatio m5_InvalidRatio : Option Value}
    (x_InvalidRatio : K.lookup c_InvalidRatio = some (excClassObj nm_InvalidRatio q_InvalidRatio c_InvalidRatio N_InvalidRatio bs_InvalidRatio [.ref c_PaceError, .type "ValueError", .type "Exception", .type "BaseException", .type "object"] true sn_InvalidRatio sub_InvalidRatio ab_InvalidRatio col_InvalidRatio dd_InvalidRatio m0_InvalidRatio m1_InvalidRatio m2_InvalidRatio m3_InvalidRatio m5_InvalidRatio "ValueError.__new__"))
    (sa_InvalidRatio : PySem.W.findIn K (.ref c_InvalidRatio) "__setattr__" = some (some (.builtin "object.__setattr__")))
    (nv_InvalidRatio : PySem.W.findIn K (.ref c_InvalidRatio) "value" = some none)
    (in_InvalidRatio : PySem.W.findIn K (.ref c_InvalidRatio) "__init__" = some (some (.ref fI)))
    {nm_InvalidPolynomial q_InvalidPolynomial : Str} {N_InvalidPolynomial : Addr} {bs_InvalidPolynomial sub_InvalidPolynomial : List Value} {sn_InvalidPolynomial : List Str} {ab_InvalidPolynomial : Bool} {col_InvalidPolynomial : Option Bool} {dd_InvalidPolynomial : Option Addr} {m0_InvalidPolynomial m1_InvalidPolynomial m2_InvalidPolynomial m3_InvalidPolynomial m5_InvalidPolynomial : Option Value}
    (x_InvalidPolynomial : K.lookup c_InvalidPolynomial = some (excClassObj nm_InvalidPolynomial q_InvalidPolynomial c_InvalidPolynomial N_InvalidPolynomial bs_InvalidPolynomial [.ref c_PaceError, .type "ValueError", .type "Exception", .type "BaseException", .type "object"] true sn_InvalidPolynomial sub_InvalidPolynomial ab_InvalidPolynomial col_InvalidPolynomial dd_InvalidPolynomial m0_InvalidPolynomial m1_InvalidPolynomial m2_InvalidPolynomial m3_InvalidPolynomial m5_InvalidPolynomial "ValueError.__new__"))
    (sa_InvalidPolynomial : PySem.W.findIn K (.ref c_InvalidPolynomial) "__setattr__" = some (some (.builtin "object.__setattr__")))
    (nv_InvalidPolynomial : PySem.W.findIn K (.ref c_InvalidPolynomial) "value" = some none)
    (in_InvalidPolynomial : PySem.W.findIn K (.ref c_InvalidPolynomial) "__init__" = some (some (.ref fI)))
    {nm_TooMany q_TooMany : Str} {N_TooMany : Addr} {bs_TooMany sub_TooMany : List Value} {sn_TooMany : List Str} {ab_TooMany : Bool} {col_TooMany : Option Bool} {dd_TooMany : Option Addr} {m0_TooMany m1_TooMany m2_TooMany m3_TooMany m5_TooMany : Option Value}
    (x_TooMany : K.lookup c_TooMany = some (excClassObj nm_TooMany q_TooMany c_TooMany N_TooMany bs_TooMany [.ref c_LimitError, .type "ArithmeticError", .type "Exception", .type "BaseException", .type "object"] true sn_TooMany sub_TooMany ab_TooMany col_TooMany dd_TooMany m0_TooMany m1_TooMany m2_TooMany m3_TooMany m5_TooMany "ArithmeticError.__new__"))
    (sa_TooMany : PySem.W.findIn K (.ref c_TooMany) "__setattr__" = some (some (.builtin "object.__setattr__")))
    (nw_TooMany : PySem.W.findIn K (.ref c_TooMany) "what" = some none)
    (nl_TooMany : PySem.W.findIn K (.ref c_TooMany) "limit" = some none)
    (in_TooMany : PySem.W.findIn K (.ref c_TooMany) "__init__" = some (some (.ref fJ)))
    (ga_InvalidRatio : PySem.W.findIn K (.ref c_InvalidRatio) "__getattribute__" = some (some (.builtin "BaseException.__getattribute__")))
    (gg_InvalidRatio : PySem.W.findIn K (.ref c_InvalidRatio) "__getattr__" = some none)
    (k_InvalidRatio : PySem.W.keepIn K (.ref c_InvalidRatio) = true)
    (e_InvalidRatio : PySem.W.subIn K (.ref c_InvalidRatio) (.type "BaseException") = some true)
    (t_InvalidRatio : PySem.W.typeIn K (.ref c_InvalidRatio) = some (.type "type"))
    (hd_InvalidRatio : PySem.W.hasDictIn K c_InvalidRatio = true)
    (ga_InvalidPolynomial : PySem.W.findIn K (.ref c_InvalidPolynomial) "__getattribute__" = some (some (.builtin "BaseException.__getattribute__")))
    (gg_InvalidPolynomial : PySem.W.findIn K (.ref c_InvalidPolynomial) "__getattr__" = some none)
    (k_InvalidPolynomial : PySem.W.keepIn K (.ref c_InvalidPolynomial) = true)
    (e_InvalidPolynomial : PySem.W.subIn K (.ref c_InvalidPolynomial) (.type "BaseException") = some true)
    (t_InvalidPolynomial : PySem.W.typeIn K (.ref c_InvalidPolynomial) = some (.type "type"))
    (hd_InvalidPolynomial : PySem.W.hasDictIn K c_InvalidPolynomial = true)
    (ga_TooMany : PySem.W.findIn K (.ref c_TooMany) "__getattribute__" = some (some (.builtin "BaseException.__getattribute__")))
    (gg_TooMany : PySem.W.findIn K (.ref c_TooMany) "__getattr__" = some none)
    (k_TooMany : PySem.W.keepIn K (.ref c_TooMany) = true)
    (e_TooMany : PySem.W.subIn K (.ref c_TooMany) (.type "BaseException") = some true)
    (t_TooMany : PySem.W.typeIn K (.ref c_TooMany) = some (.type "type"))
    (hd_TooMany : PySem.W.hasDictIn K c_TooMany = true)
    {odI anI odT : Option Addr} {slI slT : Array (Option Value)} {ocI dcI pmI cdI ctI ocT : Value} {tD : Addr} {nT : Nat}
    (tI : PySem.W.typeIn K (.ref fI) = some (.type "function"))
    (lI : K.lookup fI = some ⟨ocI, odI, .func (PySem.W.fnOf "__init__" "PaceError.__init__" (PySem.LowV.iA ⟨5, 17, 5, 21⟩ ⟨5, 23, 5, 28⟩ ⟨5, 29, 5, 33⟩) (PySem.LowV.iB ⟨6, 8, 6, 12⟩ ⟨6, 8, 6, 18⟩ ⟨6, 21, 6, 26⟩ ⟨6, 8, 6, 26⟩) PySem.LowV.iS (.ref tD) .none dcI pmI anI cdI ctI), slI⟩)
    (cI : PySem.W.codeIn K cdI "PaceError.__init__" = true)
    (lT : K.lookup tD = some ⟨ocT, odT, .seq #[Value.none] nT, slT⟩)
    {odJ anJ : Option Addr} {slJ : Array (Option Value)} {ocJ dcJ pmJ cdJ ctJ : Value}
    (tJ : PySem.W.typeIn K (.ref fJ) = some (.type "function"))
    (lJ : K.lookup fJ = some ⟨ocJ, odJ, .func (PySem.W.fnOf "__init__" "TooMany.__init__" (PySem.Low2.iA ⟨15, 17, 15, 21⟩ ⟨15, 23, 15, 27⟩ ⟨15, 29, 15, 34⟩) (PySem.Low2.iB ⟨16, 8, 16, 12⟩ ⟨16, 8, 16, 17⟩ ⟨16, 20, 16, 24⟩ ⟨16, 8, 16, 24⟩ ⟨17, 8, 17, 12⟩ ⟨17, 8, 17, 18⟩ ⟨17, 21, 17, 26⟩ ⟨17, 8, 17, 26⟩) PySem.Low2.iS .none .none dcJ pmJ anJ cdJ ctJ), slJ⟩)
    (cJ : PySem.W.codeIn K cdJ "TooMany.__init__" = true)
    (ic_InvalidPolynomial : (PySem.W.clsIn K c_InvalidPolynomial).isSome = true)
    (ha_InvalidPolynomial : PySem.W.findIn K (.ref c_InvalidPolynomial) "__class__" = some (some (.builtin "object.__class__")))
    (hm_InvalidPolynomial : PySem.W.mroIn K c_InvalidPolynomial (.type "object") = some true)
    (ic_InvalidRatio : (PySem.W.clsIn K c_InvalidRatio).isSome = true)
    (ha_InvalidRatio : PySem.W.findIn K (.ref c_InvalidRatio) "__class__" = some (some (.builtin "object.__class__")))
    (hm_InvalidRatio : PySem.W.mroIn K c_InvalidRatio (.type "object") = some true)
    (ic_TooMany : (PySem.W.clsIn K c_TooMany).isSome = true)
    (ha_TooMany : PySem.W.findIn K (.ref c_TooMany) "__class__" = some (some (.builtin "object.__class__")))
    (hm_TooMany : PySem.W.mroIn K c_TooMany (.type "object") = some true)
    (hn : PySem.W.specialIn K (.builtin "object.__class__") "__get__" = some (some (.builtin "getset_descriptor.__get__")))
    (ht : PySem.W.takesIn K (.builtin "object.__class__") = some true)
    (i_InvalidPolynomial_PaceError : PySem.W.kitOne K (.ref c_InvalidPolynomial) (.ref c_PaceError) = some true)
    (i_InvalidRatio_PaceError : PySem.W.kitOne K (.ref c_InvalidRatio) (.ref c_PaceError) = some true)
    (s_TooMany_InvalidPolynomial : PySem.W.exmOne K (.ref c_TooMany) (.ref c_InvalidPolynomial) = some false)
    (s_InvalidRatio_InvalidPolynomial : PySem.W.exmOne K (.ref c_InvalidRatio) (.ref c_InvalidPolynomial) = some false)
    (s_InvalidPolynomial_InvalidPolynomial : PySem.W.exmOne K (.ref c_InvalidPolynomial) (.ref c_InvalidPolynomial) = some true)
    (s_TooMany_InvalidRatio : PySem.W.exmOne K (.ref c_TooMany) (.ref c_InvalidRatio) = some false)
    (s_InvalidRatio_InvalidRatio : PySem.W.exmOne K (.ref c_InvalidRatio) (.ref c_InvalidRatio) = some true)
    (s_InvalidPolynomial_InvalidRatio : PySem.W.exmOne K (.ref c_InvalidPolynomial) (.ref c_InvalidRatio) = some false)
    (s_TooMany_TooMany : PySem.W.exmOne K (.ref c_TooMany) (.ref c_TooMany) = some true)
    (s_InvalidRatio_TooMany : PySem.W.exmOne K (.ref c_InvalidRatio) (.ref c_TooMany) = some false)
    (s_InvalidPolynomial_TooMany : PySem.W.exmOne K (.ref c_InvalidPolynomial) (.ref c_TooMany) = some false)
    : Gs K mg fI fJ c_PaceError c_LimitError c_InvalidRatio c_InvalidPolynomial c_TooMany :=
  {
    n_abs := PySem.W.mg_none_of X G n_abs
    n_all := PySem.W.mg_none_of X G n_all
    n_bool := PySem.W.mg_none_of X G n_bool
    n_divmod := PySem.W.mg_none_of X G n_divmod
    n_enumerate := PySem.W.mg_none_of X G n_enumerate
    n_int := PySem.W.mg_none_of X G n_int
    n_isinstance := PySem.W.mg_none_of X G n_isinstance
    n_len := PySem.W.mg_none_of X G n_len
    n_list := PySem.W.mg_none_of X G n_list
    n_max := PySem.W.mg_none_of X G n_max
    n_range := PySem.W.mg_none_of X G n_range
    n_repr := PySem.W.mg_none_of X G n_repr
    n_reversed := PySem.W.mg_none_of X G n_reversed
    n_sum := PySem.W.mg_none_of X G n_sum
    n_tuple := PySem.W.mg_none_of X G n_tuple
    n_zip := PySem.W.mg_none_of X G n_zip
    m_gcd := PySem.W.mg_of X G m_gcd
    k_MOST_DEGREE := ⟨_, PySem.W.mg_of X G kk_MOST_DEGREE⟩
    k_MOST_SIZE := ⟨_, PySem.W.mg_of X G kk_MOST_SIZE⟩
    g_PaceError := PySem.W.mg_of X G a_PaceError
    g_LimitError := PySem.W.mg_of X G a_LimitError
    g_InvalidRatio := PySem.W.mg_of X G a_InvalidRatio
    g_InvalidPolynomial := PySem.W.mg_of X G a_InvalidPolynomial
    g_TooMany := PySem.W.mg_of X G a_TooMany
    v_InvalidRatio := { gC := PySem.W.mg_of X G a_InvalidRatio, cls := ⟨_, _, _, _, _, _, _, _, _, _, _, _, _, _, _, x_InvalidRatio, by rfl⟩, sa := sa_InvalidRatio, ga := ga_InvalidRatio, gg := gg_InvalidRatio, noN := nv_InvalidRatio, iC := in_InvalidRatio, tC := tI, kC := k_InvalidRatio, exC := e_InvalidRatio, tyC := t_InvalidRatio, hdC := hd_InvalidRatio, fn := ⟨_, _, _, _, _, _, _, _, _, _, _, _, _, _, _, _, _, lI, cI, _, _, _, rfl, lT, rfl⟩ }
    v_InvalidPolynomial := { gC := PySem.W.mg_of X G a_InvalidPolynomial, cls := ⟨_, _, _, _, _, _, _, _, _, _, _, _, _, _, _, x_InvalidPolynomial, by rfl⟩, sa := sa_InvalidPolynomial, ga := ga_InvalidPolynomial, gg := gg_InvalidPolynomial, noN := nv_InvalidPolynomial, iC := in_InvalidPolynomial, tC := tI, kC := k_InvalidPolynomial, exC := e_InvalidPolynomial, tyC := t_InvalidPolynomial, hdC := hd_InvalidPolynomial, fn := ⟨_, _, _, _, _, _, _, _, _, _, _, _, _, _, _, _, _, lI, cI, _, _, _, rfl, lT, rfl⟩ }
    v_TooMany := { gC := PySem.W.mg_of X G a_TooMany, cls := ⟨_, _, _, _, _, _, _, _, _, _, _, _, _, _, _, x_TooMany, by rfl⟩, sa := sa_TooMany, ga := ga_TooMany, gg := gg_TooMany, no1 := nw_TooMany, no2 := nl_TooMany, iC := in_TooMany, tC := tJ, kC := k_TooMany, exC := e_TooMany, tyC := t_TooMany, hdC := hd_TooMany, fn := ⟨_, _, _, _, _, _, _, _, _, _, _, _, _, _, _, _, _, _, _, _, lJ, cJ⟩ }
    ec_InvalidPolynomial := { gC := PySem.W.mg_of X G a_InvalidPolynomial, cl := ic_InvalidPolynomial, ga := ga_InvalidPolynomial, gg := gg_InvalidPolynomial, exC := e_InvalidPolynomial, hdC := hd_InvalidPolynomial, ha := ha_InvalidPolynomial, hn := hn, ht := ht, hm := hm_InvalidPolynomial }
    ec_InvalidRatio := { gC := PySem.W.mg_of X G a_InvalidRatio, cl := ic_InvalidRatio, ga := ga_InvalidRatio, gg := gg_InvalidRatio, exC := e_InvalidRatio, hdC := hd_InvalidRatio, ha := ha_InvalidRatio, hn := hn, ht := ht, hm := hm_InvalidRatio }
    ec_TooMany := { gC := PySem.W.mg_of X G a_TooMany, cl := ic_TooMany, ga := ga_TooMany, gg := gg_TooMany, exC := e_TooMany, hdC := hd_TooMany, ha := ha_TooMany, hn := hn, ht := ht, hm := hm_TooMany }
    i_InvalidPolynomial_PaceError := i_InvalidPolynomial_PaceError
    i_InvalidRatio_PaceError := i_InvalidRatio_PaceError
    s_InvalidPolynomial := by
      intro y hy Y e
      simp only [cNames, List.mem_cons, List.not_mem_nil, or_false] at hy
      rcases hy with rfl | rfl | rfl
      · rw [PySem.W.mg_of X G a_TooMany] at e; cases e; exact s_TooMany_InvalidPolynomial
      · rw [PySem.W.mg_of X G a_InvalidRatio] at e; cases e; exact s_InvalidRatio_InvalidPolynomial
      · rw [PySem.W.mg_of X G a_InvalidPolynomial] at e; cases e; exact s_InvalidPolynomial_InvalidPolynomial
    s_InvalidRatio := by
      intro y hy Y e
      simp only [cNames, List.mem_cons, List.not_mem_nil, or_false] at hy
      rcases hy with rfl | rfl | rfl
      · rw [PySem.W.mg_of X G a_TooMany] at e; cases e; exact s_TooMany_InvalidRatio
      · rw [PySem.W.mg_of X G a_InvalidRatio] at e; cases e; exact s_InvalidRatio_InvalidRatio
      · rw [PySem.W.mg_of X G a_InvalidPolynomial] at e; cases e; exact s_InvalidPolynomial_InvalidRatio
    s_TooMany := by
      intro y hy Y e
      simp only [cNames, List.mem_cons, List.not_mem_nil, or_false] at hy
      rcases hy with rfl | rfl | rfl
      · rw [PySem.W.mg_of X G a_TooMany] at e; cases e; exact s_TooMany_TooMany
      · rw [PySem.W.mg_of X G a_InvalidRatio] at e; cases e; exact s_InvalidRatio_TooMany
      · rw [PySem.W.mg_of X G a_InvalidPolynomial] at e; cases e; exact s_InvalidPolynomial_TooMany
  }
theorem all_mk {P : Program} {w : World} {K : PySem.W.Frag} {h : Heap} {mg : Str → Option Value} {fa : Addr} {fI fJ c_PaceError c_LimitError c_InvalidRatio c_InvalidPolynomial c_TooMany : Addr} (X : K.In h) (G : h.Ns mainGlobals mg) (hfa : mg "law" = some (.ref fa)) (M : Gs K mg fI fJ c_PaceError c_LimitError c_InvalidRatio c_InvalidPolynomial c_TooMany)
    (R__law_pot : RF K mg "_law_pot" s__law_pot ["script", "k"])
    (R__law_draw : RF K mg "_law_draw" s__law_draw ["pot", "many"])
    (R__law_poly : RF K mg "_law_poly" s__law_poly ["pot", "long"])
    (R__law_is : RF K mg "_law_is" s__law_is ["told", "due"])
    (R__law_cut : RF K mg "_law_cut" s__law_cut ["row"])
    (R__law_at : RF K mg "_law_at" s__law_at ["row", "power"])
    (R__law_sum : RF K mg "_law_sum" s__law_sum ["one", "other", "sign"])
    (R_trimmed : RF K mg "trimmed" s_trimmed ["row"])
    (R_added : RF K mg "added" s_added ["p", "q"])
    (R_is_integer : RF K mg "is_integer" s_is_integer ["value"])
    (R_is_polynomial : RF K mg "is_polynomial" s_is_polynomial ["value"])
    (R_want_polynomial : RF K mg "want_polynomial" s_want_polynomial ["value"])
    (R_poly_plus : RF K mg "poly_plus" s_poly_plus ["polynomial", "other"])
    (R_scaled : RF K mg "scaled" s_scaled ["p", "n"])
    (R_subtracted : RF K mg "subtracted" s_subtracted ["p", "q"])
    (R_poly_minus : RF K mg "poly_minus" s_poly_minus ["polynomial", "other"])
    (R__law_product : RF K mg "_law_product" s__law_product ["one", "other"])
    (R_multiplied : RF K mg "multiplied" s_multiplied ["p", "q"])
    (R_want_at_most : RF K mg "want_at_most" s_want_at_most ["what", "limit", "number"])
    (R_poly_times : RF K mg "poly_times" s_poly_times ["polynomial", "other"])
    (R_slope_of : RF K mg "slope_of" s_slope_of ["p"])
    (R_poly_slope : RF K mg "poly_slope" s_poly_slope ["polynomial"])
    (R_is_ratio : RF K mg "is_ratio" s_is_ratio ["value"])
    (R_want_ratio : RF K mg "want_ratio" s_want_ratio ["value"])
    (R_bare_ratio : RF K mg "bare_ratio" s_bare_ratio ["number", "under"])
    (R_worth_of : RF K mg "worth_of" s_worth_of ["p", "a", "b"])
    (R_poly_worth : RF K mg "poly_worth" s_poly_worth ["polynomial", "ratio"])
    (R__law_told : RF K mg "_law_told" s__law_told ["word", "one", "other"])
    (R__law_raised : RF K mg "_law_raised" s__law_raised ["word", "one", "other"])
    (R__law_power : RF K mg "_law_power" s__law_power ["base", "many"])
    (R__law_worth : RF K mg "_law_worth" s__law_worth ["row", "number", "under"])
    (R__law_two_right : RF K mg "_law_two_right" s__law_two_right ["one", "other", "number", "under"])
    (R__law_one_right : RF K mg "_law_one_right" s__law_one_right ["one"])
    (R__law_odd : RF K mg "_law_odd" s__law_odd [])
    (R__law_refusals_right : RF K mg "_law_refusals_right" s__law_refusals_right ["pot", "one"])
    (R_law : RF K mg "law" s_law ["script"])
    : ∃ fd : FuncData, (∀ (s : Shared) (v : Value), BindsTo s fd ⟨[v], []⟩ [("script", v)]) ∧ ∀ base : Heap, K.In base → base.Ns mainGlobals mg → FnG P w K mg base 10 fa fd ["script"] (spD K mg d_law) := by
  obtain ⟨f, fd, F, gm, kp, bi⟩ := R_law
  have e := hfa.symm.trans gm
  cases e
  refine ⟨fd, fun s v => ?_, fun base _ _ => ?_⟩
  · obtain ⟨oc, od, kV, doc, pm, an, cdv, ct, osl, rfl, lk, hcd⟩ := F.ex
    exact .of_eq rfl
  have H__law_pot : KF P w K mg base 3 "_law_pot" s__law_pot ["script", "k"] d__law_pot := kf__law_pot M R__law_pot
  have H__law_draw : KF P w K mg base 3 "_law_draw" s__law_draw ["pot", "many"] d__law_draw := kf__law_draw M R__law_draw
  have H__law_poly : KF P w K mg base 4 "_law_poly" s__law_poly ["pot", "long"] d__law_poly := kf__law_poly M H__law_draw R__law_poly
  have H__law_is : KF P w K mg base 3 "_law_is" s__law_is ["told", "due"] d__law_is := kf__law_is M R__law_is
  have H__law_cut : KF P w K mg base 3 "_law_cut" s__law_cut ["row"] d__law_cut := kf__law_cut M R__law_cut
  have H__law_at : KF P w K mg base 3 "_law_at" s__law_at ["row", "power"] d__law_at := kf__law_at M R__law_at
  have H__law_sum : KF P w K mg base 4 "_law_sum" s__law_sum ["one", "other", "sign"] d__law_sum := kf__law_sum M H__law_cut H__law_at R__law_sum
  have H_trimmed : KF P w K mg base 3 "trimmed" s_trimmed ["row"] d_trimmed := kf_trimmed M R_trimmed
  have H_added : KF P w K mg base 4 "added" s_added ["p", "q"] d_added := kf_added M H_trimmed R_added
  have H_is_integer : KF P w K mg base 3 "is_integer" s_is_integer ["value"] d_is_integer := kf_is_integer M R_is_integer
  have H_is_polynomial : KF P w K mg base 4 "is_polynomial" s_is_polynomial ["value"] d_is_polynomial := kf_is_polynomial M H_is_integer R_is_polynomial
  have H_want_polynomial : KF P w K mg base 5 "want_polynomial" s_want_polynomial ["value"] d_want_polynomial := kf_want_polynomial M H_is_polynomial R_want_polynomial
  have H_poly_plus : KF P w K mg base 6 "poly_plus" s_poly_plus ["polynomial", "other"] d_poly_plus := kf_poly_plus M H_added H_want_polynomial R_poly_plus
  have H_scaled : KF P w K mg base 4 "scaled" s_scaled ["p", "n"] d_scaled := kf_scaled M H_trimmed R_scaled
  have H_subtracted : KF P w K mg base 5 "subtracted" s_subtracted ["p", "q"] d_subtracted := kf_subtracted M H_added H_scaled R_subtracted
  have H_poly_minus : KF P w K mg base 6 "poly_minus" s_poly_minus ["polynomial", "other"] d_poly_minus := kf_poly_minus M H_subtracted H_want_polynomial R_poly_minus
  have H__law_product : KF P w K mg base 4 "_law_product" s__law_product ["one", "other"] d__law_product := kf__law_product M H__law_cut R__law_product
  have H_multiplied : KF P w K mg base 3 "multiplied" s_multiplied ["p", "q"] d_multiplied := kf_multiplied M R_multiplied
  have H_want_at_most : KF P w K mg base 3 "want_at_most" s_want_at_most ["what", "limit", "number"] d_want_at_most := kf_want_at_most M R_want_at_most
  have H_poly_times : KF P w K mg base 6 "poly_times" s_poly_times ["polynomial", "other"] d_poly_times := kf_poly_times M H_multiplied H_want_polynomial H_want_at_most R_poly_times
  have H_slope_of : KF P w K mg base 3 "slope_of" s_slope_of ["p"] d_slope_of := kf_slope_of M R_slope_of
  have H_poly_slope : KF P w K mg base 6 "poly_slope" s_poly_slope ["polynomial"] d_poly_slope := kf_poly_slope M H_slope_of H_want_polynomial R_poly_slope
  have H_is_ratio : KF P w K mg base 4 "is_ratio" s_is_ratio ["value"] d_is_ratio := kf_is_ratio M H_is_integer R_is_ratio
  have H_want_ratio : KF P w K mg base 5 "want_ratio" s_want_ratio ["value"] d_want_ratio := kf_want_ratio M H_is_ratio R_want_ratio
  have H_bare_ratio : KF P w K mg base 3 "bare_ratio" s_bare_ratio ["number", "under"] d_bare_ratio := kf_bare_ratio M R_bare_ratio
  have H_worth_of : KF P w K mg base 3 "worth_of" s_worth_of ["p", "a", "b"] d_worth_of := kf_worth_of M R_worth_of
  have H_poly_worth : KF P w K mg base 6 "poly_worth" s_poly_worth ["polynomial", "ratio"] d_poly_worth := kf_poly_worth M H_want_polynomial H_want_ratio H_bare_ratio H_worth_of R_poly_worth
  have H__law_told : KF P w K mg base 7 "_law_told" s__law_told ["word", "one", "other"] d__law_told := kf__law_told M H_poly_plus H_poly_minus H_poly_times H_poly_slope H_poly_worth R__law_told
  have H__law_raised : KF P w K mg base 8 "_law_raised" s__law_raised ["word", "one", "other"] d__law_raised := kf__law_raised M H__law_told R__law_raised
  have H__law_power : KF P w K mg base 3 "_law_power" s__law_power ["base", "many"] d__law_power := kf__law_power M R__law_power
  have H__law_worth : KF P w K mg base 4 "_law_worth" s__law_worth ["row", "number", "under"] d__law_worth := kf__law_worth M H__law_power R__law_worth
  have H__law_two_right : KF P w K mg base 9 "_law_two_right" s__law_two_right ["one", "other", "number", "under"] d__law_two_right := kf__law_two_right M H__law_is H__law_sum H_poly_plus H_poly_minus H__law_product H__law_raised H_poly_times H__law_worth H_poly_worth R__law_two_right
  have H__law_one_right : KF P w K mg base 7 "_law_one_right" s__law_one_right ["one"] d__law_one_right := kf__law_one_right M H_is_polynomial H__law_cut H__law_is H_poly_slope H__law_at H_poly_worth R__law_one_right
  have H__law_odd : KF P w K mg base 3 "_law_odd" s__law_odd [] d__law_odd := kf__law_odd M R__law_odd
  have H__law_refusals_right : KF P w K mg base 9 "_law_refusals_right" s__law_refusals_right ["pot", "one"] d__law_refusals_right := kf__law_refusals_right M H__law_odd H__law_draw H_is_polynomial H__law_raised R__law_refusals_right
  exact ok_law M H__law_pot H__law_poly H__law_draw H__law_two_right H__law_one_right H__law_refusals_right F
end K11
/-! ## A12.lean -/
set_option linter.all false
namespace Po
/-! ### rows of numbers -/
def co (l : List Int) (i : Nat) : Int := l[i]?.getD 0
def sh (k : Nat) (g : Nat → Int) (n : Nat) : Int := if k ≤ n then g (n - k) else 0
def sumTo : Nat → (Nat → Int) → Int
  | 0, _ => 0
  | n + 1, F => sumTo n F + F n
theorem sum_congr {F G : Nat → Int} : ∀ {n : Nat}, (∀ j < n, F j = G j) → sumTo n F = sumTo n G
  | 0, _ => rfl
  | n + 1, h => by
    show sumTo n F + F n = sumTo n G + G n
    rw [sum_congr fun j hj => h j (by omega), h n (by omega)]
theorem sum_zero {F : Nat → Int} {n : Nat} (h : ∀ j < n, F j = 0) : sumTo n F = 0 := by
  rw [sum_congr (G := fun _ => 0) h]
  clear h
  induction n with
  | zero => rfl
  | succ n ih => show sumTo n _ + 0 = 0; omega
theorem sum_one {F : Nat → Int} : ∀ {n t : Nat}, t < n → (∀ j < n, j ≠ t → F j = 0) → sumTo n F = F t
  | 0, t, h, _ => by omega
  | n + 1, t, h, k => by
    show sumTo n F + F n = F t
    by_cases c : t = n
    · subst c
      rw [sum_zero fun j hj => k j (by omega) (by omega)]; omega
    · rw [sum_one (by omega) fun j hj ne => k j (by omega) ne, k n (by omega) (Ne.symm c)]; omega
theorem sum_add {F G : Nat → Int} : ∀ {n : Nat}, sumTo n (fun j => F j + G j) = sumTo n F + sumTo n G
  | 0 => rfl
  | n + 1 => by
    show sumTo n (fun j => F j + G j) + (F n + G n) = (sumTo n F + F n) + (sumTo n G + G n)
    rw [sum_add]; omega
theorem sum_sub {F G : Nat → Int} : ∀ {n : Nat}, sumTo n (fun j => F j - G j) = sumTo n F - sumTo n G
  | 0 => rfl
  | n + 1 => by
    show sumTo n (fun j => F j - G j) + (F n - G n) = (sumTo n F + F n) - (sumTo n G + G n)
    rw [sum_sub]; omega
theorem sum_more {F : Nat → Int} {n : Nat} : ∀ {m : Nat}, (∀ j, n ≤ j → j < n + m → F j = 0) → sumTo (n + m) F = sumTo n F
  | 0, _ => rfl
  | m + 1, h => by
    show sumTo (n + m) F + F (n + m) = _
    rw [sum_more fun j h1 h2 => h j h1 (by omega), h (n + m) (by omega) (by omega)]; omega
/-- q times what g is -/
def pm (q : List Int) (g : Nat → Int) (n : Nat) : Int := sumTo q.length fun j => co q j * sh j g n
theorem co_ge {l : List Int} {i : Nat} (h : l.length ≤ i) : co l i = 0 := by
  unfold co; rw [List.getElem?_eq_none h]; rfl
theorem co_lt {l : List Int} {i : Nat} (h : i < l.length) : co l i = l[i] := by
  unfold co; rw [List.getElem?_eq_getElem h]; rfl
theorem pm_pad {q : List Int} {g : Nat → Int} {n m : Nat} (h : q.length ≤ m) : sumTo m (fun j => co q j * sh j g n) = pm q g n := by
  obtain ⟨k, rfl⟩ : ∃ k, m = q.length + k := ⟨m - q.length, by omega⟩
  exact sum_more fun j h1 _ => by rw [co_ge h1]; omega
/-- the last one is not 0 -/
def Tr (l : List Int) : Prop := ∀ h : l ≠ [], l.getLast h ≠ 0
theorem tr_top {l : List Int} (h : Tr l) (hn : l ≠ []) : co l (l.length - 1) ≠ 0 := by
  have hl : 0 < l.length := List.length_pos_iff.mpr hn
  rw [co_lt (by omega), ← List.getLast_eq_getElem hn]
  exact h hn
theorem tr_ext {l m : List Int} (hl : Tr l) (hm : Tr m) (h : ∀ n, co l n = co m n) : l = m := by
  have len : l.length = m.length := by
    rcases Nat.lt_trichotomy l.length m.length with c | c | c
    · have hn : m ≠ [] := by intro e; subst e; simp at c
      exact absurd (by rw [← h, co_ge (by omega)]) (tr_top hm hn)
    · exact c
    · have hn : l ≠ [] := by intro e; subst e; simp at c
      exact absurd (by rw [h, co_ge (by omega)]) (tr_top hl hn)
  refine List.ext_getElem len fun i h1 h2 => ?_
  have := h i
  rw [co_lt h1, co_lt h2] at this
  exact this
/-- without the last noughts -/
def cut (l : List Int) : List Int := match l with
  | [] => []
  | a :: r => match cut r with
    | [] => if a = 0 then [] else [a]
    | b :: s => a :: b :: s
theorem cut_co : ∀ (l : List Int) (n : Nat), co (cut l) n = co l n
  | [], n => rfl
  | a :: r, n => by
    have ih := cut_co r
    unfold cut
    cases e : cut r with
    | nil =>
      rw [e] at ih
      by_cases c : a = 0
      · simp only [c, if_true]
        cases n with
        | zero => rfl
        | succ n => have := ih n; rw [← show co (0 :: r) (n + 1) = co r n from rfl] at this; rw [← this]; rfl
      · simp only [c, if_false]
        cases n with
        | zero => rfl
        | succ n => exact ih n
    | cons b s =>
      rw [e] at ih
      cases n with
      | zero => rfl
      | succ n => exact ih n
theorem cut_tr : ∀ l : List Int, Tr (cut l)
  | [] => fun h => absurd rfl h
  | a :: r => by
    have ih := cut_tr r
    unfold cut
    cases e : cut r with
    | nil =>
      by_cases c : a = 0
      · simp only [c, if_true]; exact fun h => absurd rfl h
      · simp only [c, if_false]; exact fun _ => c
    | cons b s =>
      rw [e] at ih
      intro h
      rw [List.getLast_cons (List.cons_ne_nil _ _)]
      exact ih (List.cons_ne_nil _ _)
theorem cut_self {l : List Int} (h : Tr l) : cut l = l := tr_ext (cut_tr l) h (cut_co l)
theorem cut_len : ∀ l : List Int, (cut l).length ≤ l.length
  | [] => Nat.le_refl _
  | a :: r => by
    have ih := cut_len r
    unfold cut
    cases e : cut r with
    | nil => dsimp only; split <;> simp
    | cons b s => rw [e] at ih; simpa using ih
theorem cut_take {l : List Int} {k : Nat} (h : ∀ n, k ≤ n → co l n = 0) (ht : 0 < k → co l (k - 1) ≠ 0) : cut l = l.take k := by
  refine tr_ext (cut_tr l) ?_ fun n => ?_
  · intro hn
    have hk : 0 < k := by
      refine Nat.pos_of_ne_zero fun e => ?_
      subst e; simp at hn
    have h2 := ht hk
    have hl : k - 1 < l.length := by
      refine Nat.lt_of_not_le fun c => h2 (co_ge c)
    have hlen : (l.take k).length = k := by rw [List.length_take]; omega
    rw [List.getLast_eq_getElem hn]
    simp only [hlen, List.getElem_take]
    rw [← co_lt hl]; exact h2
  · rw [cut_co]
    by_cases c : n < k
    · unfold co; rw [List.getElem?_take_of_lt c]
    · rw [h n (by omega), co_ge (by rw [List.length_take]; omega)]
/-! ### one division -/
theorem uniq {o Q q R r : List Int} {d : Nat} (hd : o.length = d + 1) (mon : co o d = 1) (hQ : Tr Q) (hq : Tr q) (hR : Tr R) (hr : Tr r) (lR : R.length ≤ d) (lr : r.length ≤ d) (e : ∀ n, pm Q (co o) n + co R n = pm q (co o) n + co r n) : Q = q ∧ R = r := by
  let M := max Q.length q.length
  have e2 : ∀ n, sumTo M (fun j => (co Q j - co q j) * sh j (co o) n) = co r n - co R n := fun n => by
    have := e n
    rw [← pm_pad (q := Q) (m := M) (Nat.le_max_left _ _), ← pm_pad (q := q) (m := M) (Nat.le_max_right _ _)] at this
    have k : sumTo M (fun j => (co Q j - co q j) * sh j (co o) n) = sumTo M (fun j => co Q j * sh j (co o) n) - sumTo M (fun j => co q j * sh j (co o) n) := by
      rw [← sum_sub]
      exact sum_congr fun j _ => by rw [Int.sub_mul]
    omega
  have z : ∀ k t, t + k + 1 = M → ∀ j, t ≤ j → co Q j - co q j = 0 := by
    intro k
    induction k with
    | zero =>
      intro t ht j hj
      by_cases c : j = t
      · subst c
        have s := e2 (j + d)
        rw [co_ge (by omega), co_ge (l := R) (by omega)] at s
        rw [sum_one (t := j) (by omega) fun i hi ne => ?_] at s
        · unfold sh at s
          rw [if_pos (by omega), show j + d - j = d by omega, mon] at s
          omega
        · unfold sh
          rw [if_pos (by omega), co_ge (l := o) (by omega)]; omega
      · rw [co_ge (l := Q) (by have := Nat.le_max_left Q.length q.length; omega), co_ge (l := q) (by have := Nat.le_max_right Q.length q.length; omega)]; rfl
    | succ k ih =>
      intro t ht j hj
      have up := ih (t + 1) (by omega)
      by_cases c : j = t
      · subst c
        have s := e2 (j + d)
        rw [co_ge (by omega), co_ge (l := R) (by omega)] at s
        rw [sum_one (t := j) (by omega) fun i hi ne => ?_] at s
        · unfold sh at s
          rw [if_pos (by omega), show j + d - j = d by omega, mon] at s
          omega
        · by_cases c2 : i < j
          · unfold sh
            rw [if_pos (by omega), co_ge (l := o) (by omega)]; omega
          · rw [up i (by omega), Int.zero_mul]
      · exact up j (by omega)
  have DQ : ∀ j, co Q j = co q j := fun j => by
    by_cases c : M = 0
    · rw [co_ge (by have := Nat.le_max_left Q.length q.length; omega), co_ge (by have := Nat.le_max_right Q.length q.length; omega)]
    · have := z (M - 1) 0 (by omega) j (Nat.zero_le _); omega
  have hQq := tr_ext hQ hq DQ
  subst hQq
  exact ⟨rfl, tr_ext hR hr fun n => by have := e n; omega⟩
end Po
/-! ## DPa.lean -/
set_option Elab.async false
set_option linter.all false
set_option maxRecDepth 100000
set_option maxHeartbeats 4000000
set_option exponentiation.threshold 3000
namespace Po
open PySem PySem.Spec L2 DL
theorem f_add (i j : Int) : fAdd (.int i) (.int j) = some (.im (.int (i + j))) := rfl
theorem f_sub (i j : Int) : fSub (.int i) (.int j) = some (.im (.int (i - j))) := rfl
theorem f_subb (i j : Bool) : fSub (.bool i) (.bool j) = some (.im (.int (b2 i - b2 j))) := rfl
theorem f_mul (i j : Int) : fMulA (.int i) (.int j) = if mulB i j = true then some (.im (.int (i * j))) else none := rfl
theorem f_div (i j : Int) : fDiv (.int i) (.int j) = if divB i j = true then some (.im (.int (i.fdiv j))) else none := rfl
theorem f_mod (i j : Int) : fMod (.int i) (.int j) = if modB i j = true then some (.im (.int (i.fmod j))) else none := rfl
theorem f_pow (i j : Int) : fPow (.int i) (.int j) = if powB i j = true then some (.im (.int (i ^ j.toNat))) else none := rfl
theorem f_lt (i j : Int) : fLt (.int i) (.int j) = some (.im (.bool (decide (i < j)))) := rfl
theorem f_le (i j : Int) : fLe (.int i) (.int j) = some (.im (.bool (decide (i ≤ j)))) := rfl
theorem f_gt (i j : Int) : fGt (.int i) (.int j) = some (.im (.bool (decide (j < i)))) := rfl
theorem f_ge (i j : Int) : fGe (.int i) (.int j) = some (.im (.bool (decide (j ≤ i)))) := rfl
theorem fEq_int (i j : Int) : fEq (.int i) (.int j) = some (.im (.bool (i == j))) := rfl
theorem fNe_int (i j : Int) : fNe (.int i) (.int j) = some (.im (.bool (!(i == j)))) := rfl
theorem f_max (i j : Int) : fMax2 [.int i, .int j] = some (.im (.int (if j > i then j else i))) := rfl
theorem f_abs (i : Int) : fAbs [.int i] = some (.im (.int (if i < 0 then -i else i))) := rfl
theorem f_neg (i : Int) : fNeg (.int i) = some (.im (.int (-i))) := rfl
theorem f_addL (l m : List D) : fAdd (.list l) (.list m) = if small (l.length + m.length) = true then some (.mu (l ++ m)) else none := rfl
theorem f_addT (l m : List D) : fAdd (.tuple l) (.tuple m) = if small (l.length + m.length) = true then some (.im (.tuple (l ++ m))) else none := rfl
end Po
/-! ## DPb.lean -/
set_option Elab.async false
set_option linter.all false
set_option maxRecDepth 100000
set_option maxHeartbeats 4000000
set_option exponentiation.threshold 3000
namespace Po
open PySem PySem.Spec L2 DL
/-! ### numbers' sizes -/
def bd (n : Nat) (i : Int) : Prop := i.natAbs < 2 ^ n
theorem lg {m k : Nat} (hk : 0 < k) (h : m < 2 ^ k) : m.log2 < k := by
  by_cases c : m = 0
  · subst c; simpa using hk
  · exact (Nat.log2_lt c).mpr h
theorem bmul {m n : Nat} {i j : Int} (hi : bd m i) (hj : bd n j) : bd (m + n) (i * j) := by
  unfold bd at *
  rw [Int.natAbs_mul, Nat.pow_add]
  exact Nat.mul_lt_mul'' hi hj
theorem badd {m : Nat} {i j : Int} (hi : bd m i) (hj : bd m j) : bd (m + 1) (i + j) := by
  unfold bd at *
  have := Int.natAbs_add_le i j
  rw [Nat.pow_succ]; omega
theorem bsub {m : Nat} {i j : Int} (hi : bd m i) (hj : bd m j) : bd (m + 1) (i - j) := by
  unfold bd at *
  have := Int.natAbs_sub_le i j
  rw [Nat.pow_succ]; omega
theorem bmono {m n : Nat} {i : Int} (h : bd m i) (l : m ≤ n) : bd n i := Nat.lt_of_lt_of_le h (Nat.pow_le_pow_right (by decide) l)
theorem mulB_ok {i j : Int} (h : bd 900 i) (k : bd 900 j) : mulB i j = true := by
  unfold mulB
  have := lg (by decide) h
  have := lg (by decide) k
  simp; omega
theorem divB_ok {i j : Int} (hj : j ≠ 0) (h : bd 900 j) : divB i j = true := by
  unfold divB
  have := lg (by decide) h
  simp [hj]; omega
/-! ### rows -/
abbrev T (l : List Int) : D := .tuple (l.map .int)
abbrev Ls (l : List Int) : D := .list (l.map .int)
theorem len_T (l : List Int) : fLen [T l] = some (.im (.int (l.length : Nat))) := by
  show some (B.im (.int ((l.map PyData.int).length : Nat))) = _
  rw [List.length_map]
theorem len_L (l : List Int) : fLen [Ls l] = some (.im (.int (l.length : Nat))) := by
  show some (B.im (.int ((l.map PyData.int).length : Nat))) = _
  rw [List.length_map]
theorem at_int {l : List Int} {k : Nat} (h : k < l.length) : atI (l.map PyData.int) (k : Int) = some (.int (co l k)) := by
  rw [co_lt h]
  exact atI_nat (j := k) (by rw [List.getElem?_map, List.getElem?_eq_getElem h]; rfl)
theorem ix_T {l : List Int} {k : Nat} (h : k < l.length) : fIx (T l) (.int k) = some (.im (.int (co l k))) := by
  show (atI _ _).map B.im = _
  rw [at_int h]; rfl
theorem ix_L {l : List Int} {k : Nat} (h : k < l.length) : fIx (Ls l) (.int k) = some (.im (.int (co l k))) := by
  show (atI _ _).map B.im = _
  rw [at_int h]; rfl
theorem at_last {l : List Int} (h : l ≠ []) : atI (l.map PyData.int) (-1) = some (.int (co l (l.length - 1))) := by
  have hl : 0 < l.length := List.length_pos_iff.mpr h
  have e : l.map PyData.int = (l.dropLast.map PyData.int) ++ [.int (l.getLast h)] := by
    rw [← List.map_singleton, ← List.map_append, List.dropLast_concat_getLast]
  rw [e, atI_last, co_lt (by omega), List.getLast_eq_getElem]
theorem ix_last {l : List Int} (h : l ≠ []) : fIx (T l) (.int (-1)) = some (.im (.int (co l (l.length - 1)))) := by
  show (atI _ _).map B.im = _
  rw [at_last h]; rfl
theorem cut_nat (l : List Int) (k : Nat) : cutD (l.map PyData.int) none (some (k : Int)) = (l.take k).map PyData.int := by
  unfold cutD
  rw [HT.sIx_nat, HT.sIx_none, List.length_map]
  simp only [List.drop_zero, Nat.sub_zero]
  rw [← List.map_take]
  congr 1
  by_cases c : k ≤ l.length
  · rw [Nat.min_eq_left c]
  · rw [Nat.min_eq_right (by omega), List.take_of_length_le (by omega), List.take_of_length_le (by omega)]
theorem cutB_T (l : List Int) (k : Nat) : cutB none (some (k : Int)) (T l) = some (.im (T (l.take k))) := by
  show some (B.im (.tuple (cutD _ _ _))) = _
  rw [cut_nat]
theorem cutB_L (l : List Int) (k : Nat) : cutB none (some (k : Int)) (Ls l) = some (.mu ((l.take k).map .int)) := by
  show some (B.mu (cutD _ _ _)) = _
  rw [cut_nat]
theorem rng1 (n : Nat) (h : n ≤ 1000) : rngOf [.int (n : Nat)] = some ((List.range n).map fun k => PyData.int ((k : Nat) : Int)) := by
  have c : bd62 (n : Int) = true := by unfold bd62; simp; omega
  show (if bd62 (n : Int) = true then some (rngD 0 ((n : Int).toNat)) else none) = _
  rw [if_pos c]
  unfold rngD
  simp
/-- a comprehension that leaves the slots alone -/
theorem comp_map {α : Type} {vs : List Nat} {t : Tg} {c : Gm → Res Bool} {e : Gm → Res W} {en : α → D} {P : α → Bool} {F : α → D} {g : Gm} : ∀ (ds : List α) (acc : List D),
    (∀ d ∈ ds, ∃ g1, t.put (en d) g = some g1 ∧ c g1 = .ok (P d) g1 ∧ (P d = true → ∃ w, e g1 = .ok w g1 ∧ esc g1 w = some (F d, g1)) ∧ okw vs g1 = true ∧ wipeG g1 vs = g) → acc.length + ds.length ≤ 10000 → compGo vs t c e (ds.map en) acc g = .ok (acc ++ (ds.filter P).map F) g
  | [], acc, _, _ => by simp [compGo]
  | d :: ds, acc, h, hl => by
    obtain ⟨g1, h1, h2, h3, h4, h5⟩ := h d List.mem_cons_self
    have ih := fun acc hl => comp_map (P := P) (F := F) (en := en) ds acc (fun d hd => h d (List.mem_cons_of_mem _ hd)) hl
    rw [List.length_cons] at hl
    rw [List.map_cons]
    unfold compGo
    rw [h1]
    dsimp only
    rw [h2]
    cases hp : P d with
    | true =>
      obtain ⟨w, k1, k2⟩ := h3 hp
      have sm : small acc.length = true := by unfold small; simp; omega
      simp only [Res.noex, Res.bind, if_true, k1, k2, sm, h4, Bool.and_self, h5]
      rw [ih _ (by simp; omega), List.filter_cons_of_pos hp]
      simp
    | false =>
      simp only [Res.noex, Res.bind, Bool.false_eq_true, if_false, h4, if_true, h5]
      rw [ih _ (by omega), List.filter_cons_of_neg (by simp [hp])]
/-! ### texts -/
theorem strOk_of (x : String) : PyData.strOk (PySem.Str.ofString x) = true := by
  rw [PySem.Str.ofString_eq_toList]
  unfold PyData.strOk
  simp only [List.all_toArray, List.all_map, List.all_eq_true, Function.comp, decide_eq_true_eq]
  intro c _
  have := c.valid
  show c.val.toNat < _
  rcases this with h | ⟨_, h⟩
  · have : c.val.toNat < 0xd800 := h
    omega
  · exact h
theorem strOk_app {x y : PySem.Str} (h : PyData.strOk x = true) (k : PyData.strOk y = true) : PyData.strOk (x ++ y) = true := by
  have e : (x ++ y).cps = x.cps ++ y.cps := rfl
  unfold PyData.strOk at *
  rw [e, Array.all_append, h, k]; rfl
theorem strOk_join {sep : PySem.Str} (hs : PyData.strOk sep = true) : ∀ ts : List PySem.Str, (∀ t ∈ ts, PyData.strOk t = true) → PyData.strOk (PySem.Str.join sep ts) = true
  | [], _ => (by decide +kernel : PyData.strOk PySem.Str.empty = true)
  | [x], h => h x List.mem_cons_self
  | x :: y :: r, h => strOk_app (strOk_app (h x List.mem_cons_self) hs) (strOk_join hs (y :: r) fun t ht => h t (List.mem_cons_of_mem _ ht))
theorem strOk_tup {ts : List PySem.Str} (h : ∀ t ∈ ts, PyData.strOk t = true) : PyData.strOk (tupleText ts) = true := by
  unfold tupleText
  refine strOk_app (strOk_app (strOk_of _) (strOk_join (strOk_of _) ts h)) ?_
  split <;> exact strOk_of _
theorem strOk_T (l : List Int) : PyData.strOk (T l).shown = true := by
  refine strOk_tup fun t ht => ?_
  have : ∀ l : List Int, ∀ t ∈ PyData.shownAll (l.map .int), PyData.strOk t = true := by
    intro l
    induction l with
    | nil => intro t ht; simp [PyData.shownAll] at ht
    | cons a l ih =>
      intro t ht
      simp only [List.map_cons, PyData.shownAll, List.mem_cons] at ht
      rcases ht with rfl | ht
      · exact strOk_of _
      · exact ih t ht
  exact this l t ht
def RS (d : D) : Prop := ReprOk d ∧ PyData.strOk d.shown = true
theorem int_len {i : Int} (h : bd 1000 i) : (PyData.shown (.int i)).length ≤ 1921 := PyProof.Rows.int_text_len_1921 (i := i) (Nat.lt_trans (lg (by decide) h) (by decide))
theorem T_facts : ∀ l : List Int, (∀ a ∈ l, bd 1000 a) → PyData.showableAll (l.map .int) = true ∧ PyData.hasDictAll (l.map .int) = false ∧ PyData.depthAll (l.map .int) ≤ 1 ∧ ((PyData.shownAll (l.map .int)).map (·.length)).sum ≤ 1921 * l.length ∧ (PyData.shownAll (l.map .int)).length = l.length
  | [], _ => by simp [PyData.showableAll, PyData.hasDictAll, PyData.shownAll, PyData.depthAll]
  | a :: l, h => by
    obtain ⟨h1, h2, h3, h4, h5⟩ := T_facts l fun b hb => h b (List.mem_cons_of_mem _ hb)
    have ha := h a List.mem_cons_self
    have hs : PyData.showable (.int a) = true := by
      simp only [PyData.showable, decide_eq_true_eq]
      exact Nat.lt_trans (lg (by decide) ha) (by decide)
    have hl := int_len ha
    refine ⟨by simp [PyData.showableAll, hs, h1], by simp [PyData.hasDictAll, PyData.hasDict, h2], ?_, ?_, ?_⟩
    · have e : PyData.depthAll ((a :: l).map .int) = max (PyData.depth (.int a)) (PyData.depthAll (l.map .int)) := rfl
      rw [e]
      have : PyData.depth (.int a) = 0 := rfl
      omega
    · simp only [List.map_cons, PyData.shownAll, List.sum_cons, List.length_cons]
      omega
    · simp only [List.map_cons, PyData.shownAll, List.length_cons, h5]
theorem tup_le (ts : List PySem.Str) (n : Nat) (h : (ts.map (·.length)).sum ≤ n) (l : ts.length ≤ 1000) (hn : n ≤ 10000000) : (tupleText ts).length ≤ sizeLine := by
  refine Nat.le_trans (tupleText_len_le _) ?_
  have : sizeLine = 16777216 := by decide
  omega
theorem rs_T {l : List Int} (h : ∀ a ∈ l, bd 1000 a) (hl : l.length ≤ 100) : RS (T l) := by
  obtain ⟨h1, h2, h3, h4, h5⟩ := T_facts l h
  refine ⟨⟨h1, h2, ?_, ?_⟩, strOk_T l⟩
  · show PyData.depthAll (l.map .int) + 1 ≤ 60
    omega
  · exact tup_le _ (1921 * l.length) h4 (by rw [h5]; omega) (by omega)
theorem rs_TT {l m : List Int} (h : ∀ a ∈ l, bd 1000 a) (hl : l.length ≤ 100) (k : ∀ a ∈ m, bd 1000 a) (hm : m.length ≤ 100) : RS (.tuple [T l, T m]) := by
  obtain ⟨h1, h2, h3, h4, h5⟩ := T_facts l h
  obtain ⟨k1, k2, k3, k4, k5⟩ := T_facts m k
  have e1 : (T l).shown.length ≤ 1921 * l.length + 2 * l.length + 3 := by
    have := tupleText_len_le (PyData.shownAll (l.map .int))
    rw [h5] at this
    exact Nat.le_trans this (by omega)
  have e2 : (T m).shown.length ≤ 1921 * m.length + 2 * m.length + 3 := by
    have := tupleText_len_le (PyData.shownAll (m.map .int))
    rw [k5] at this
    exact Nat.le_trans this (by omega)
  refine ⟨⟨?_, ?_, ?_, ?_⟩, ?_⟩
  · show (PyData.showableAll (l.map .int) && (PyData.showableAll (m.map .int) && true)) = true
    rw [h1, k1]; rfl
  · show (PyData.hasDictAll (l.map .int) || (PyData.hasDictAll (m.map .int) || false)) = false
    rw [h2, k2]; rfl
  · show max (PyData.depthAll (l.map .int) + 1) (max (PyData.depthAll (m.map .int) + 1) 0) + 1 ≤ 60
    omega
  · refine tup_le [(T l).shown, (T m).shown] 1000000 ?_ (by simp) (by decide)
    simp only [List.map_cons, List.map_nil, List.sum_cons, List.sum_nil]
    omega
  · exact strOk_tup (ts := [(T l).shown, (T m).shown]) fun t ht => by
      simp only [List.mem_cons, List.not_mem_nil, or_false] at ht
      rcases ht with rfl | rfl
      · exact strOk_T l
      · exact strOk_T m
theorem fRepr_ok {d : D} (h : ReprOk d) : fRepr [d] = some (.im (.str d.shown)) := by
  unfold fRepr
  simp [h]
theorem shp_str {z : PySem.Str} (hz : PyData.strOk z = true) : shp (.str z) = true := by
  show SeqAt.shaped (.str z) = true
  unfold SeqAt.shaped PyData.canLay0
  rw [hz]; rfl
theorem fEq_str {i : PySem.Str} (h : PyData.strOk i = true) : fEq (.str i) (.str i) = some (.im (.bool true)) := by
  unfold fEq
  rw [shp_str h]
  simp [PyData.eqv]
theorem fNe_told {n t : PySem.Str} (hn : PyData.strOk n = true) (ht : PyData.strOk t = true) : fNe (.list [.str n, .str t, .bool true]) (.list [.str n, .str t, .bool true]) = some (.im (.bool false)) := by
  have e : (PyData.list [.str n, .str t, .bool true]).canLay0 = true := by simp [PyData.canLay0, PyData.canLayAll0, hn, ht]
  have e1 : shp (.list [.str n, .str t, .bool true]) = true := by
    show SeqAt.shaped _ = true
    unfold SeqAt.shaped
    rw [e]; rfl
  unfold fNe
  rw [e1, SeqAt.eqv_refl _ e]
  rfl
end Po
/-! ## K11p.lean -/
set_option Elab.async false
set_option linter.all false
set_option maxRecDepth 100000
set_option maxHeartbeats 4000000
set_option exponentiation.threshold 3000
namespace K11
open PySem PySem.Spec L2 DL Po
/-! ### cut -/
theorem last_ix (l : List Int) : ∃ k : Nat, maxL ((((List.range l.length).filter fun i => !(co l i == 0)).map fun i => ((i : Nat) : Int) + 1) ++ [0]) = some (k : Int) ∧ cut l = l.take k := by
  obtain ⟨m, hm⟩ : ∃ m, maxL ((((List.range l.length).filter fun i => !(co l i == 0)).map fun i => ((i : Nat) : Int) + 1) ++ [0]) = some m := by
    cases (((List.range l.length).filter fun i => !(co l i == 0)).map fun i => ((i : Nat) : Int) + 1) with
    | nil => exact ⟨_, rfl⟩
    | cons a r => exact ⟨_, rfl⟩
  obtain ⟨h1, h2⟩ := maxL_mem hm
  have h0 : 0 ≤ m := h2 0 (by simp)
  obtain ⟨k, rfl⟩ : ∃ k : Nat, m = k := ⟨m.toNat, by omega⟩
  refine ⟨k, hm, cut_take (fun n hn => ?_) fun hk => ?_⟩
  · by_cases c : n < l.length
    · refine Classical.byContradiction fun hne => ?_
      have := h2 (((n : Nat) : Int) + 1) (by
        refine List.mem_append_left _ (List.mem_map.mpr ⟨n, List.mem_filter.mpr ⟨List.mem_range.mpr c, by simpa using hne⟩, rfl⟩))
      omega
    · exact co_ge (by omega)
  · rcases List.mem_append.mp h1 with h | h
    · obtain ⟨i, hi, e⟩ := List.mem_map.mp h
      have := (List.mem_filter.mp hi).2
      have ei : k - 1 = i := by omega
      rw [ei]; simpa using this
    · simp at h; omega
theorem cut_b {xs ys : List D} {d tc z : D} {n : Int} {k : Nat} {b : B} (ln : fLen [d] = some (.im (.int n))) (rg : rngOf [.int n] = some ys) (cp : compGo [2] (.nm 2) (tOf (eOp2 fNe (eOp2 fIx (eV 0) (eV 2)) (eC (.int 0)))) (eOp2 fAdd (eV 2) (eC (.int 1))) ys [] [.im d, .un, .un] = .ok xs [.im d, .un, .un])
    (ad : fAdd (.list xs) (.list [.int 0]) = some (.mu (xs ++ [.int 0]))) (mx : fMax1 [.list (xs ++ [.int 0])] = some (.im (.int k))) (c1 : cutB none (some (k : Int)) d = some b) (tt : fTuple [z] = some (.im tc)) (hz : ∀ g, rd g (.v b) = some z) : b__law_cut [.im d, .un, .un] = .rt (.im tc) [.im d, .im (.int k), .un] := by
  have h2 : ∀ g, put g ((rdAll g [.v b]).bind fTuple) = .ok (.v (.im tc)) g := fun g => by
    show put g (((rd g (.v b)).bind fun d => _).bind _) = _
    rw [hz]
    show put g (fTuple [z]) = _
    rw [tt]; rfl
  cases b with
  | im y => cases hz []; unfold b__law_cut; simp [fnD, sSeq, SR.then, sSet, sRet, sIf, sPar, sExpr, sAsg, sAugI, sAugN, sNext, sFor, forGo, tOf, tNo, tAn, tOr', tYs, eIf, eOp2, eOp1, eOpN, eV, eC, eAnd, eOr, eNot, bE, eCh, eComp, okw, imUn, wipeG, back, aCons, aNil, aConsE, aNilE, eTup, eLst, eCall, eCall0, eCallK, eCallIo, eRep, ownOf, eSl, pNo, pSo, frE, frIo, eIsi, Res.bind, Res.bindS, Res.noex, rd, rdAll, put, esc, DL.settle, stor, noIo, okB, okA, outOf, outB, small, lstOf, put', tgT, tgAll, tgI, tgN, Tg.put, Tg.putAll, noIoAll, noIoB, setAll, itR, itE, itf, f_add, f_sub, f_subb, f_mul, f_div, f_mod, f_pow, f_lt, f_le, f_gt, f_ge, f_max, f_abs, f_neg, fEq_int, fNe_int, fIs, fIsNot, ln, rg, cp, ad, mx, c1, tt]
  | mu y => cases hz []; unfold b__law_cut; simp [fnD, sSeq, SR.then, sSet, sRet, sIf, sPar, sExpr, sAsg, sAugI, sAugN, sNext, sFor, forGo, tOf, tNo, tAn, tOr', tYs, eIf, eOp2, eOp1, eOpN, eV, eC, eAnd, eOr, eNot, bE, eCh, eComp, okw, imUn, wipeG, back, aCons, aNil, aConsE, aNilE, eTup, eLst, eCall, eCall0, eCallK, eCallIo, eRep, ownOf, eSl, pNo, pSo, frE, frIo, eIsi, Res.bind, Res.bindS, Res.noex, rd, rdAll, put, esc, DL.settle, stor, noIo, okB, okA, outOf, outB, small, lstOf, put', tgT, tgAll, tgI, tgN, Tg.put, Tg.putAll, noIoAll, noIoB, setAll, itR, itE, itf, f_add, f_sub, f_subb, f_mul, f_div, f_mod, f_pow, f_lt, f_le, f_gt, f_ge, f_max, f_abs, f_neg, fEq_int, fNe_int, fIs, fIsNot, ln, rg, cp, ad, mx, c1, tt]
  | _ => cases hz []
theorem cut_d {d tc : D} {k : Int} (h : b__law_cut [.im d, .un, .un] = .rt (.im tc) [.im d, .im (.int k), .un]) : d__law_cut [.im d] = .ok (.im tc) none := by
  unfold d__law_cut
  simp [fnD, okA, h, outOf, okB]
theorem e_cut {d : D} {l : List Int} (hd : d = T l ∨ d = Ls l) (hl : l.length ≤ 100) : d__law_cut [.im d] = .ok (.im (T (cut l))) none := by
  obtain ⟨k, hm, hk⟩ := last_ix l
  have ln : fLen [d] = some (.im (.int (l.length : Nat))) := by rcases hd with rfl | rfl; exact len_T l; exact len_L l
  have ix : ∀ i, i < l.length → fIx d (.int (i : Nat)) = some (.im (.int (co l i))) := fun i hi => by rcases hd with rfl | rfl; exact ix_T hi; exact ix_L hi
  have rg := rng1 l.length (by omega)
  have cp := comp_map (vs := [2]) (t := .nm 2) (c := tOf (eOp2 fNe (eOp2 fIx (eV 0) (eV 2)) (eC (.int 0)))) (e := eOp2 fAdd (eV 2) (eC (.int 1))) (g := [.im d, .un, .un])
    (en := fun k : Nat => PyData.int (k : Int)) (P := fun i => !(co l i == 0)) (F := fun i => .int ((i : Int) + 1))
    (List.range l.length) [] (fun i hi => by
      have hi' := List.mem_range.mp hi
      have x := ix i hi'
      refine ⟨[.im d, .un, .im (.int i)], by simp [Tg.put, noIo], ?_, fun _ => ⟨.v (.im (.int ((i : Int) + 1))), ?_, ?_⟩, ?_, ?_⟩
      · simp [fnD, sSeq, SR.then, sSet, sRet, sIf, sPar, sExpr, sAsg, sAugI, sAugN, sNext, sFor, forGo, tOf, tNo, tAn, tOr', tYs, eIf, eOp2, eOp1, eOpN, eV, eC, eAnd, eOr, eNot, bE, eCh, eComp, okw, imUn, wipeG, back, aCons, aNil, aConsE, aNilE, eTup, eLst, eCall, eCall0, eCallK, eCallIo, eRep, ownOf, eSl, pNo, pSo, frE, frIo, eIsi, Res.bind, Res.bindS, Res.noex, rd, rdAll, put, esc, DL.settle, stor, noIo, okB, okA, outOf, outB, small, lstOf, put', tgT, tgAll, tgI, tgN, Tg.put, Tg.putAll, noIoAll, noIoB, setAll, itR, itE, itf, f_add, f_sub, f_subb, f_mul, f_div, f_mod, f_pow, f_lt, f_le, f_gt, f_ge, f_max, f_abs, f_neg, fEq_int, fNe_int, fIs, fIsNot, x]
      · simp [fnD, sSeq, SR.then, sSet, sRet, sIf, sPar, sExpr, sAsg, sAugI, sAugN, sNext, sFor, forGo, tOf, tNo, tAn, tOr', tYs, eIf, eOp2, eOp1, eOpN, eV, eC, eAnd, eOr, eNot, bE, eCh, eComp, okw, imUn, wipeG, back, aCons, aNil, aConsE, aNilE, eTup, eLst, eCall, eCall0, eCallK, eCallIo, eRep, ownOf, eSl, pNo, pSo, frE, frIo, eIsi, Res.bind, Res.bindS, Res.noex, rd, rdAll, put, esc, DL.settle, stor, noIo, okB, okA, outOf, outB, small, lstOf, put', tgT, tgAll, tgI, tgN, Tg.put, Tg.putAll, noIoAll, noIoB, setAll, itR, itE, itf, f_add, f_sub, f_subb, f_mul, f_div, f_mod, f_pow, f_lt, f_le, f_gt, f_ge, f_max, f_abs, f_neg, fEq_int, fNe_int, fIs, fIsNot]
      · simp [fnD, sSeq, SR.then, sSet, sRet, sIf, sPar, sExpr, sAsg, sAugI, sAugN, sNext, sFor, forGo, tOf, tNo, tAn, tOr', tYs, eIf, eOp2, eOp1, eOpN, eV, eC, eAnd, eOr, eNot, bE, eCh, eComp, okw, imUn, wipeG, back, aCons, aNil, aConsE, aNilE, eTup, eLst, eCall, eCall0, eCallK, eCallIo, eRep, ownOf, eSl, pNo, pSo, frE, frIo, eIsi, Res.bind, Res.bindS, Res.noex, rd, rdAll, put, esc, DL.settle, stor, noIo, okB, okA, outOf, outB, small, lstOf, put', tgT, tgAll, tgI, tgN, Tg.put, Tg.putAll, noIoAll, noIoB, setAll, itR, itE, itf, f_add, f_sub, f_subb, f_mul, f_div, f_mod, f_pow, f_lt, f_le, f_gt, f_ge, f_max, f_abs, f_neg, fEq_int, fNe_int, fIs, fIsNot]
      · simp [fnD, sSeq, SR.then, sSet, sRet, sIf, sPar, sExpr, sAsg, sAugI, sAugN, sNext, sFor, forGo, tOf, tNo, tAn, tOr', tYs, eIf, eOp2, eOp1, eOpN, eV, eC, eAnd, eOr, eNot, bE, eCh, eComp, okw, imUn, wipeG, back, aCons, aNil, aConsE, aNilE, eTup, eLst, eCall, eCall0, eCallK, eCallIo, eRep, ownOf, eSl, pNo, pSo, frE, frIo, eIsi, Res.bind, Res.bindS, Res.noex, rd, rdAll, put, esc, DL.settle, stor, noIo, okB, okA, outOf, outB, small, lstOf, put', tgT, tgAll, tgI, tgN, Tg.put, Tg.putAll, noIoAll, noIoB, setAll, itR, itE, itf, f_add, f_sub, f_subb, f_mul, f_div, f_mod, f_pow, f_lt, f_le, f_gt, f_ge, f_max, f_abs, f_neg, fEq_int, fNe_int, fIs, fIsNot]
      · simp [fnD, sSeq, SR.then, sSet, sRet, sIf, sPar, sExpr, sAsg, sAugI, sAugN, sNext, sFor, forGo, tOf, tNo, tAn, tOr', tYs, eIf, eOp2, eOp1, eOpN, eV, eC, eAnd, eOr, eNot, bE, eCh, eComp, okw, imUn, wipeG, back, aCons, aNil, aConsE, aNilE, eTup, eLst, eCall, eCall0, eCallK, eCallIo, eRep, ownOf, eSl, pNo, pSo, frE, frIo, eIsi, Res.bind, Res.bindS, Res.noex, rd, rdAll, put, esc, DL.settle, stor, noIo, okB, okA, outOf, outB, small, lstOf, put', tgT, tgAll, tgI, tgN, Tg.put, Tg.putAll, noIoAll, noIoB, setAll, itR, itE, itf, f_add, f_sub, f_subb, f_mul, f_div, f_mod, f_pow, f_lt, f_le, f_gt, f_ge, f_max, f_abs, f_neg, fEq_int, fNe_int, fIs, fIsNot]) (by simp; omega)
  simp only [List.nil_append] at cp
  have mx : fMax1 [.list ((((List.range l.length).filter fun i => !(co l i == 0)).map fun i => PyData.int (((i : Nat) : Int) + 1)) ++ [.int 0])] = some (.im (.int k)) := by
    have e : ((((List.range l.length).filter fun i => !(co l i == 0)).map fun i => PyData.int (((i : Nat) : Int) + 1)) ++ [.int 0]) = ((((List.range l.length).filter fun i => !(co l i == 0)).map fun i => ((i : Nat) : Int) + 1) ++ [0]).map PyData.int := by
      simp [List.map_map, Function.comp_def]
    rw [e]
    show (intsOf _).bind _ = _
    rw [intsOf_map]
    simp only [Option.bind_some, hm, Option.map_some]
  have lx : ((((List.range l.length).filter fun i => !(co l i == 0)).map fun i => PyData.int (((i : Nat) : Int) + 1))).length ≤ 100 := by
    rw [List.length_map]
    exact Nat.le_trans (List.length_filter_le _ _) (by simpa using hl)
  generalize ((((List.range l.length).filter fun i => !(co l i == 0)).map fun i => PyData.int (((i : Nat) : Int) + 1))) = xs at *
  generalize ((List.range l.length).map fun k => PyData.int ((k : Nat) : Int)) = ys at *
  have ad : fAdd (.list xs) (.list [.int 0]) = some (.mu (xs ++ [.int 0])) := by
    rw [f_addL]
    have : small (xs.length + [PyData.int 0].length) = true := by unfold small; simp; omega
    rw [if_pos this]
  rcases hd with rfl | rfl
  · exact cut_d (cut_b ln rg cp ad mx (cutB_T l k) (by rw [hk]; rfl) (fun _ => rfl))
  · exact cut_d (cut_b ln rg cp ad mx (cutB_L l k) (by rw [hk]; rfl) (fun _ => rfl))
end K11
/-! ## K11q.lean -/
set_option Elab.async false
set_option linter.all false
set_option maxRecDepth 10000
set_option maxHeartbeats 4000000
set_option exponentiation.threshold 3000
namespace K11
open PySem PySem.Spec L2 DL Po
/-! ### trimmed -/
theorem trim_wh : ∀ (n k : Nat) (l : List Int), k ≤ l.length → k < n → ∃ k' : Nat, k' ≤ k ∧ (∀ i, k' ≤ i → i < k → co l i = 0) ∧ (0 < k' → co l (k' - 1) ≠ 0) ∧
    sWhile (tAn (tOf (eOp2 fGt (eV 1) (eC (.int 0)))) (tOf (eOp2 fEq (eOp2 fIx (eV 0) (eOp2 fSub (eV 1) (eC (.int 1)))) (eC (.int 0))))) (sSet 1 (eOp2 fSub (eV 1) (eC (.int 1)))) n [.im (Ls l), .im (.int k)] = .nx [.im (Ls l), .im (.int k')]
  | 0, k, l, _, h => by omega
  | n + 1, 0, l, _, _ => ⟨0, Nat.le_refl _, fun i _ h => by omega, fun h => by omega, by unfold sWhile; simp [fnD, sSeq, SR.then, sSet, sRet, sIf, sPar, sExpr, sAsg, sAugI, sAugN, sNext, sFor, forGo, tOf, tNo, tAn, tOr', tYs, eIf, eOp2, eOp1, eOpN, eV, eC, eAnd, eOr, eNot, bE, eCh, eComp, okw, imUn, wipeG, back, aCons, aNil, aConsE, aNilE, eTup, eLst, eCall, eCall0, eCallK, eCallIo, eRep, ownOf, eSl, pNo, pSo, frE, frIo, eIsi, Res.bind, Res.bindS, Res.noex, rd, rdAll, put, esc, DL.settle, stor, noIo, okB, okA, outOf, outB, small, lstOf, put', tgT, tgAll, tgI, tgN, Tg.put, Tg.putAll, noIoAll, noIoB, setAll, itR, itE, itf, f_add, f_sub, f_subb, f_mul, f_div, f_mod, f_pow, f_lt, f_le, f_gt, f_ge, f_max, f_abs, f_neg, fEq_int, fNe_int, fIs, fIsNot]⟩
  | n + 1, k + 1, l, h, h2 => by
    have ix := ix_L (l := l) (k := k) (by omega)
    have e1 : ((k + 1 : Nat) : Int) - 1 = (k : Int) := by omega
    have e0 : (0 : Int) < ((k + 1 : Nat) : Int) := by omega
    by_cases c : co l k = 0
    · obtain ⟨k', a, b, d, e⟩ := trim_wh n k l (by omega) (by omega)
      refine ⟨k', by omega, fun i h1 h3 => ?_, d, ?_⟩
      · by_cases ci : i = k
        · subst ci; exact c
        · exact b i h1 (by omega)
      · have c' : (co l k == 0) = true := by simpa using c
        unfold sWhile
        rw [← e]
        generalize hK : ((k + 1 : Nat) : Int) = K at *
        generalize Ls l = tl at *
        simp [fnD, sSeq, SR.then, sSet, sRet, sIf, sPar, sExpr, sAsg, sAugI, sAugN, sNext, sFor, forGo, tOf, tNo, tAn, tOr', tYs, eIf, eOp2, eOp1, eOpN, eV, eC, eAnd, eOr, eNot, bE, eCh, eComp, okw, imUn, wipeG, back, aCons, aNil, aConsE, aNilE, eTup, eLst, eCall, eCall0, eCallK, eCallIo, eRep, ownOf, eSl, pNo, pSo, frE, frIo, eIsi, Res.bind, Res.bindS, Res.noex, rd, rdAll, put, esc, DL.settle, stor, noIo, okB, okA, outOf, outB, small, lstOf, put', tgT, tgAll, tgI, tgN, Tg.put, Tg.putAll, noIoAll, noIoB, setAll, itR, itE, itf, f_add, f_sub, f_subb, f_mul, f_div, f_mod, f_pow, f_lt, f_le, f_gt, f_ge, f_max, f_abs, f_neg, fEq_int, fNe_int, fIs, fIsNot, e0, e1, ix, c']
    · refine ⟨k + 1, Nat.le_refl _, fun i h1 h3 => by omega, fun _ => c, ?_⟩
      have c' : (co l k == 0) = false := by simpa using c
      unfold sWhile
      generalize hK : ((k + 1 : Nat) : Int) = K at *
      generalize Ls l = tl at *
      simp [fnD, sSeq, SR.then, sSet, sRet, sIf, sPar, sExpr, sAsg, sAugI, sAugN, sNext, sFor, forGo, tOf, tNo, tAn, tOr', tYs, eIf, eOp2, eOp1, eOpN, eV, eC, eAnd, eOr, eNot, bE, eCh, eComp, okw, imUn, wipeG, back, aCons, aNil, aConsE, aNilE, eTup, eLst, eCall, eCall0, eCallK, eCallIo, eRep, ownOf, eSl, pNo, pSo, frE, frIo, eIsi, Res.bind, Res.bindS, Res.noex, rd, rdAll, put, esc, DL.settle, stor, noIo, okB, okA, outOf, outB, small, lstOf, put', tgT, tgAll, tgI, tgN, Tg.put, Tg.putAll, noIoAll, noIoB, setAll, itR, itE, itf, f_add, f_sub, f_subb, f_mul, f_div, f_mod, f_pow, f_lt, f_le, f_gt, f_ge, f_max, f_abs, f_neg, fEq_int, fNe_int, fIs, fIsNot, e0, e1, ix, c']
theorem trim_d {l : List Int} {k' : Nat} (hw : sWhile (tAn (tOf (eOp2 fGt (eV 1) (eC (.int 0)))) (tOf (eOp2 fEq (eOp2 fIx (eV 0) (eOp2 fSub (eV 1) (eC (.int 1)))) (eC (.int 0))))) (sSet 1 (eOp2 fSub (eV 1) (eC (.int 1)))) 1000 [.im (Ls l), .im (.int (l.length : Nat))] = .nx [.im (Ls l), .im (.int k')]) (hk : cut l = l.take k') : d_trimmed [.im (Ls l)] = .ok (.im (T (cut l))) none := by
  have ln := len_L l
  have c1 := cutB_L l k'
  have tt : fTuple [Ls (l.take k')] = some (.im (T (cut l))) := by rw [hk]; rfl
  unfold d_trimmed b_trimmed
  generalize T (cut l) = tc at *
  unfold Ls at *
  generalize (l.take k').map PyData.int = tk at *
  generalize l.map PyData.int = tl at *
  generalize ((l.length : Nat) : Int) = n at *
  simp [fnD, sSeq, SR.then, sSet, sRet, sIf, sPar, sExpr, sAsg, sAugI, sAugN, sNext, sFor, forGo, tOf, tNo, tAn, tOr', tYs, eIf, eOp2, eOp1, eOpN, eV, eC, eAnd, eOr, eNot, bE, eCh, eComp, okw, imUn, wipeG, back, aCons, aNil, aConsE, aNilE, eTup, eLst, eCall, eCall0, eCallK, eCallIo, eRep, ownOf, eSl, pNo, pSo, frE, frIo, eIsi, Res.bind, Res.bindS, Res.noex, rd, rdAll, put, esc, DL.settle, stor, noIo, okB, okA, outOf, outB, small, lstOf, put', tgT, tgAll, tgI, tgN, Tg.put, Tg.putAll, noIoAll, noIoB, setAll, itR, itE, itf, f_add, f_sub, f_subb, f_mul, f_div, f_mod, f_pow, f_lt, f_le, f_gt, f_ge, f_max, f_abs, f_neg, fEq_int, fNe_int, fIs, fIsNot, ln, hw, c1, tt]
theorem e_trim {l : List Int} (h : l.length ≤ 500) : d_trimmed [.im (Ls l)] = .ok (.im (T (cut l))) none := by
  obtain ⟨k', a, b, c, e⟩ := trim_wh 1000 l.length l (Nat.le_refl _) (by omega)
  refine trim_d e (cut_take (fun n hn => ?_) c)
  by_cases cn : n < l.length
  · exact b n hn cn
  · exact co_ge (by omega)
/-! ### loops -/
theorem for_en {t : D → Gm → Res Unit} {b : Gm → SR} {P : Nat → Gm → Prop} : ∀ (l : List Int) (s : Nat) (g : Gm), P s g → (∀ i (hi : i < l.length) g, P (s + i) g → ∃ g1 g2, t (.tuple [.int ((s + i : Nat) : Int), .int (co l i)]) g = .ok () g1 ∧ b g1 = .nx g2 ∧ P (s + i + 1) g2) → ∃ g', forGo t b (enumD s (l.map .int)) g = .nx g' ∧ P (s + l.length) g'
  | [], s, g, h, _ => ⟨g, rfl, h⟩
  | a :: l, s, g, h, k => by
    obtain ⟨g1, g2, h1, h2, h3⟩ := k 0 (by simp) g h
    obtain ⟨g', h4, h5⟩ := for_en (t := t) (b := b) (P := P) l (s + 1) g2 h3 fun i hi g hP => by
      have := k (i + 1) (by simpa using hi) g (by rw [show s + (i + 1) = s + 1 + i by omega]; exact hP)
      rw [show s + (i + 1) = s + 1 + i by omega] at this
      exact this
    refine ⟨g', ?_, by rw [show s + (a :: l).length = s + 1 + l.length by simp; omega]; exact h5⟩
    have h1' : t (.tuple [.int ((s : Nat) : Int), .int a]) g = .ok () g1 := h1
    show ((t (.tuple [.int ((s : Nat) : Int), .int a]) g).bindS fun _ g1 => _) = _
    rw [h1']
    show (match b g1 with
      | .nx g2 => forGo t b (enumD (s + 1) (l.map .int)) g2
      | .ct g2 => forGo t b (enumD (s + 1) (l.map .int)) g2
      | .bk g2 => .nx g2
      | r => r) = _
    rw [h2]
    exact h4
theorem ixN_ok {n k : Nat} (h : k < n) : ixN n (k : Int) = some k := by
  unfold ixN
  simp; omega
theorem aug_ok {i k : Nat} {f : Int → Int → Int} {ti ta : Gm → Res W} {g : Gm} {row : List Int} {v : Int} {w1 w2 : W} (h1 : lstOf g[i]? = some (row.map .int)) (h2 : ti g = .ok w1 g) (r1 : rd g w1 = some (.int (k : Nat))) (h3 : ta g = .ok w2 g) (r2 : rd g w2 = some (.int v)) (hk : k < row.length) :
    sAugI i f ti ta g = .nx (put' g i ((row.set k (f (co row k) v)).map .int)) := by
  unfold sAugI
  rw [h1]
  dsimp only
  rw [h2]
  simp only [Res.bindS, r1, h1, at_int hk, h3, r2, List.length_map, ixN_ok hk, List.map_set]
theorem co_set {l : List Int} {k n : Nat} {v : Int} (h : k < l.length) : co (l.set k v) n = if n = k then v else co l n := by
  unfold co
  by_cases c : n = k
  · subst c; rw [List.getElem?_set_self h, if_pos rfl]; rfl
  · rw [List.getElem?_set_ne (Ne.symm c), if_neg c]
end K11
/-! ## K11d.lean -/
set_option Elab.async false
set_option linter.all false
set_option maxRecDepth 100000
set_option maxHeartbeats 4000000
set_option exponentiation.threshold 3000
namespace K11
open PySem PySem.Spec L2 DL Po
/-! ### draws -/
abbrev pr (x y : Int) : List D := [.int x, .int y]
theorem ixp0 (x y : Int) : fIx (.list (pr x y)) (.int 0) = some (.im (.int x)) := rfl
theorem ixp1 (x y : Int) : fIx (.list (pr x y)) (.int 1) = some (.im (.int y)) := rfl
theorem mulS (x y : Int) (h0 : 0 ≤ x) (h1 : x < 4294967296) (k0 : 0 ≤ y) (k1 : y < 4294967296) : mulB x y = true := mulB_ok (bmono (m := 40) (by unfold bd; omega) (by decide)) (bmono (m := 40) (by unfold bd; omega) (by decide))
theorem e_draw (x y m : Int) (hy : 0 ≤ y) (hy2 : y < 4294967296) (hm : 0 < m) (hm2 : m < 4294967296) : ∃ x' y' r : Int, 0 ≤ y' ∧ y' < 4294967296 ∧ 0 ≤ r ∧ r < m ∧ d__law_draw [.io (pr x y), .im (.int m)] = .ok (.im (.int r)) (some (pr x' y')) := by
  have i0 := ixp0 x y
  have i1 := ixp1 x y
  by_cases c : 0 < x
  · refine ⟨x / m, y, x % m, hy, hy2, Int.emod_nonneg _ (by omega), Int.emod_lt_of_pos _ hm, ?_⟩
    have dm : fDivmod [.int x, .int m] = some (.im (.tuple [.int (x / m), .int (x % m)])) := by
      unfold fDivmod
      have : m.natAbs.log2 < 9000 := Nat.lt_trans (lg (k := 40) (by decide) (by omega)) (by decide)
      simp [hm, this]
    dsimp only [pr] at *
    unfold d__law_draw b__law_draw
    simp [fnD, sSeq, SR.then, sSet, sRet, sIf, sPar, sExpr, sAsg, sAugI, sAugN, sNext, sFor, forGo, tOf, tNo, tAn, tOr', tYs, eIf, eOp2, eOp1, eOpN, eV, eC, eAnd, eOr, eNot, bE, eCh, eComp, okw, imUn, wipeG, back, aCons, aNil, aConsE, aNilE, eTup, eLst, eCall, eCall0, eCallK, eCallIo, eRep, ownOf, eSl, pNo, pSo, frE, frIo, eIsi, Res.bind, Res.bindS, Res.noex, rd, rdAll, put, esc, DL.settle, stor, noIo, okB, okA, outOf, outB, small, lstOf, put', tgT, tgAll, tgI, tgN, Tg.put, Tg.putAll, noIoAll, noIoB, setAll, itR, itE, itf, f_add, f_sub, f_subb, f_mul, f_div, f_mod, f_pow, f_lt, f_le, f_gt, f_ge, f_max, f_abs, f_neg, fEq_int, fNe_int, fIs, fIsNot, i0, i1, c, dm, ixN, List.set]
  · have e1 : mulB y 39373 = true := mulS _ _ hy hy2 (by decide) (by decide)
    obtain ⟨z, hz⟩ : ∃ z : Int, z = (y * 39373 + 9209).fmod 2147483587 := ⟨_, rfl⟩
    have z0 : 0 ≤ z := by rw [hz, Int.fmod_eq_emod_of_nonneg _ (by decide)]; exact Int.emod_nonneg _ (by decide)
    have z1 : z < 2147483587 := by rw [hz, Int.fmod_eq_emod_of_nonneg _ (by decide)]; exact Int.emod_lt_of_pos _ (by decide)
    have e2 : modB (y * 39373 + 9209) 2147483587 = true := rfl
    have e3 : mulB z z = true := mulS _ _ z0 (by omega) z0 (by omega)
    obtain ⟨v, hv⟩ : ∃ v : Int, v = z * z := ⟨_, rfl⟩
    have e4 : modB v 2147483563 = true := rfl
    obtain ⟨u, hu⟩ : ∃ u : Int, u = (v.fmod 2147483563).fdiv 17 := ⟨_, rfl⟩
    have e5 : ∀ i, divB i 17 = true := fun i => by unfold divB; decide
    have e6 : modB u m = true := by unfold modB; simp; omega
    refine ⟨x, z, u.fmod m, z0, by omega, ?_, ?_, ?_⟩
    · rw [Int.fmod_eq_emod_of_nonneg _ (by omega)]; exact Int.emod_nonneg _ (by omega)
    · rw [Int.fmod_eq_emod_of_nonneg _ (by omega)]; exact Int.emod_lt_of_pos _ hm
    · have j1 := ixp1 x z
      dsimp only [pr] at *
      unfold d__law_draw b__law_draw
      simp [fnD, sSeq, SR.then, sSet, sRet, sIf, sPar, sExpr, sAsg, sAugI, sAugN, sNext, sFor, forGo, tOf, tNo, tAn, tOr', tYs, eIf, eOp2, eOp1, eOpN, eV, eC, eAnd, eOr, eNot, bE, eCh, eComp, okw, imUn, wipeG, back, aCons, aNil, aConsE, aNilE, eTup, eLst, eCall, eCall0, eCallK, eCallIo, eRep, ownOf, eSl, pNo, pSo, frE, frIo, eIsi, Res.bind, Res.bindS, Res.noex, rd, rdAll, put, esc, DL.settle, stor, noIo, okB, okA, outOf, outB, small, lstOf, put', tgT, tgAll, tgI, tgN, Tg.put, Tg.putAll, noIoAll, noIoB, setAll, itR, itE, itf, f_add, f_sub, f_subb, f_mul, f_div, f_mod, f_pow, f_lt, f_le, f_gt, f_ge, f_max, f_abs, f_neg, fEq_int, fNe_int, fIs, fIsNot, i0, i1, c, e1, e2, ← hz, j1, e3, ← hv, e4, ← hu, e5, e6, ixN, List.set]
theorem p106 : powB 10 6 = true := rfl
theorem p1018 : powB 10 18 = true := rfl
/-- a lent pair of numbers stays one -/
def PR (l : List D) : Prop := ∃ x y : Int, 0 ≤ y ∧ y < 4294967296 ∧ l = pr x y
theorem e_draw' (l : List D) (h : PR l) (m : Int) (hm : 0 < m) (hm2 : m < 4294967296) : ∃ (l' : List D) (r : Int), PR l' ∧ 0 ≤ r ∧ r < m ∧ d__law_draw [.io l, .im (.int m)] = .ok (.im (.int r)) (some l') := by
  obtain ⟨x, y, h1, h2, rfl⟩ := h
  obtain ⟨x', y', r, a, b, c, d, e⟩ := e_draw x y m h1 h2 hm hm2
  exact ⟨pr x' y', r, ⟨x', y', a, b, rfl⟩, c, d, e⟩
/-! ### the pot -/
theorem cut_ints (ns : List Int) (lo hi : Option Int) : ∃ ms : List Int, cutB lo hi (.list (ns.map PyData.int)) = some (.mu (ms.map PyData.int)) := by
  refine ⟨(ns.drop (HT.sIx (ns.map PyData.int).length 0 lo)).take (HT.sIx (ns.map PyData.int).length (ns.map PyData.int).length hi - HT.sIx (ns.map PyData.int).length 0 lo), ?_⟩
  show some (B.mu (cutD _ _ _)) = _
  unfold cutD
  rw [List.map_take, List.map_drop]
theorem e_pot_end (cell : Int) (k : Nat) (hk : k < 2) (l : D) (g3 : B) (hg : noIo (some g3) = true) : ∃ y : Int, 0 ≤ y ∧ y < 4294967296 ∧ ((cell.fmod 2147483549 * 40014 + 9221 * (k : Int) + 57).fmod 2147483563 + 1) = y ∧ mulB (cell.fmod 2147483549) 40014 = true ∧ mulB 9221 (k : Int) = true := by
  refine ⟨_, ?_, ?_, rfl, ?_, ?_⟩
  · rw [Int.fmod_eq_emod_of_nonneg _ (by decide : (0:Int) ≤ 2147483563)]
    have := Int.emod_nonneg (cell.fmod 2147483549 * 40014 + 9221 * (k : Int) + 57) (by decide : (2147483563 : Int) ≠ 0)
    omega
  · rw [Int.fmod_eq_emod_of_nonneg _ (by decide : (0:Int) ≤ 2147483563)]
    have := Int.emod_lt_of_pos (cell.fmod 2147483549 * 40014 + 9221 * (k : Int) + 57) (by decide : (0 : Int) < 2147483563)
    omega
  · have h0 := Int.emod_nonneg cell (by decide : (2147483549 : Int) ≠ 0)
    have h1 := Int.emod_lt_of_pos cell (by decide : (0 : Int) < 2147483549)
    rw [Int.fmod_eq_emod_of_nonneg _ (by decide)]
    exact mulS _ _ h0 (by omega) (by decide) (by decide)
  · exact mulS _ _ (by decide) (by decide) (by omega) (by omega)
theorem e_pot (ns : List Int) (k : Nat) (hk : k < 2) : ∃ l : List D, PR l ∧ d__law_pot [.im (.list (ns.map PyData.int)), .im (.int k)] = .ok (.mu l) none := by
  have hlen : fLen [.list (ns.map PyData.int)] = some (.im (.int (ns.length : Nat))) := by
    show some (B.im (.int ((ns.map PyData.int).length : Nat))) = _
    rw [List.length_map]
  have hm1 : ∀ i : Int, modB i 2147483549 = true := fun i => by unfold modB; decide
  have hm2 : ∀ i : Int, modB i 2147483563 = true := fun i => by unfold modB; decide
  have hm3 : ∀ i : Int, modB i 1000003 = true := fun i => by unfold modB; decide
  by_cases c : k < ns.length
  · have hc : ((k : Int) < (ns.length : Int)) := by omega
    have ix : fIx (.list (ns.map PyData.int)) (.int k) = some (.im (.int ns[k])) := by
      show (atI _ _).map B.im = _
      rw [atI_nat (j := k) (by rw [List.getElem?_map, List.getElem?_eq_getElem c]; rfl)]
      rfl
    obtain ⟨cell, hcell⟩ : ∃ cell : Int, cell = if ns[k] < 0 then -ns[k] else ns[k] := ⟨_, rfl⟩
    obtain ⟨y, y0, y1, ey, k1, k2⟩ := e_pot_end cell k hk (.int 0) .un rfl
    obtain ⟨x, hx⟩ : ∃ x : Int, x = if cell - 1000000000000000000 > 0 then cell - 1000000000000000000 else 0 := ⟨_, rfl⟩
    refine ⟨pr x y, ⟨x, y, y0, y1, rfl⟩, ?_⟩
    have mx : fMax2 [.int 0, .int (cell - 1000000000000000000)] = some (.im (.int x)) := by rw [hx]; rfl
    have ab : fAbs [.int ns[k]] = some (.im (.int cell)) := by rw [hcell]; rfl
    have pw : fPow (.int 10) (.int 18) = some (.im (.int 1000000000000000000)) := rfl
    unfold d__law_pot b__law_pot
    simp [fnD, sSeq, SR.then, sSet, sRet, sIf, sPar, sExpr, sAsg, sAugI, sAugN, sNext, sFor, forGo, tOf, tNo, tAn, tOr', tYs, eIf, eOp2, eOp1, eOpN, eV, eC, eAnd, eOr, eNot, bE, eCh, eComp, okw, imUn, wipeG, back, aCons, aNil, aConsE, aNilE, eTup, eLst, eCall, eCall0, eCallK, eCallIo, eRep, ownOf, eSl, pNo, pSo, frE, frIo, eIsi, Res.bind, Res.bindS, Res.noex, rd, rdAll, put, esc, DL.settle, stor, noIo, okB, okA, outOf, outB, small, lstOf, put', tgT, tgAll, tgI, tgN, Tg.put, Tg.putAll, noIoAll, noIoB, setAll, itR, itE, itf, f_add, f_sub, f_subb, f_mul, f_div, f_mod, f_pow, f_lt, f_le, f_gt, f_ge, f_max, f_abs, f_neg, fEq_int, fNe_int, fIs, fIsNot, hlen, c, ix, ab, hm1, hm2, k1, k2, ey, p1018, mx]
  · obtain ⟨ms, hms⟩ := cut_ints ns none (some 1)
    have sm : fSum [.list (ms.map PyData.int)] = some (.im (.int ms.sum)) := by
      show (intsOf _).map _ = _
      rw [intsOf_map]; rfl
    have k0 : mulB 613 (k : Int) = true := mulS _ _ (by decide) (by decide) (by omega) (by omega)
    obtain ⟨cell, hcell⟩ : ∃ cell : Int, cell = 613 * (k : Int) + 29 + ms.sum.fmod 1000003 := ⟨_, rfl⟩
    obtain ⟨y, y0, y1, ey, k1, k2⟩ := e_pot_end cell k hk (.int 0) .un rfl
    obtain ⟨x, hx⟩ : ∃ x : Int, x = if cell - 1000000000000000000 > 0 then cell - 1000000000000000000 else 0 := ⟨_, rfl⟩
    refine ⟨pr x y, ⟨x, y, y0, y1, rfl⟩, ?_⟩
    have mx : fMax2 [.int 0, .int (cell - 1000000000000000000)] = some (.im (.int x)) := by rw [hx]; rfl
    unfold d__law_pot b__law_pot
    simp [fnD, sSeq, SR.then, sSet, sRet, sIf, sPar, sExpr, sAsg, sAugI, sAugN, sNext, sFor, forGo, tOf, tNo, tAn, tOr', tYs, eIf, eOp2, eOp1, eOpN, eV, eC, eAnd, eOr, eNot, bE, eCh, eComp, okw, imUn, wipeG, back, aCons, aNil, aConsE, aNilE, eTup, eLst, eCall, eCall0, eCallK, eCallIo, eRep, ownOf, eSl, pNo, pSo, frE, frIo, eIsi, Res.bind, Res.bindS, Res.noex, rd, rdAll, put, esc, DL.settle, stor, noIo, okB, okA, outOf, outB, small, lstOf, put', tgT, tgAll, tgI, tgN, Tg.put, Tg.putAll, noIoAll, noIoB, setAll, itR, itE, itf, f_add, f_sub, f_subb, f_mul, f_div, f_mod, f_pow, f_lt, f_le, f_gt, f_ge, f_max, f_abs, f_neg, fEq_int, fNe_int, fIs, fIsNot, hlen, c, hms, sm, eSl, pSo, pNo, k0, hm3, ← hcell, hm1, hm2, k1, k2, ey, p1018, mx]
end K11
namespace K11
open PySem PySem.Spec L2 DL Po
/-! ### a drawn row -/
abbrev rel (den : List B → FR) : Gm → Res W := eOp2 fSub (eCallIo den 0 (aConsE (eOp2 fAdd (eOp2 fMulA (eC (.int 2)) (eV 2)) (eC (.int 1))) aNilE)) (eV 2)
theorem row_el {den : List B → FR} {l l' : List D} {a b k : B} {s v : Int} (h : den [.io l, .im (.int (2 * s + 1))] = .ok (.im (.int v)) (some l')) (m : mulB 2 s = true) : rel den [.io l, a, .im (.int s), b, k] = .ok (.v (.im (.int (v - s)))) [.io l', a, .im (.int s), b, k] := by
  simp [fnD, sSeq, SR.then, sSet, sRet, sIf, sPar, sExpr, sAsg, sAugI, sAugN, sNext, sFor, forGo, tOf, tNo, tAn, tOr', tYs, eIf, eOp2, eOp1, eOpN, eV, eC, eAnd, eOr, eNot, bE, eCh, eComp, okw, imUn, wipeG, back, aCons, aNil, aConsE, aNilE, eTup, eLst, eCall, eCall0, eCallK, eCallIo, eRep, ownOf, eSl, pNo, pSo, frE, frIo, eIsi, Res.bind, Res.bindS, Res.noex, rd, rdAll, put, esc, DL.settle, stor, noIo, okB, okA, outOf, outB, small, lstOf, put', tgT, tgAll, tgI, tgN, Tg.put, Tg.putAll, noIoAll, noIoB, setAll, itR, itE, itf, f_add, f_sub, f_subb, f_mul, f_div, f_mod, f_pow, f_lt, f_le, f_gt, f_ge, f_max, f_abs, f_neg, fEq_int, fNe_int, fIs, fIsNot, h, m]
theorem compR {a : B} {s : Int} (s0 : 0 ≤ s) (s1 : s ≤ 1000000) : ∀ (ks : List Nat) (l : List D) (acc : List Int), acc.length + ks.length ≤ 1000 → PR l → ∃ (l' : List D) (xs : List Int), PR l' ∧ xs.length = ks.length ∧ (∀ x ∈ xs, -s ≤ x ∧ x ≤ s) ∧
    compGo [4] (.nm 4) tYs (rel d__law_draw) (ks.map fun k => PyData.int ((k : Nat) : Int)) (acc.map .int) [.io l, a, .im (.int s), .un, .un] = .ok ((acc ++ xs).map .int) [.io l', a, .im (.int s), .un, .un]
  | [], l, acc, _, hl => ⟨l, [], hl, rfl, fun x h => by simp at h, by rw [List.append_nil]; rfl⟩
  | k :: ks, l, acc, hc, hl => by
    obtain ⟨l1, v, P1, v0, v1, e1⟩ := e_draw' l hl (2 * s + 1) (by omega) (by omega)
    have m : mulB 2 s = true := mulS _ _ (by decide) (by decide) s0 (by omega)
    rw [List.length_cons] at hc
    obtain ⟨l', xs, P', hx, hb, e2⟩ := compR s0 s1 ks l1 (acc ++ [v - s]) (by simp; omega) P1
    refine ⟨l', (v - s) :: xs, P', by simp [hx], fun x hxm => ?_, ?_⟩
    · rcases List.mem_cons.mp hxm with rfl | hxm
      · omega
      · exact hb x hxm
    · have el := row_el (a := a) (b := .un) (k := .im (.int k)) e1 m
      rw [List.map_cons]
      unfold compGo
      have sm : small (acc.map PyData.int).length = true := by unfold small; simp; omega
      have p1 : Tg.put (.nm 4) (.int k) [.io l, a, .im (.int s), .un, .un] = some [.io l, a, .im (.int s), .un, .im (.int k)] := rfl
      rw [p1]
      dsimp only
      have q1 : tYs [.io l, a, .im (.int s), .un, .im (.int k)] = .ok true [.io l, a, .im (.int s), .un, .im (.int k)] := rfl
      rw [q1]
      simp only [Res.noex, Res.bind, if_true, el]
      have q2 : esc [.io l1, a, .im (.int s), .un, .im (.int k)] (.v (.im (.int (v - s)))) = some (.int (v - s), [.io l1, a, .im (.int s), .un, .im (.int k)]) := rfl
      rw [q2]
      dsimp only
      have q3 : okw [4] [.io l1, a, .im (.int s), .un, .im (.int k)] = true := rfl
      have q4 : wipeG [.io l1, a, .im (.int s), .un, .im (.int k)] [4] = [.io l1, a, .im (.int s), .un, .un] := rfl
      rw [sm, q3, q4]
      simp only [Bool.and_self, if_true]
      rw [show acc.map PyData.int ++ [.int (v - s)] = (acc ++ [v - s]).map .int by simp, e2]
      simp
end K11
/-! ## K11s.lean -/
set_option Elab.async false
set_option linter.all false
set_option maxRecDepth 10000
set_option maxHeartbeats 4000000
set_option exponentiation.threshold 3000
namespace K11
open PySem PySem.Spec L2 DL Po
/-! ### scaled -/
theorem co_map (p : List Int) (n : Int) (i : Nat) : co (p.map fun x => n * x) i = n * co p i := by
  unfold co
  rw [List.getElem?_map]
  cases p[i]? with
  | none => show (0 : Int) = n * 0; omega
  | some a => rfl
abbrev scb (den : List B → FR) : Gm → SR := (sRet (eCall den (aConsE (eComp [2] (itE (eV 0)) (.nm 2) tYs (eOp2 fMulA (eV 1) (eV 2))) aNilE)))
theorem it0 {ds : List D} {r : Gm} : itE (eV 0) (.im (.tuple ds) :: r) = .ok ds (.im (.tuple ds) :: r) := by
  unfold itE
  have : eV 0 (.im (.tuple ds) :: r) = .ok (.s 0) (.im (.tuple ds) :: r) := rfl
  rw [this]
  rfl
theorem sc_b {den : List B → FR} {ds xs : List D} {n : Int} {v : D} (cp : compGo [2] (.nm 2) tYs (eOp2 fMulA (eV 1) (eV 2)) ds [] [.im (.tuple ds), .im (.int n), .un] = .ok xs [.im (.tuple ds), .im (.int n), .un]) (h : den [.im (.list xs)] = .ok (.im v) none) :
    scb den [.im (.tuple ds), .im (.int n), .un] = .rt (.im v) [.im (.tuple ds), .im (.int n), .un] := by
  have hi := it0 (ds := ds) (r := [.im (.int n), .un])
  show sRet (eCall den (aConsE (eComp [2] (itE (eV 0)) (.nm 2) tYs (eOp2 fMulA (eV 1) (eV 2))) aNilE)) _ = _
  generalize itE (eV 0) = it at *
  generalize eOp2 fMulA (eV 1) (eV 2) = el at *
  simp [fnD, sSeq, SR.then, sSet, sRet, sIf, sPar, sExpr, sAsg, sAugI, sAugN, sNext, sFor, forGo, tOf, tNo, tAn, tOr', tYs, eIf, eOp2, eOp1, eOpN, eV, eC, eAnd, eOr, eNot, bE, eCh, eComp, okw, imUn, wipeG, back, aCons, aNil, aConsE, aNilE, eTup, eLst, eCall, eCall0, eCallK, eCallIo, eRep, ownOf, eSl, pNo, pSo, frE, frIo, eIsi, Res.bind, Res.bindS, Res.noex, rd, rdAll, put, esc, DL.settle, stor, noIo, okB, okA, outOf, outB, small, lstOf, put', tgT, tgAll, tgI, tgN, Tg.put, Tg.putAll, noIoAll, noIoB, setAll, itR, itE, itf, f_add, f_sub, f_subb, f_mul, f_div, f_mod, f_pow, f_lt, f_le, f_gt, f_ge, f_max, f_abs, f_neg, fEq_int, fNe_int, fIs, fIsNot, hi, cp, h]
theorem sc_w {a b v : D} {y : B} (h : b_scaled [.im a, .im b, .un] = .rt (.im v) [.im a, .im b, y]) : d_scaled [.im a, .im b] = .ok (.im v) none := by
  unfold d_scaled
  simp [fnD, okA, h, outOf, okB]
theorem sc_el {a : B} {n i : Int} (m : mulB n i = true) : eOp2 fMulA (eV 1) (eV 2) [a, .im (.int n), .im (.int i)] = .ok (.v (.im (.int (n * i)))) [a, .im (.int n), .im (.int i)] := by
  simp [fnD, sSeq, SR.then, sSet, sRet, sIf, sPar, sExpr, sAsg, sAugI, sAugN, sNext, sFor, forGo, tOf, tNo, tAn, tOr', tYs, eIf, eOp2, eOp1, eOpN, eV, eC, eAnd, eOr, eNot, bE, eCh, eComp, okw, imUn, wipeG, back, aCons, aNil, aConsE, aNilE, eTup, eLst, eCall, eCall0, eCallK, eCallIo, eRep, ownOf, eSl, pNo, pSo, frE, frIo, eIsi, Res.bind, Res.bindS, Res.noex, rd, rdAll, put, esc, DL.settle, stor, noIo, okB, okA, outOf, outB, small, lstOf, put', tgT, tgAll, tgI, tgN, Tg.put, Tg.putAll, noIoAll, noIoB, setAll, itR, itE, itf, f_add, f_sub, f_subb, f_mul, f_div, f_mod, f_pow, f_lt, f_le, f_gt, f_ge, f_max, f_abs, f_neg, fEq_int, fNe_int, fIs, fIsNot, m]
theorem e_scaled {p : List Int} {n : Int} (hl : p.length ≤ 400) (m : ∀ i ∈ p, mulB n i = true) : ∃ w, Tr w ∧ (∀ i, co w i = n * co p i) ∧ w.length ≤ p.length ∧ d_scaled [.im (T p), .im (.int n)] = .ok (.im (T w)) none := by
  have cp := comp_map (vs := [2]) (t := .nm 2) (c := tYs) (e := eOp2 fMulA (eV 1) (eV 2)) (g := [.im (T p), .im (.int n), .un]) (en := PyData.int) (P := fun _ => true) (F := fun i : Int => PyData.int (n * i)) p [] (fun i hi => ⟨[.im (T p), .im (.int n), .im (.int i)], rfl, rfl, fun _ => ⟨_, sc_el (m i hi), rfl⟩, rfl, rfl⟩) (by simp; omega)
  have ef : p.filter (fun _ => true) = p := List.filter_eq_self.mpr fun _ _ => rfl
  rw [ef, List.nil_append] at cp
  have e : (p.map fun i => PyData.int (n * i)) = (p.map fun x => n * x).map .int := by rw [List.map_map]; rfl
  rw [e] at cp
  refine ⟨cut (p.map fun x => n * x), cut_tr _, fun i => by rw [cut_co, co_map], Nat.le_trans (cut_len _) (by simp), sc_w (sc_b (den := d_trimmed) cp (e_trim (by simp; omega)))⟩
/-! ### added -/
theorem co_zip : ∀ (a b : List Int) (i : Nat), b.length ≤ a.length → co ((a.zip b).map (fun p => p.1 + p.2) ++ a.drop b.length) i = co a i + co b i
  | a, [], i, _ => by
    have : co ([] : List Int) i = 0 := co_ge (Nat.zero_le _)
    simp [this]
  | [], b :: bs, i, h => by simp at h
  | a :: as, b :: bs, 0, h => by simp [co]
  | a :: as, b :: bs, i + 1, h => by
    have ih := co_zip as bs i (by simpa using h)
    simpa [co] using ih
theorem zip_map : ∀ (a b : List Int), zipD (a.map .int) (b.map .int) = (a.zip b).map fun p => PyData.tuple [.int p.1, .int p.2]
  | [], _ => by simp [zipD]
  | _ :: _, [] => by simp [zipD]
  | a :: as, b :: bs => by
    show PyData.tuple [.int a, .int b] :: zipD (as.map .int) (bs.map .int) = _
    rw [zip_map as bs]; rfl
theorem cut_from (l : List Int) (k : Nat) : cutB (some (k : Int)) none (T l) = some (.im (T (l.drop k))) := by
  show some (B.im (.tuple (cutD _ _ _))) = _
  unfold cutD
  rw [HT.sIx_nat, HT.sIx_none, List.length_map, ← List.map_drop, ← List.map_take]
  congr 3
  by_cases c : k ≤ l.length
  · rw [Nat.min_eq_left c, List.take_of_length_le (by rw [List.length_drop]; omega)]
  · rw [Nat.min_eq_right (by omega), List.drop_of_length_le (by omega), List.drop_of_length_le (by omega)]; simp
abbrev adb (den : List B → FR) (el : Gm → Res W) : Gm → SR := (sSeq (sAsg (tgN (.tp [(.nm 2), (.nm 3)])) (eIf (tOf (eOp2 fGe (eOpN fLen (aCons (eV 0) aNil)) (eOpN fLen (aCons (eV 1) aNil)))) (eTup (aConsE (eV 0) (aConsE (eV 1) aNilE))) (eTup (aConsE (eV 1) (aConsE (eV 0) aNilE)))))
  (sRet (eCall den (aConsE (eOp2 fAdd (eComp [4, 5] (itf fZip (aConsE (eV 2) (aConsE (eV 3) aNilE))) (.tp [(.nm 4), (.nm 5)]) tYs el) (eOpN fList (aCons (eSl (eV 2) (pSo (eOpN fLen (aCons (eV 3) aNil))) pNo) aNil))) aNilE))))
theorem ad_b {den : List B → FR} {el : Gm → Res W} {p q o r dr v : D} {n m k : Int} {ds xs ys zs : List D} {c : Bool} (h1 : fLen [p] = some (.im (.int n))) (h2 : fLen [q] = some (.im (.int m))) (hc : decide (m ≤ n) = c) (ho : (if c = true then p else q) = o) (hr : (if c = true then q else p) = r) (hz : fZip [o, r] = some ds)
    (cp : compGo [4, 5] (.tp [(.nm 4), (.nm 5)]) tYs el ds [] [.im p, .im q, .im o, .im r, .un, .un] = .ok xs [.im p, .im q, .im o, .im r, .un, .un]) (h3 : fLen [r] = some (.im (.int k))) (h4 : cutB (some k) none o = some (.im dr)) (h5 : fList [dr] = some (.mu ys)) (h6 : fAdd (.list xs) (.list ys) = some (.mu zs)) (h7 : den [.im (.list zs)] = .ok (.im v) none) :
    ∃ g, adb den el [.im p, .im q, .un, .un, .un, .un] = .rt (.im v) (.im p :: g) := by
  refine ⟨[.im q, .im o, .im r, .un, .un], ?_⟩
  cases c with
  | true =>
    simp only [if_true] at ho hr
    subst ho hr
    have hc' : m ≤ n := of_decide_eq_true hc
    rw [h2] at h3
    cases h3
    simp [fnD, sSeq, SR.then, sSet, sRet, sIf, sPar, sExpr, sAsg, sAugI, sAugN, sNext, sFor, forGo, tOf, tNo, tAn, tOr', tYs, eIf, eOp2, eOp1, eOpN, eV, eC, eAnd, eOr, eNot, bE, eCh, eComp, okw, imUn, wipeG, back, aCons, aNil, aConsE, aNilE, eTup, eLst, eCall, eCall0, eCallK, eCallIo, eRep, ownOf, eSl, pNo, pSo, frE, frIo, eIsi, Res.bind, Res.bindS, Res.noex, rd, rdAll, put, esc, DL.settle, stor, noIo, okB, okA, outOf, outB, small, lstOf, put', tgT, tgAll, tgI, tgN, Tg.put, Tg.putAll, noIoAll, noIoB, setAll, itR, itE, itf, f_add, f_sub, f_subb, f_mul, f_div, f_mod, f_pow, f_lt, f_le, f_gt, f_ge, f_max, f_abs, f_neg, fEq_int, fNe_int, fIs, fIsNot, h1, h2, hc', hz, cp, h4, h5, h6, h7]
  | false =>
    simp only [Bool.false_eq_true, if_false] at ho hr
    subst ho hr
    have hc' : ¬ m ≤ n := of_decide_eq_false hc
    rw [h1] at h3
    cases h3
    simp [fnD, sSeq, SR.then, sSet, sRet, sIf, sPar, sExpr, sAsg, sAugI, sAugN, sNext, sFor, forGo, tOf, tNo, tAn, tOr', tYs, eIf, eOp2, eOp1, eOpN, eV, eC, eAnd, eOr, eNot, bE, eCh, eComp, okw, imUn, wipeG, back, aCons, aNil, aConsE, aNilE, eTup, eLst, eCall, eCall0, eCallK, eCallIo, eRep, ownOf, eSl, pNo, pSo, frE, frIo, eIsi, Res.bind, Res.bindS, Res.noex, rd, rdAll, put, esc, DL.settle, stor, noIo, okB, okA, outOf, outB, small, lstOf, put', tgT, tgAll, tgI, tgN, Tg.put, Tg.putAll, noIoAll, noIoB, setAll, itR, itE, itf, f_add, f_sub, f_subb, f_mul, f_div, f_mod, f_pow, f_lt, f_le, f_gt, f_ge, f_max, f_abs, f_neg, fEq_int, fNe_int, fIs, fIsNot, h1, h2, hc', hz, cp, h4, h5, h6, h7]
theorem ad_w {a b v : D} {g : Gm} (h : b_added [.im a, .im b, .un, .un, .un, .un] = .rt (.im v) (.im a :: g)) : d_added [.im a, .im b] = .ok (.im v) none := by
  unfold d_added
  simp [fnD, okA, h, outOf, okB]
theorem ad_el {a b c d : B} {i j : Int} : eOp2 fAdd (eV 4) (eV 5) [a, b, c, d, .im (.int i), .im (.int j)] = .ok (.v (.im (.int (i + j)))) [a, b, c, d, .im (.int i), .im (.int j)] := by
  simp [fnD, sSeq, SR.then, sSet, sRet, sIf, sPar, sExpr, sAsg, sAugI, sAugN, sNext, sFor, forGo, tOf, tNo, tAn, tOr', tYs, eIf, eOp2, eOp1, eOpN, eV, eC, eAnd, eOr, eNot, bE, eCh, eComp, okw, imUn, wipeG, back, aCons, aNil, aConsE, aNilE, eTup, eLst, eCall, eCall0, eCallK, eCallIo, eRep, ownOf, eSl, pNo, pSo, frE, frIo, eIsi, Res.bind, Res.bindS, Res.noex, rd, rdAll, put, esc, DL.settle, stor, noIo, okB, okA, outOf, outB, small, lstOf, put', tgT, tgAll, tgI, tgN, Tg.put, Tg.putAll, noIoAll, noIoB, setAll, itR, itE, itf, f_add, f_sub, f_subb, f_mul, f_div, f_mod, f_pow, f_lt, f_le, f_gt, f_ge, f_max, f_abs, f_neg, fEq_int, fNe_int, fIs, fIsNot]
theorem e_added {p q : List Int} (lp : p.length ≤ 200) (lq : q.length ≤ 200) : ∃ w, Tr w ∧ (∀ i, co w i = co p i + co q i) ∧ w.length ≤ 200 ∧ d_added [.im (T p), .im (T q)] = .ok (.im (T w)) none := by
  have main : ∀ (o r : List Int) (c : Bool), decide ((q.length : Int) ≤ (p.length : Int)) = c → (if c = true then T p else T q) = T o → (if c = true then T q else T p) = T r → r.length ≤ o.length → o.length ≤ 200 → (∀ i, co o i + co r i = co p i + co q i) →
      ∃ w, Tr w ∧ (∀ i, co w i = co p i + co q i) ∧ w.length ≤ 200 ∧ d_added [.im (T p), .im (T q)] = .ok (.im (T w)) none := by
    intro o r c hc ho hr hl ho2 hs
    have cp := comp_map (vs := [4, 5]) (t := .tp [.nm 4, .nm 5]) (c := tYs) (e := eOp2 fAdd (eV 4) (eV 5)) (g := [.im (T p), .im (T q), .im (T o), .im (T r), .un, .un]) (en := fun x : Int × Int => PyData.tuple [.int x.1, .int x.2]) (P := fun _ => true) (F := fun x : Int × Int => PyData.int (x.1 + x.2)) (o.zip r) [] (fun x _ => ⟨[.im (T p), .im (T q), .im (T o), .im (T r), .im (.int x.1), .im (.int x.2)], rfl, rfl, fun _ => ⟨_, ad_el, rfl⟩, rfl, rfl⟩) (by simp; omega)
    have ef : (o.zip r).filter (fun _ => true) = o.zip r := List.filter_eq_self.mpr fun _ _ => rfl
    rw [ef, List.nil_append] at cp
    have hz : fZip [T o, T r] = some ((o.zip r).map fun x : Int × Int => PyData.tuple [.int x.1, .int x.2]) := by
      show some (zipD _ _) = _
      rw [zip_map]
    have e : ((o.zip r).map fun x : Int × Int => PyData.int (x.1 + x.2)) = ((o.zip r).map fun x => x.1 + x.2).map .int := by rw [List.map_map]; rfl
    rw [e] at cp
    have ad : fAdd (.list (((o.zip r).map fun x => x.1 + x.2).map .int)) (.list ((o.drop r.length).map .int)) = some (.mu (((o.zip r).map (fun x => x.1 + x.2) ++ o.drop r.length).map .int)) := by
      rw [f_addL]
      have sm : small ((((o.zip r).map fun x => x.1 + x.2).map PyData.int).length + ((o.drop r.length).map PyData.int).length) = true := by unfold small; simp; omega
      rw [if_pos sm, List.map_append]
    have ll : ((o.zip r).map (fun x => x.1 + x.2) ++ o.drop r.length).length ≤ 200 := by simp; omega
    obtain ⟨g, hg⟩ := ad_b (den := d_trimmed) (el := eOp2 fAdd (eV 4) (eV 5)) (len_T p) (len_T q) hc ho hr hz cp (len_T r) (cut_from o r.length) (show fList [T (o.drop r.length)] = _ from rfl) ad (e_trim (by omega))
    exact ⟨_, cut_tr _, fun i => by rw [cut_co, co_zip o r i hl, hs], Nat.le_trans (cut_len _) ll, ad_w hg⟩
  by_cases c : (q.length : Int) ≤ (p.length : Int)
  · exact main p q true (decide_eq_true c) rfl rfl (by omega) lp fun i => rfl
  · exact main q p false (decide_eq_false c) rfl rfl (by omega) lq fun i => by omega
end K11
/-! ## K11r.lean -/
set_option Elab.async false
set_option linter.all false
set_option maxRecDepth 10000
set_option maxHeartbeats 4000000
set_option exponentiation.threshold 3000
namespace K11
open PySem PySem.Spec L2 DL Po
/-! ### products -/
abbrev rw (row : List Int) : B := .mu (row.map .int)
def fr (b : B) : Prop := noIo (some b) = true
theorem fr_im (d : D) : fr (.im d) := rfl
abbrev tga : D → Gm → Res Unit := tgN (.tp [(.nm 3), (.nm 4)])
abbrev tgb : D → Gm → Res Unit := tgN (.tp [(.nm 5), (.nm 6)])
theorem tgb_ok {a b r x3 x4 x5 x6 : B} {i s : D} (h5 : fr x5) (h6 : fr x6) : tgb (.tuple [i, s]) [a, b, r, x3, x4, x5, x6] = .ok () [a, b, r, x3, x4, .im i, .im s] := by
  unfold fr at *
  simp [tgb, tgN, Tg.put, Tg.putAll, h5, h6]
theorem tga_ok {a b r x3 x4 x5 x6 : B} {i s : D} (h3 : fr x3) (h4 : fr x4) : tga (.tuple [i, s]) [a, b, r, x3, x4, x5, x6] = .ok () [a, b, r, .im i, .im s, x5, x6] := by
  unfold fr at *
  simp [tga, tgN, Tg.put, Tg.putAll, h3, h4]
/-- what the inner row does -/
def Inn (inn : Gm → SR) : Prop := ∀ (a b : B) (row : List Int) (low i : Nat) (f s : Int), low + i < row.length → mulB f s = true → inn [a, b, rw row, .im (.int low), .im (.int f), .im (.int i), .im (.int s)] = .nx [a, b, rw (row.set (low + i) (co row (low + i) + f * s)), .im (.int low), .im (.int f), .im (.int i), .im (.int s)]
theorem inn1 : Inn (sAugI 2 (fun i j => i + j) (eOp2 fAdd (eV 3) (eV 5)) (eOp2 fMulA (eV 4) (eV 6))) := fun a b row low i f s h m => by
  refine (aug_ok (row := row) (k := low + i) (v := f * s) (w1 := .v (.im (.int ((low : Int) + (i : Int))))) (w2 := .v (.im (.int (f * s)))) rfl ?_ rfl ?_ rfl h).trans ?_
  · simp [fnD, sSeq, SR.then, sSet, sRet, sIf, sPar, sExpr, sAsg, sAugI, sAugN, sNext, sFor, forGo, tOf, tNo, tAn, tOr', tYs, eIf, eOp2, eOp1, eOpN, eV, eC, eAnd, eOr, eNot, bE, eCh, eComp, okw, imUn, wipeG, back, aCons, aNil, aConsE, aNilE, eTup, eLst, eCall, eCall0, eCallK, eCallIo, eRep, ownOf, eSl, pNo, pSo, frE, frIo, eIsi, Res.bind, Res.bindS, Res.noex, rd, rdAll, put, esc, DL.settle, stor, noIo, okB, okA, outOf, outB, small, lstOf, put', tgT, tgAll, tgI, tgN, Tg.put, Tg.putAll, noIoAll, noIoB, setAll, itR, itE, itf, f_add, f_sub, f_subb, f_mul, f_div, f_mod, f_pow, f_lt, f_le, f_gt, f_ge, f_max, f_abs, f_neg, fEq_int, fNe_int, fIs, fIsNot]
  · simp [fnD, sSeq, SR.then, sSet, sRet, sIf, sPar, sExpr, sAsg, sAugI, sAugN, sNext, sFor, forGo, tOf, tNo, tAn, tOr', tYs, eIf, eOp2, eOp1, eOpN, eV, eC, eAnd, eOr, eNot, bE, eCh, eComp, okw, imUn, wipeG, back, aCons, aNil, aConsE, aNilE, eTup, eLst, eCall, eCall0, eCallK, eCallIo, eRep, ownOf, eSl, pNo, pSo, frE, frIo, eIsi, Res.bind, Res.bindS, Res.noex, rd, rdAll, put, esc, DL.settle, stor, noIo, okB, okA, outOf, outB, small, lstOf, put', tgT, tgAll, tgI, tgN, Tg.put, Tg.putAll, noIoAll, noIoB, setAll, itR, itE, itf, f_add, f_sub, f_subb, f_mul, f_div, f_mod, f_pow, f_lt, f_le, f_gt, f_ge, f_max, f_abs, f_neg, fEq_int, fNe_int, fIs, fIsNot, m]
  · simp [put', rw]
theorem inn2_0 {a b : B} {xs : List D} {l i v f s : Int} {j : Nat} (hx : fIx (.list xs) (.int (l + i)) = some (.im (.int v))) (hi : ixN xs.length (l + i) = some j) (m : mulB f s = true) : sAsg (tgI 2 (eOp2 fAdd (eV 3) (eV 5))) (eOp2 fAdd (eOp2 fIx (eV 2) (eOp2 fAdd (eV 3) (eV 5))) (eOp2 fMulA (eV 4) (eV 6))) [a, b, .mu xs, .im (.int l), .im (.int f), .im (.int i), .im (.int s)] =
    .nx [a, b, .mu (xs.set j (.int (v + f * s))), .im (.int l), .im (.int f), .im (.int i), .im (.int s)] := by
  simp [fnD, sSeq, SR.then, sSet, sRet, sIf, sPar, sExpr, sAsg, sAugI, sAugN, sNext, sFor, forGo, tOf, tNo, tAn, tOr', tYs, eIf, eOp2, eOp1, eOpN, eV, eC, eAnd, eOr, eNot, bE, eCh, eComp, okw, imUn, wipeG, back, aCons, aNil, aConsE, aNilE, eTup, eLst, eCall, eCall0, eCallK, eCallIo, eRep, ownOf, eSl, pNo, pSo, frE, frIo, eIsi, Res.bind, Res.bindS, Res.noex, rd, rdAll, put, esc, DL.settle, stor, noIo, okB, okA, outOf, outB, small, lstOf, put', tgT, tgAll, tgI, tgN, Tg.put, Tg.putAll, noIoAll, noIoB, setAll, itR, itE, itf, f_add, f_sub, f_subb, f_mul, f_div, f_mod, f_pow, f_lt, f_le, f_gt, f_ge, f_max, f_abs, f_neg, fEq_int, fNe_int, fIs, fIsNot, hx, hi, m]
theorem inn2 : Inn (sAsg (tgI 2 (eOp2 fAdd (eV 3) (eV 5))) (eOp2 fAdd (eOp2 fIx (eV 2) (eOp2 fAdd (eV 3) (eV 5))) (eOp2 fMulA (eV 4) (eV 6)))) := fun a b row low i f s h m => by
  refine (inn2_0 (xs := row.map .int) (l := low) (i := i) (v := co row (low + i)) (j := low + i) (ix_L (k := low + i) h) (by rw [List.length_map]; exact ixN_ok (k := low + i) h) m).trans ?_
  unfold rw
  rw [List.map_set]
theorem loop1 {inn : Gm → SR} (hin : Inn inn) {a b x5 x6 : B} {row o : List Int} {low : Nat} {f : Int} (h5 : fr x5) (h6 : fr x6) (hN : low + o.length ≤ row.length) (m : ∀ i < o.length, mulB f (co o i) = true) :
    ∃ row' y5 y6, fr y5 ∧ fr y6 ∧ row'.length = row.length ∧ (∀ n, co row' n = co row n + f * sh low (co o) n) ∧ forGo tgb inn (enumD 0 (o.map .int)) [a, b, rw row, .im (.int low), .im (.int f), x5, x6] = .nx [a, b, rw row', .im (.int low), .im (.int f), y5, y6] := by
  obtain ⟨g', h1, row', y5, y6, f5, f6, l', k, rfl⟩ := for_en (t := tgb) (b := inn) (P := fun i g => ∃ row' y5 y6, fr y5 ∧ fr y6 ∧ row'.length = row.length ∧ (∀ n, co row' n = co row n + (if low ≤ n ∧ n < low + i then f * co o (n - low) else 0)) ∧ g = [a, b, rw row', .im (.int low), .im (.int f), y5, y6])
    o 0 [a, b, rw row, .im (.int low), .im (.int f), x5, x6] ⟨row, x5, x6, h5, h6, rfl, fun n => by rw [if_neg (by omega)]; omega, rfl⟩ (fun i hi g hP => by
      obtain ⟨row', y5, y6, f5, f6, l', k, rfl⟩ := hP
      rw [Nat.zero_add] at k ⊢
      refine ⟨_, _, tgb_ok f5 f6, hin _ _ _ _ _ _ _ (by omega) (m i hi), _, _, _, fr_im _, fr_im _, by rw [List.length_set]; exact l', fun n => ?_, rfl⟩
      rw [co_set (by omega), k n]
      by_cases e : n = low + i
      · subst e
        rw [if_pos rfl, k, if_neg (by omega), if_pos (by omega), show low + i - low = i by omega]
        omega
      · rw [if_neg e]
        by_cases c1 : low ≤ n ∧ n < low + i
        · rw [if_pos c1, if_pos (by omega)]
        · rw [if_neg c1, if_neg (by omega)])
  refine ⟨row', y5, y6, f5, f6, l', fun n => ?_, h1⟩
  rw [k n]
  unfold sh
  by_cases c1 : low ≤ n
  · rw [if_pos c1]
    by_cases c2 : n < low + (0 + o.length)
    · rw [if_pos ⟨c1, c2⟩]
    · rw [if_neg (by omega), co_ge (l := o) (by omega)]; omega
  · rw [if_neg (by omega), if_neg c1]; omega
theorem fEnum_T (l : List Int) : fEnum [T l] = some (enumD 0 (l.map .int)) := rfl
theorem for_T {i : Nat} {t : D → Gm → Res Unit} {b : Gm → SR} {g : Gm} {l : List Int} (h : g[i]? = some (.im (T l))) : sFor (itf fEnum (aConsE (eV i) aNilE)) t b g = forGo t b (enumD 0 (l.map .int)) g := by
  simp [sFor, itf, aConsE, aNilE, eV, h, Res.bind, Res.bindS, esc, fEnum_T]
theorem loop0 {inn : Gm → SR} (hin : Inn inn) {x3 x4 x5 x6 : B} {q o row : List Int} (h3 : fr x3) (h4 : fr x4) (h5 : fr x5) (h6 : fr x6) (hN : q.length + o.length ≤ row.length + 1) (hz : ∀ n, co row n = 0) (m : ∀ i < q.length, ∀ j < o.length, mulB (co q i) (co o j) = true) :
    ∃ row' y3 y4 y5 y6, row'.length = row.length ∧ (∀ n, co row' n = pm q (co o) n) ∧ sFor (itf fEnum (aConsE (eV 0) aNilE)) tga (sFor (itf fEnum (aConsE (eV 1) aNilE)) tgb inn) [.im (T q), .im (T o), rw row, x3, x4, x5, x6] = .nx [.im (T q), .im (T o), rw row', y3, y4, y5, y6] := by
  obtain ⟨g', h1, row', y3, y4, y5, y6, f3, f4, f5, f6, l', k, rfl⟩ := for_en (t := tga) (b := sFor (itf fEnum (aConsE (eV 1) aNilE)) tgb inn) (P := fun i g => ∃ row' y3 y4 y5 y6, fr y3 ∧ fr y4 ∧ fr y5 ∧ fr y6 ∧ row'.length = row.length ∧ (∀ n, co row' n = sumTo i fun j => co q j * sh j (co o) n) ∧ g = [.im (T q), .im (T o), rw row', y3, y4, y5, y6])
    q 0 [.im (T q), .im (T o), rw row, x3, x4, x5, x6] ⟨row, x3, x4, x5, x6, h3, h4, h5, h6, rfl, hz, rfl⟩ (fun i hi g hP => by
      obtain ⟨row', y3, y4, y5, y6, f3, f4, f5, f6, l', k, rfl⟩ := hP
      rw [Nat.zero_add] at k ⊢
      obtain ⟨row2, z5, z6, g5, g6, l2, k2, e2⟩ := loop1 hin (a := .im (T q)) (b := .im (T o)) (row := row') (o := o) (low := i) (f := co q i) f5 f6 (by omega) (m i hi)
      refine ⟨_, _, tga_ok f3 f4, (for_T (l := o) rfl).trans e2, row2, _, _, z5, z6, fr_im _, fr_im _, g5, g6, by omega, fun n => ?_, rfl⟩
      rw [k2 n, k n]; rfl)
  exact ⟨row', y3, y4, y5, y6, l', fun n => by rw [k n, Nat.zero_add]; rfl, (for_T (l := q) rfl).trans h1⟩
theorem co_rep (n i : Nat) : co (List.replicate n (0 : Int)) i = 0 := by
  unfold co
  rw [List.getElem?_replicate]
  split <;> rfl
theorem seq_nx {t u : Gm → SR} {g g1 : Gm} {r : SR} (h : t g = .nx g1) (k : u g1 = r) : sSeq t u g = r := by
  unfold sSeq; rw [h]; exact k
theorem pr_s0 {tq to : D} {nq no : Int} {x3 x4 x5 x6 : B} (l1 : fLen [tq] = some (.im (.int nq))) (l2 : fLen [to] = some (.im (.int no))) (c : (-9223372036854775808 : Int) ≤ nq + no) (c2 : nq + no < 1000) : sSet 2 (eRep (eLst (aConsE (eC (.int 0)) aNilE)) (eOp2 fAdd (eOpN fLen (aCons (eV 0) aNil)) (eOpN fLen (aCons (eV 1) aNil)))) [.im tq, .im to, .un, x3, x4, x5, x6] =
      .nx [.im tq, .im to, .mu (List.replicate (nq + no).toNat (.int 0)), x3, x4, x5, x6] := by
  simp [fnD, sSeq, SR.then, sSet, sRet, sIf, sPar, sExpr, sAsg, sAugI, sAugN, sNext, sFor, forGo, tOf, tNo, tAn, tOr', tYs, eIf, eOp2, eOp1, eOpN, eV, eC, eAnd, eOr, eNot, bE, eCh, eComp, okw, imUn, wipeG, back, aCons, aNil, aConsE, aNilE, eTup, eLst, eCall, eCall0, eCallK, eCallIo, eRep, ownOf, eSl, pNo, pSo, frE, frIo, eIsi, Res.bind, Res.bindS, Res.noex, rd, rdAll, put, esc, DL.settle, stor, noIo, okB, okA, outOf, outB, small, lstOf, put', tgT, tgAll, tgI, tgN, Tg.put, Tg.putAll, noIoAll, noIoB, setAll, itR, itE, itf, f_add, f_sub, f_subb, f_mul, f_div, f_mod, f_pow, f_lt, f_le, f_gt, f_ge, f_max, f_abs, f_neg, fEq_int, fNe_int, fIs, fIsNot, l1, l2, c, c2]
theorem pr_s3 {den : List B → FR} {a b y3 y4 y5 y6 : B} {xs : List D} {v : D} (e3 : den [.im (.list xs)] = .ok (.im v) none) : sRet (eCall den (aConsE (eV 2) aNilE)) [a, b, .mu xs, y3, y4, y5, y6] = .rt (.im v) [a, b, .im (.list xs), y3, y4, y5, y6] := by
  simp [fnD, sSeq, SR.then, sSet, sRet, sIf, sPar, sExpr, sAsg, sAugI, sAugN, sNext, sFor, forGo, tOf, tNo, tAn, tOr', tYs, eIf, eOp2, eOp1, eOpN, eV, eC, eAnd, eOr, eNot, bE, eCh, eComp, okw, imUn, wipeG, back, aCons, aNil, aConsE, aNilE, eTup, eLst, eCall, eCall0, eCallK, eCallIo, eRep, ownOf, eSl, pNo, pSo, frE, frIo, eIsi, Res.bind, Res.bindS, Res.noex, rd, rdAll, put, esc, DL.settle, stor, noIo, okB, okA, outOf, outB, small, lstOf, put', tgT, tgAll, tgI, tgN, Tg.put, Tg.putAll, noIoAll, noIoB, setAll, itR, itE, itf, f_add, f_sub, f_subb, f_mul, f_div, f_mod, f_pow, f_lt, f_le, f_gt, f_ge, f_max, f_abs, f_neg, fEq_int, fNe_int, fIs, fIsNot, e3]
theorem pr_w {a b v : D} {g : Gm} (h : b__law_product [.im a, .im b, .un, .un, .un, .un, .un] = .rt (.im v) (.im a :: g)) : d__law_product [.im a, .im b] = .ok (.im v) none := by
  unfold d__law_product
  simp [fnD, okA, h, outOf, okB]
theorem e_product {q o : List Int} (lq : q.length ≤ 40) (lo : o.length ≤ 40) (m : ∀ i < q.length, ∀ j < o.length, mulB (co q i) (co o j) = true) : ∃ w, Tr w ∧ (∀ n, co w n = pm q (co o) n) ∧ w.length ≤ q.length + o.length ∧ d__law_product [.im (T q), .im (T o)] = .ok (.im (T w)) none := by
  obtain ⟨row', y3, y4, y5, y6, l', k, e1⟩ := loop0 inn1 (x3 := .un) (x4 := .un) (x5 := .un) (x6 := .un) (q := q) (o := o) (row := List.replicate (q.length + o.length) (0 : Int)) rfl rfl rfl rfl (by simp) (fun n => co_rep _ n) m
  rw [List.length_replicate] at l'
  have s0 := pr_s0 (x3 := .un) (x4 := .un) (x5 := .un) (x6 := .un) (len_T q) (len_T o) (by omega) (by omega)
  rw [show ((q.length : Int) + (o.length : Int)).toNat = q.length + o.length by omega, ← List.map_replicate (f := PyData.int)] at s0
  exact ⟨cut row', cut_tr _, fun n => by rw [cut_co, k], Nat.le_trans (cut_len _) (by omega), pr_w (seq_nx s0 (seq_nx e1 (pr_s3 (den := d__law_cut) (e_cut (.inr rfl) (by omega)))))⟩
end K11
/-! ## K11u.lean -/
set_option Elab.async false
set_option linter.all false
set_option maxRecDepth 10000
set_option maxHeartbeats 4000000
set_option exponentiation.threshold 3000
namespace K11
open PySem PySem.Spec L2 DL Po
/-! ### polynomials -/
abbrev pel (den : List B → FR) : Gm → Res W := eAnd (eCall den (aConsE (eV 1) aNilE)) (eOp2 fLe (eOpN fAbs (aCons (eV 1) aNil)) (eC (.int 1000000)))
theorem pel_ok {den : List B → FR} {a : B} {i : Int} (h : den [.im (.int i)] = .ok (.im (.bool true)) none) : pel den [a, .im (.int i)] = .ok (.v (.im (.bool (decide (i.natAbs ≤ 1000000))))) [a, .im (.int i)] := by
  have e : (if i < 0 then -i else i) = (i.natAbs : Int) := by split <;> omega
  have e2 : ((i.natAbs : Int) ≤ 1000000) = (i.natAbs ≤ 1000000) := by simp only [eq_iff_iff]; omega
  simp [fnD, sSeq, SR.then, sSet, sRet, sIf, sPar, sExpr, sAsg, sAugI, sAugN, sNext, sFor, forGo, tOf, tNo, tAn, tOr', tYs, eIf, eOp2, eOp1, eOpN, eV, eC, eAnd, eOr, eNot, bE, eCh, eComp, okw, imUn, wipeG, back, aCons, aNil, aConsE, aNilE, eTup, eLst, eCall, eCall0, eCallK, eCallIo, eRep, ownOf, eSl, pNo, pSo, frE, frIo, eIsi, Res.bind, Res.bindS, Res.noex, rd, rdAll, put, esc, DL.settle, stor, noIo, okB, okA, outOf, outB, small, lstOf, put', tgT, tgAll, tgI, tgN, Tg.put, Tg.putAll, noIoAll, noIoB, setAll, itR, itE, itf, f_add, f_sub, f_subb, f_mul, f_div, f_mod, f_pow, f_lt, f_le, f_gt, f_ge, f_max, f_abs, f_neg, fEq_int, fNe_int, fIs, fIsNot, h, e, e2]
theorem bools_map {α : Type} (f : α → Bool) : ∀ l : List α, boolsOf (l.map fun a => PyData.bool (f a)) = some (l.map f)
  | [] => rfl
  | a :: l => by
    show (boolsOf (l.map fun a => PyData.bool (f a))).map (f a :: ·) = _
    rw [bools_map f l]; rfl
theorem poly_b {den : List B → FR} {d : D} {xs ys : List D} {n v : Int} {e : Bool} (t : isB "tuple" d = some true) (ln : fLen [d] = some (.im (.int n))) (hn : n ≤ 13) (he : esc [.im d, .un] (.s 0) = some (.tuple ys, [.im d, .un]))
    (cp : compGo [1] (.nm 1) tYs (pel den) ys [] [.im d, .un] = .ok xs [.im d, .un]) (al : fAll [.list xs] = some (.im (.bool true))) (q : fEq d (.tuple []) = some (.im (.bool e))) (hv : e = false → fIx d (.int (-1)) = some (.im (.int v)) ∧ v ≠ 0) :
    (sSeq (sIf (tOr' (tNo (tOf (eIsi "tuple" (eV 0)))) (tOf (eOp2 fGt (eOpN fLen (aCons (eV 0) aNil)) (eOp2 fAdd (eC (.int 12)) (eC (.int 1)))))) (sRet (eC (.bool false))) sNext)
  (sSeq (sIf (tNo (tOf (eOpN fAll (aCons (eComp [1] (itE (eV 0)) (.nm 1) tYs (pel den)) aNil)))) (sRet (eC (.bool false))) sNext)
  (sRet (eOr (eOp2 fEq (eV 0) (eTup aNilE)) (eOp2 fNe (eOp2 fIx (eV 0) (eOp1 fNeg (eC (.int 1)))) (eC (.int 0))))))) [.im d, .un] = .rt (.im (.bool true)) [.im d, .un] := by
  have hn' : ¬ (13 < n) := by omega
  have hi : itE (eV 0) [.im d, .un] = .ok ys [.im d, .un] := by
    unfold itE
    have : eV 0 [.im d, .un] = .ok (.s 0) [.im d, .un] := rfl
    rw [this]
    simp only [Res.bind, he]
  generalize itE (eV 0) = it at *
  generalize pel den = pe at *
  cases e with
  | true => simp [fnD, sSeq, SR.then, sSet, sRet, sIf, sPar, sExpr, sAsg, sAugI, sAugN, sNext, sFor, forGo, tOf, tNo, tAn, tOr', tYs, eIf, eOp2, eOp1, eOpN, eV, eC, eAnd, eOr, eNot, bE, eCh, eComp, okw, imUn, wipeG, back, aCons, aNil, aConsE, aNilE, eTup, eLst, eCall, eCall0, eCallK, eCallIo, eRep, ownOf, eSl, pNo, pSo, frE, frIo, eIsi, Res.bind, Res.bindS, Res.noex, rd, rdAll, put, esc, DL.settle, stor, noIo, okB, okA, outOf, outB, small, lstOf, put', tgT, tgAll, tgI, tgN, Tg.put, Tg.putAll, noIoAll, noIoB, setAll, itR, itE, itf, f_add, f_sub, f_subb, f_mul, f_div, f_mod, f_pow, f_lt, f_le, f_gt, f_ge, f_max, f_abs, f_neg, fEq_int, fNe_int, fIs, fIsNot, t, ln, hn', hi, cp, al, q]
  | false =>
    obtain ⟨h1, h2⟩ := hv rfl
    have h3 : (v == 0) = false := by simpa using h2
    simp [fnD, sSeq, SR.then, sSet, sRet, sIf, sPar, sExpr, sAsg, sAugI, sAugN, sNext, sFor, forGo, tOf, tNo, tAn, tOr', tYs, eIf, eOp2, eOp1, eOpN, eV, eC, eAnd, eOr, eNot, bE, eCh, eComp, okw, imUn, wipeG, back, aCons, aNil, aConsE, aNilE, eTup, eLst, eCall, eCall0, eCallK, eCallIo, eRep, ownOf, eSl, pNo, pSo, frE, frIo, eIsi, Res.bind, Res.bindS, Res.noex, rd, rdAll, put, esc, DL.settle, stor, noIo, okB, okA, outOf, outB, small, lstOf, put', tgT, tgAll, tgI, tgN, Tg.put, Tg.putAll, noIoAll, noIoB, setAll, itR, itE, itf, f_add, f_sub, f_subb, f_mul, f_div, f_mod, f_pow, f_lt, f_le, f_gt, f_ge, f_max, f_abs, f_neg, fEq_int, fNe_int, fIs, fIsNot, t, ln, hn', hi, cp, al, q, h1, h3]
theorem poly_w {d : D} {b : B} (h : b_is_polynomial [.im d, .un] = .rt b [.im d, .un]) (hb : okB b = true) : d_is_polynomial [.im d] = .ok b none := by
  unfold d_is_polynomial
  simp [fnD, okA, h, outOf, hb]
theorem eq_nil (l : List Int) : fEq (T l) (.tuple []) = some (.im (.bool (l.isEmpty))) := by
  have c : ∀ l : List Int, PyData.canLayAll0 (l.map .int) = true := by
    intro l
    induction l with
    | nil => rfl
    | cons a l ih => show (true && PyData.canLayAll0 (l.map .int)) = true; rw [ih]; rfl
  have dp : ∀ l : List Int, PyData.depthAll (l.map .int) = 0 := by
    intro l
    induction l with
    | nil => rfl
    | cons a l ih => show max 0 (PyData.depthAll (l.map .int)) = 0; rw [ih]; rfl
  have s : shp (T l) = true := by
    show (PyData.canLayAll0 (l.map .int) && decide (PyData.depthAll (l.map .int) + 1 ≤ 64)) = true
    rw [c, dp]; rfl
  have s2 : shp (.tuple []) = true := rfl
  unfold fEq
  rw [s, s2]
  cases l with
  | nil => rfl
  | cons a l => rfl
theorem e_int (i : Int) : d_is_integer [.im (.int i)] = .ok (.im (.bool true)) none := rfl
theorem e_poly {l : List Int} (tl : Tr l) (hl : l.length ≤ 13) (hb : ∀ x ∈ l, x.natAbs ≤ 1000000) : d_is_polynomial [.im (T l)] = .ok (.im (.bool true)) none := by
  have cp := comp_map (vs := [1]) (t := .nm 1) (c := tYs) (e := pel d_is_integer) (g := [.im (T l), .un]) (en := PyData.int) (P := fun _ => true) (F := fun i : Int => PyData.bool (decide (i.natAbs ≤ 1000000))) l [] (fun i hi => by
    refine ⟨[.im (T l), .im (.int i)], rfl, rfl, fun _ => ⟨_, pel_ok (e_int i), rfl⟩, rfl, rfl⟩) (by simp; omega)
  have ef : l.filter (fun _ => true) = l := List.filter_eq_self.mpr fun _ _ => rfl
  rw [ef, List.nil_append] at cp
  have al : fAll [.list (l.map fun i : Int => PyData.bool (decide (i.natAbs ≤ 1000000)))] = some (.im (.bool true)) := by
    show (boolsOf _).map _ = _
    rw [bools_map]
    simp only [Option.map_some]
    congr 3
    rw [List.all_map, List.all_eq_true]
    exact fun x hx => decide_eq_true (hb x hx)
  refine poly_w (poly_b (den := d_is_integer) (v := co l (l.length - 1)) rfl (len_T l) (by omega) rfl cp al (eq_nil l) fun he => ?_) rfl
  have hne : l ≠ [] := by intro z; subst z; cases he
  exact ⟨ix_last hne, tr_top tl hne⟩
theorem want_b {den : List B → FR} {d : D} (h : den [.im d] = .ok (.im (.bool true)) none) : (sSeq (sIf (tNo (tOf (eCall den (aConsE (eV 0) aNilE)))) (sRaise1 "InvalidPolynomial" (aConsE (eV 0) aNilE)) sNext)
  (sRet (eV 0))) [.im d] = .rt (.im d) [.im d] := by
  simp [fnD, sSeq, SR.then, sSet, sRet, sIf, sPar, sExpr, sAsg, sAugI, sAugN, sNext, sFor, forGo, tOf, tNo, tAn, tOr', tYs, eIf, eOp2, eOp1, eOpN, eV, eC, eAnd, eOr, eNot, bE, eCh, eComp, okw, imUn, wipeG, back, aCons, aNil, aConsE, aNilE, eTup, eLst, eCall, eCall0, eCallK, eCallIo, eRep, ownOf, eSl, pNo, pSo, frE, frIo, eIsi, Res.bind, Res.bindS, Res.noex, rd, rdAll, put, esc, DL.settle, stor, noIo, okB, okA, outOf, outB, small, lstOf, put', tgT, tgAll, tgI, tgN, Tg.put, Tg.putAll, noIoAll, noIoB, setAll, itR, itE, itf, f_add, f_sub, f_subb, f_mul, f_div, f_mod, f_pow, f_lt, f_le, f_gt, f_ge, f_max, f_abs, f_neg, fEq_int, fNe_int, fIs, fIsNot, h]
theorem want_w {d : D} {v : D} (h : b_want_polynomial [.im d] = .rt (.im v) [.im d]) : d_want_polynomial [.im d] = .ok (.im v) none := by
  unfold d_want_polynomial
  simp [fnD, okA, h, outOf, okB]
theorem want_x {d : D} {e : Exn} (h : b_want_polynomial [.im d] = .ex e [.im d]) : d_want_polynomial [.im d] = .ex e none := by
  unfold d_want_polynomial
  simp [fnD, okA, h, outOf, okB]
theorem want_bx {den : List B → FR} {d : D} (h : den [.im d] = .ok (.im (.bool false)) none) : (sSeq (sIf (tNo (tOf (eCall den (aConsE (eV 0) aNilE)))) (sRaise1 "InvalidPolynomial" (aConsE (eV 0) aNilE)) sNext)
  (sRet (eV 0))) [.im d] = .ex ("InvalidPolynomial", [("value", d)]) [.im d] := by
  simp [fnD, sSeq, SR.then, sSet, sRet, sIf, sPar, sExpr, sAsg, sAugI, sAugN, sNext, sFor, forGo, tOf, tNo, tAn, tOr', tYs, eIf, eOp2, eOp1, eOpN, eV, eC, eAnd, eOr, eNot, bE, eCh, eComp, okw, imUn, wipeG, back, aCons, aNil, aConsE, aNilE, eTup, eLst, eCall, eCall0, eCallK, eCallIo, eRep, ownOf, eSl, pNo, pSo, frE, frIo, eIsi, Res.bind, Res.bindS, Res.noex, rd, rdAll, put, esc, DL.settle, stor, noIo, okB, okA, outOf, outB, small, lstOf, put', tgT, tgAll, tgI, tgN, Tg.put, Tg.putAll, noIoAll, noIoB, setAll, itR, itE, itf, f_add, f_sub, f_subb, f_mul, f_div, f_mod, f_pow, f_lt, f_le, f_gt, f_ge, f_max, f_abs, f_neg, fEq_int, fNe_int, fIs, fIsNot, h, sRaise1]
theorem e_want {d : D} (h : d_is_polynomial [.im d] = .ok (.im (.bool true)) none) : d_want_polynomial [.im d] = .ok (.im d) none := want_w (want_b h)
theorem e_wantx {d : D} (h : d_is_polynomial [.im d] = .ok (.im (.bool false)) none) : d_want_polynomial [.im d] = .ex ("InvalidPolynomial", [("value", d)]) none := want_x (want_bx h)
/-! ### the judges -/
theorem is_b {d : D} (h : RS d) : b__law_is [.im d, .im d] = .rt (.im (.bool true)) [.im d, .im d] := by
  have h1 := fRepr_ok h.1
  have h2 := fEq_str h.2
  unfold b__law_is
  generalize PyData.shown d = z at *
  simp [fnD, sSeq, SR.then, sSet, sRet, sIf, sPar, sExpr, sAsg, sAugI, sAugN, sNext, sFor, forGo, tOf, tNo, tAn, tOr', tYs, eIf, eOp2, eOp1, eOpN, eV, eC, eAnd, eOr, eNot, bE, eCh, eComp, okw, imUn, wipeG, back, aCons, aNil, aConsE, aNilE, eTup, eLst, eCall, eCall0, eCallK, eCallIo, eRep, ownOf, eSl, pNo, pSo, frE, frIo, eIsi, Res.bind, Res.bindS, Res.noex, rd, rdAll, put, esc, DL.settle, stor, noIo, okB, okA, outOf, outB, small, lstOf, put', tgT, tgAll, tgI, tgN, Tg.put, Tg.putAll, noIoAll, noIoB, setAll, itR, itE, itf, f_add, f_sub, f_subb, f_mul, f_div, f_mod, f_pow, f_lt, f_le, f_gt, f_ge, f_max, f_abs, f_neg, fEq_int, fNe_int, fIs, fIsNot, h1, h2]
theorem e_is {d : D} (h : RS d) : d__law_is [.im d, .im d] = .ok (.im (.bool true)) none := by
  have hb := is_b h
  unfold d__law_is
  simp [fnD, okA, hb, outOf, okB]
/-- a polynomial of this law -/
structure Pl (l : List Int) : Prop where
  tr : Tr l
  len : l.length ≤ 13
  sm : ∀ x ∈ l, x.natAbs ≤ 1000000
theorem Pl.bd {l : List Int} (h : Pl l) (k : Nat) : bd 20 (co l k) := by
  by_cases c : k < l.length
  · rw [co_lt c]
    have := h.sm _ (List.getElem_mem c)
    show (l[k]).natAbs < 2 ^ 20
    have e : (2 : Nat) ^ 20 = 1048576 := by decide
    omega
  · rw [co_ge (by omega)]; show (0 : Nat) < 2 ^ 20; decide
theorem pw_ok {l : List Int} (h : Pl l) : d_want_polynomial [.im (T l)] = .ok (.im (T l)) none := e_want (e_poly h.tr h.len h.sm)
theorem mem_bd {l : List Int} {n : Nat} (h : ∀ k, Po.bd n (co l k)) (hn : n ≤ 1000) : ∀ a ∈ l, Po.bd 1000 a := fun a ha => by
  obtain ⟨i, hi, rfl⟩ := List.getElem_of_mem ha
  have := h i
  rw [co_lt hi] at this
  exact bmono this hn
theorem mem_co {l : List Int} {n : Nat} (h : ∀ a ∈ l, a.natAbs ≤ n) (k : Nat) : (co l k).natAbs ≤ n := by
  by_cases c : k < l.length
  · rw [co_lt c]; exact h _ (List.getElem_mem c)
  · rw [co_ge (by omega)]; exact Nat.zero_le _
end K11
/-! ## K11v.lean -/
set_option Elab.async false
set_option linter.all false
set_option maxRecDepth 10000
set_option maxHeartbeats 4000000
set_option exponentiation.threshold 3000
namespace K11
open PySem PySem.Spec L2 DL Po
/-! ### multiplied -/
abbrev inb : Gm → SR := sAsg (tgI 2 (eOp2 fAdd (eV 3) (eV 5))) (eOp2 fAdd (eOp2 fIx (eV 2) (eOp2 fAdd (eV 3) (eV 5))) (eOp2 fMulA (eV 4) (eV 6)))
abbrev mlb (lp : Gm → SR) : Gm → SR := (sSeq (sIf (tOr' (tOf (eOp2 fEq (eV 0) (eTup aNilE))) (tOf (eOp2 fEq (eV 1) (eTup aNilE)))) (sRet (eTup aNilE)) sNext)
  (sSeq (sSet 2 (eRep (eLst (aConsE (eC (.int 0)) aNilE)) (eOp2 fSub (eOp2 fAdd (eOpN fLen (aCons (eV 0) aNil)) (eOpN fLen (aCons (eV 1) aNil))) (eC (.int 1)))))
  (sSeq lp
  (sRet (eOpN fTuple (aCons (eV 2) aNil))))))
section
variable {p q : D} {lp : Gm → SR}
theorem ml_nil {b1 b2 : Bool} (h1 : fEq p (.tuple []) = some (.im (.bool b1))) (h2 : fEq q (.tuple []) = some (.im (.bool b2))) (h : (b1 || b2) = true) : mlb lp [.im p, .im q, .un, .un, .un, .un, .un] = .rt (.im (.tuple [])) [.im p, .im q, .un, .un, .un, .un, .un] := by
  cases b1 with
  | true => simp [fnD, sSeq, SR.then, sSet, sRet, sIf, sPar, sExpr, sAsg, sAugI, sAugN, sNext, sFor, forGo, tOf, tNo, tAn, tOr', tYs, eIf, eOp2, eOp1, eOpN, eV, eC, eAnd, eOr, eNot, bE, eCh, eComp, okw, imUn, wipeG, back, aCons, aNil, aConsE, aNilE, eTup, eLst, eCall, eCall0, eCallK, eCallIo, eRep, ownOf, eSl, pNo, pSo, frE, frIo, eIsi, Res.bind, Res.bindS, Res.noex, rd, rdAll, put, esc, DL.settle, stor, noIo, okB, okA, outOf, outB, small, lstOf, put', tgT, tgAll, tgI, tgN, Tg.put, Tg.putAll, noIoAll, noIoB, setAll, itR, itE, itf, f_add, f_sub, f_subb, f_mul, f_div, f_mod, f_pow, f_lt, f_le, f_gt, f_ge, f_max, f_abs, f_neg, fEq_int, fNe_int, fIs, fIsNot, h1]
  | false => cases b2 with
    | true => simp [fnD, sSeq, SR.then, sSet, sRet, sIf, sPar, sExpr, sAsg, sAugI, sAugN, sNext, sFor, forGo, tOf, tNo, tAn, tOr', tYs, eIf, eOp2, eOp1, eOpN, eV, eC, eAnd, eOr, eNot, bE, eCh, eComp, okw, imUn, wipeG, back, aCons, aNil, aConsE, aNilE, eTup, eLst, eCall, eCall0, eCallK, eCallIo, eRep, ownOf, eSl, pNo, pSo, frE, frIo, eIsi, Res.bind, Res.bindS, Res.noex, rd, rdAll, put, esc, DL.settle, stor, noIo, okB, okA, outOf, outB, small, lstOf, put', tgT, tgAll, tgI, tgN, Tg.put, Tg.putAll, noIoAll, noIoB, setAll, itR, itE, itf, f_add, f_sub, f_subb, f_mul, f_div, f_mod, f_pow, f_lt, f_le, f_gt, f_ge, f_max, f_abs, f_neg, fEq_int, fNe_int, fIs, fIsNot, h1, h2]
    | false => cases h
theorem ml_ok {n m k : Int} {xs : List D} {y3 y4 y5 y6 : B} {tz : D} (h1 : fEq p (.tuple []) = some (.im (.bool false))) (h2 : fEq q (.tuple []) = some (.im (.bool false))) (l1 : fLen [p] = some (.im (.int n))) (l2 : fLen [q] = some (.im (.int m))) (hk : n + m - 1 = k) (c : (-9223372036854775808 : Int) ≤ k) (c2 : k < 1000)
    (hl : lp [.im p, .im q, .mu (List.replicate k.toNat (.int 0)), .un, .un, .un, .un] = .nx [.im p, .im q, .mu xs, y3, y4, y5, y6]) (ht : fTuple [.list xs] = some (.im tz)) : mlb lp [.im p, .im q, .un, .un, .un, .un, .un] = .rt (.im tz) [.im p, .im q, .mu xs, y3, y4, y5, y6] := by
  simp [fnD, sSeq, SR.then, sSet, sRet, sIf, sPar, sExpr, sAsg, sAugI, sAugN, sNext, sFor, forGo, tOf, tNo, tAn, tOr', tYs, eIf, eOp2, eOp1, eOpN, eV, eC, eAnd, eOr, eNot, bE, eCh, eComp, okw, imUn, wipeG, back, aCons, aNil, aConsE, aNilE, eTup, eLst, eCall, eCall0, eCallK, eCallIo, eRep, ownOf, eSl, pNo, pSo, frE, frIo, eIsi, Res.bind, Res.bindS, Res.noex, rd, rdAll, put, esc, DL.settle, stor, noIo, okB, okA, outOf, outB, small, lstOf, put', tgT, tgAll, tgI, tgN, Tg.put, Tg.putAll, noIoAll, noIoB, setAll, itR, itE, itf, f_add, f_sub, f_subb, f_mul, f_div, f_mod, f_pow, f_lt, f_le, f_gt, f_ge, f_max, f_abs, f_neg, fEq_int, fNe_int, fIs, fIsNot, h1, h2, l1, l2, hk, c, c2, hl, ht]
theorem ml_w {v : D} {g : Gm} (h : b_multiplied [.im p, .im q, .un, .un, .un, .un, .un] = .rt (.im v) (.im p :: g)) : d_multiplied [.im p, .im q] = .ok (.im v) none := by
  unfold d_multiplied
  simp [fnD, okA, h, outOf, okB]
end
theorem pm_nil {g : Nat → Int} {n : Nat} : pm [] g n = 0 := rfl
theorem pm_zero {q : List Int} {n : Nat} : pm q (co []) n = 0 := sum_zero fun j _ => by
  unfold sh
  split
  · rw [co_ge (l := []) (Nat.zero_le _)]; omega
  · omega
theorem e_mult {q o : List Int} (tq : Tr q) (to : Tr o) (lq : q.length ≤ 40) (lo : o.length ≤ 40) (m : ∀ i < q.length, ∀ j < o.length, mulB (co q i) (co o j) = true) : ∃ w, Tr w ∧ (∀ n, co w n = pm q (co o) n) ∧ (w.length = if q.length = 0 ∨ o.length = 0 then 0 else q.length + o.length - 1) ∧ d_multiplied [.im (T q), .im (T o)] = .ok (.im (T w)) none := by
  by_cases cz : q = [] ∨ o = []
  · refine ⟨[], fun h => absurd rfl h, fun n => ?_, ?_, ml_w (ml_nil (lp := sFor (itf fEnum (aConsE (eV 0) aNilE)) tga (sFor (itf fEnum (aConsE (eV 1) aNilE)) tgb inb)) (eq_nil q) (eq_nil o) ?_)⟩
    · rw [co_ge (Nat.zero_le _)]
      rcases cz with rfl | rfl
      · rfl
      · exact pm_zero.symm
    · rw [if_pos]; rfl
      rcases cz with rfl | rfl
      · exact .inl rfl
      · exact .inr rfl
    · rcases cz with rfl | rfl
      · rfl
      · simp
  · have hq : q ≠ [] := fun h => cz (.inl h)
    have ho : o ≠ [] := fun h => cz (.inr h)
    have pq := List.length_pos_iff.mpr hq
    have po := List.length_pos_iff.mpr ho
    have e0 := eq_nil q
    have e1 := eq_nil o
    rw [show q.isEmpty = false by cases q with | nil => exact absurd rfl hq | cons a l => rfl] at e0
    rw [show o.isEmpty = false by cases o with | nil => exact absurd rfl ho | cons a l => rfl] at e1
    obtain ⟨row', y3, y4, y5, y6, l', k, e2⟩ := loop0 inn2 (x3 := .un) (x4 := .un) (x5 := .un) (x6 := .un) (q := q) (o := o) (row := List.replicate (q.length + o.length - 1) (0 : Int)) rfl rfl rfl rfl (by simp; omega) (fun n => co_rep _ n) m
    rw [List.length_replicate] at l'
    have top : co row' (q.length + o.length - 2) ≠ 0 := by
      rw [k]
      show sumTo q.length _ ≠ 0
      rw [sum_one (t := q.length - 1) (by omega) fun j hj ne => ?_]
      · unfold sh
        rw [if_pos (by omega), show q.length + o.length - 2 - (q.length - 1) = o.length - 1 by omega]
        exact Int.mul_ne_zero (tr_top tq hq) (tr_top to ho)
      · unfold sh
        rw [if_pos (by omega), co_ge (l := o) (by omega)]; omega
    have trr : Tr row' := fun hne => by
      rw [List.getLast_eq_getElem, ← co_lt (by omega), l', show q.length + o.length - 1 - 1 = q.length + o.length - 2 by omega]
      exact top
    refine ⟨row', trr, k, by rw [l', if_neg (by omega)], ml_w (ml_ok (y3 := y3) (y4 := y4) (y5 := y5) (y6 := y6) e0 e1 (len_T q) (len_T o) rfl (by omega) (by omega) ?_ rfl)⟩
    rw [show ((q.length : Int) + (o.length : Int) - 1).toNat = q.length + o.length - 1 by omega, ← List.map_replicate (f := PyData.int)]
    exact e2
end K11
/-! ## K11w.lean -/
set_option Elab.async false
set_option linter.all false
set_option maxRecDepth 10000
set_option maxHeartbeats 4000000
set_option exponentiation.threshold 3000
namespace K11
open PySem PySem.Spec L2 DL Po
/-! ### the law's own sum -/
theorem at_b1 {d : D} {n i v : Int} (l : fLen [d] = some (.im (.int n))) (h : i < n) (hx : fIx d (.int i) = some (.im (.int v))) : b__law_at [.im d, .im (.int i)] = .rt (.im (.int v)) [.im d, .im (.int i)] := by
  unfold b__law_at
  simp [fnD, sSeq, SR.then, sSet, sRet, sIf, sPar, sExpr, sAsg, sAugI, sAugN, sNext, sFor, forGo, tOf, tNo, tAn, tOr', tYs, eIf, eOp2, eOp1, eOpN, eV, eC, eAnd, eOr, eNot, bE, eCh, eComp, okw, imUn, wipeG, back, aCons, aNil, aConsE, aNilE, eTup, eLst, eCall, eCall0, eCallK, eCallIo, eRep, ownOf, eSl, pNo, pSo, frE, frIo, eIsi, Res.bind, Res.bindS, Res.noex, rd, rdAll, put, esc, DL.settle, stor, noIo, okB, okA, outOf, outB, small, lstOf, put', tgT, tgAll, tgI, tgN, Tg.put, Tg.putAll, noIoAll, noIoB, setAll, itR, itE, itf, f_add, f_sub, f_subb, f_mul, f_div, f_mod, f_pow, f_lt, f_le, f_gt, f_ge, f_max, f_abs, f_neg, fEq_int, fNe_int, fIs, fIsNot, l, h, hx]
theorem at_b2 {d : D} {n i : Int} (l : fLen [d] = some (.im (.int n))) (h : ¬ i < n) : b__law_at [.im d, .im (.int i)] = .rt (.im (.int 0)) [.im d, .im (.int i)] := by
  unfold b__law_at
  simp [fnD, sSeq, SR.then, sSet, sRet, sIf, sPar, sExpr, sAsg, sAugI, sAugN, sNext, sFor, forGo, tOf, tNo, tAn, tOr', tYs, eIf, eOp2, eOp1, eOpN, eV, eC, eAnd, eOr, eNot, bE, eCh, eComp, okw, imUn, wipeG, back, aCons, aNil, aConsE, aNilE, eTup, eLst, eCall, eCall0, eCallK, eCallIo, eRep, ownOf, eSl, pNo, pSo, frE, frIo, eIsi, Res.bind, Res.bindS, Res.noex, rd, rdAll, put, esc, DL.settle, stor, noIo, okB, okA, outOf, outB, small, lstOf, put', tgT, tgAll, tgI, tgN, Tg.put, Tg.putAll, noIoAll, noIoB, setAll, itR, itE, itf, f_add, f_sub, f_subb, f_mul, f_div, f_mod, f_pow, f_lt, f_le, f_gt, f_ge, f_max, f_abs, f_neg, fEq_int, fNe_int, fIs, fIsNot, l, h]
theorem at_w {a b v : D} (h : b__law_at [.im a, .im b] = .rt (.im v) [.im a, .im b]) : d__law_at [.im a, .im b] = .ok (.im v) none := by
  unfold d__law_at
  simp [fnD, okA, h, outOf, okB]
theorem e_at (l : List Int) (i : Nat) : d__law_at [.im (T l), .im (.int i)] = .ok (.im (.int (co l i))) none := by
  by_cases c : i < l.length
  · exact at_w (at_b1 (len_T l) (by omega) (ix_T c))
  · rw [co_ge (by omega)]
    exact at_w (at_b2 (len_T l) (by omega))
abbrev smb (den : List B → FR) (el : Gm → Res W) : Gm → SR := (sSeq (sSet 3 (eOpN fMax2 (aCons (eOpN fLen (aCons (eV 0) aNil)) (aCons (eOpN fLen (aCons (eV 1) aNil)) aNil))))
  (sRet (eCall den (aConsE (eComp [4] (itR (aConsE (eV 3) aNilE)) (.nm 4) tYs el) aNilE))))
abbrev sme (den : List B → FR) : Gm → Res W := eOp2 fAdd (eCall den (aConsE (eV 0) (aConsE (eV 4) aNilE))) (eOp2 fMulA (eV 2) (eCall den (aConsE (eV 1) (aConsE (eV 4) aNilE))))
theorem sm_b {den : List B → FR} {el : Gm → Res W} {p q s v : D} {n m k : Int} {ds xs : List D} (l1 : fLen [p] = some (.im (.int n))) (l2 : fLen [q] = some (.im (.int m))) (hk : (if m > n then m else n) = k) (hr : rngOf [.int k] = some ds) (cp : compGo [4] (.nm 4) tYs el ds [] [.im p, .im q, .im s, .im (.int k), .un] = .ok xs [.im p, .im q, .im s, .im (.int k), .un])
    (h : den [.im (.list xs)] = .ok (.im v) none) : smb den el [.im p, .im q, .im s, .un, .un] = .rt (.im v) [.im p, .im q, .im s, .im (.int k), .un] := by
  have hk' : (if n < m then m else n) = k := hk
  simp [fnD, sSeq, SR.then, sSet, sRet, sIf, sPar, sExpr, sAsg, sAugI, sAugN, sNext, sFor, forGo, tOf, tNo, tAn, tOr', tYs, eIf, eOp2, eOp1, eOpN, eV, eC, eAnd, eOr, eNot, bE, eCh, eComp, okw, imUn, wipeG, back, aCons, aNil, aConsE, aNilE, eTup, eLst, eCall, eCall0, eCallK, eCallIo, eRep, ownOf, eSl, pNo, pSo, frE, frIo, eIsi, Res.bind, Res.bindS, Res.noex, rd, rdAll, put, esc, DL.settle, stor, noIo, okB, okA, outOf, outB, small, lstOf, put', tgT, tgAll, tgI, tgN, Tg.put, Tg.putAll, noIoAll, noIoB, setAll, itR, itE, itf, f_add, f_sub, f_subb, f_mul, f_div, f_mod, f_pow, f_lt, f_le, f_gt, f_ge, f_max, f_abs, f_neg, fEq_int, fNe_int, fIs, fIsNot, l1, l2, hk', hr, cp, h]
theorem sm_el {den : List B → FR} {p q a : D} {b : B} {s i x y : Int} (h1 : den [.im p, .im (.int i)] = .ok (.im (.int x)) none) (h2 : den [.im q, .im (.int i)] = .ok (.im (.int y)) none) (m : mulB s y = true) : sme den [.im p, .im q, .im (.int s), b, .im (.int i)] = .ok (.v (.im (.int (x + s * y)))) [.im p, .im q, .im (.int s), b, .im (.int i)] := by
  simp [fnD, sSeq, SR.then, sSet, sRet, sIf, sPar, sExpr, sAsg, sAugI, sAugN, sNext, sFor, forGo, tOf, tNo, tAn, tOr', tYs, eIf, eOp2, eOp1, eOpN, eV, eC, eAnd, eOr, eNot, bE, eCh, eComp, okw, imUn, wipeG, back, aCons, aNil, aConsE, aNilE, eTup, eLst, eCall, eCall0, eCallK, eCallIo, eRep, ownOf, eSl, pNo, pSo, frE, frIo, eIsi, Res.bind, Res.bindS, Res.noex, rd, rdAll, put, esc, DL.settle, stor, noIo, okB, okA, outOf, outB, small, lstOf, put', tgT, tgAll, tgI, tgN, Tg.put, Tg.putAll, noIoAll, noIoB, setAll, itR, itE, itf, f_add, f_sub, f_subb, f_mul, f_div, f_mod, f_pow, f_lt, f_le, f_gt, f_ge, f_max, f_abs, f_neg, fEq_int, fNe_int, fIs, fIsNot, h1, h2, m]
theorem sm_w {a b c v : D} {y : B} (h : b__law_sum [.im a, .im b, .im c, .un, .un] = .rt (.im v) [.im a, .im b, .im c, y, .un]) : d__law_sum [.im a, .im b, .im c] = .ok (.im v) none := by
  unfold d__law_sum
  simp [fnD, okA, h, outOf, okB]
theorem e_sum {p q : List Int} {s : Int} (lp : p.length ≤ 90) (lq : q.length ≤ 90) (m : ∀ i, mulB s (co q i) = true) : ∃ w, Tr w ∧ (∀ i, co w i = co p i + s * co q i) ∧ d__law_sum [.im (T p), .im (T q), .im (.int s)] = .ok (.im (T w)) none := by
  let k := max p.length q.length
  have hk : (if (q.length : Int) > (p.length : Int) then (q.length : Int) else (p.length : Int)) = ((k : Nat) : Int) := by split <;> omega
  have cp := comp_map (vs := [4]) (t := .nm 4) (c := tYs) (e := sme d__law_at) (g := [.im (T p), .im (T q), .im (.int s), .im (.int (k : Nat)), .un]) (en := fun i : Nat => PyData.int (i : Int)) (P := fun _ => true) (F := fun i : Nat => PyData.int (co p i + s * co q i)) (List.range k) [] (fun i _ => ⟨[.im (T p), .im (T q), .im (.int s), .im (.int (k : Nat)), .im (.int i)], rfl, rfl, fun _ => ⟨_, sm_el (a := .none) (e_at p i) (e_at q i) (m i), rfl⟩, rfl, rfl⟩) (by simp; omega)
  have ef : (List.range k).filter (fun _ => true) = List.range k := List.filter_eq_self.mpr fun _ _ => rfl
  rw [ef, List.nil_append] at cp
  have e : ((List.range k).map fun i : Nat => PyData.int (co p i + s * co q i)) = ((List.range k).map fun i => co p i + s * co q i).map .int := by rw [List.map_map]; rfl
  rw [e] at cp
  refine ⟨cut ((List.range k).map fun i => co p i + s * co q i), cut_tr _, fun i => ?_, sm_w (sm_b (den := d__law_cut) (el := sme d__law_at) (len_T p) (len_T q) hk (rng1 k (by omega)) cp (e_cut (.inr rfl) (by simp; omega)))⟩
  rw [cut_co]
  by_cases c : i < k
  · unfold co
    rw [List.getElem?_map, List.getElem?_range c]
    rfl
  · rw [co_ge (by simp; omega), co_ge (l := p) (by omega), co_ge (l := q) (by omega)]; omega
/-! ### sums told -/
section
variable {dw de ds : List B → FR} {p q v w : D}
theorem pp_b (h1 : dw [.im p] = .ok (.im p) none) (h2 : dw [.im q] = .ok (.im q) none) (h3 : de [.im p, .im q] = .ok (.im v) none) : (sRet (eCall de (aConsE (eCall dw (aConsE (eV 0) aNilE)) (aConsE (eCall dw (aConsE (eV 1) aNilE)) aNilE)))) [.im p, .im q] = .rt (.im v) [.im p, .im q] := by
  simp [fnD, sSeq, SR.then, sSet, sRet, sIf, sPar, sExpr, sAsg, sAugI, sAugN, sNext, sFor, forGo, tOf, tNo, tAn, tOr', tYs, eIf, eOp2, eOp1, eOpN, eV, eC, eAnd, eOr, eNot, bE, eCh, eComp, okw, imUn, wipeG, back, aCons, aNil, aConsE, aNilE, eTup, eLst, eCall, eCall0, eCallK, eCallIo, eRep, ownOf, eSl, pNo, pSo, frE, frIo, eIsi, Res.bind, Res.bindS, Res.noex, rd, rdAll, put, esc, DL.settle, stor, noIo, okB, okA, outOf, outB, small, lstOf, put', tgT, tgAll, tgI, tgN, Tg.put, Tg.putAll, noIoAll, noIoB, setAll, itR, itE, itf, f_add, f_sub, f_subb, f_mul, f_div, f_mod, f_pow, f_lt, f_le, f_gt, f_ge, f_max, f_abs, f_neg, fEq_int, fNe_int, fIs, fIsNot, h1, h2, h3]
theorem sb_b (h1 : ds [.im q, .im (.int (-1))] = .ok (.im w) none) (h3 : de [.im p, .im w] = .ok (.im v) none) : (sRet (eCall de (aConsE (eV 0) (aConsE (eCall ds (aConsE (eV 1) (aConsE (eOp1 fNeg (eC (.int 1))) aNilE))) aNilE)))) [.im p, .im q] = .rt (.im v) [.im p, .im q] := by
  simp [fnD, sSeq, SR.then, sSet, sRet, sIf, sPar, sExpr, sAsg, sAugI, sAugN, sNext, sFor, forGo, tOf, tNo, tAn, tOr', tYs, eIf, eOp2, eOp1, eOpN, eV, eC, eAnd, eOr, eNot, bE, eCh, eComp, okw, imUn, wipeG, back, aCons, aNil, aConsE, aNilE, eTup, eLst, eCall, eCall0, eCallK, eCallIo, eRep, ownOf, eSl, pNo, pSo, frE, frIo, eIsi, Res.bind, Res.bindS, Res.noex, rd, rdAll, put, esc, DL.settle, stor, noIo, okB, okA, outOf, outB, small, lstOf, put', tgT, tgAll, tgI, tgN, Tg.put, Tg.putAll, noIoAll, noIoB, setAll, itR, itE, itf, f_add, f_sub, f_subb, f_mul, f_div, f_mod, f_pow, f_lt, f_le, f_gt, f_ge, f_max, f_abs, f_neg, fEq_int, fNe_int, fIs, fIsNot, h1, h3]
theorem plus_w (h : b_poly_plus [.im p, .im q] = .rt (.im v) [.im p, .im q]) : d_poly_plus [.im p, .im q] = .ok (.im v) none := by
  unfold d_poly_plus
  simp [fnD, okA, h, outOf, okB]
theorem minus_w (h : b_poly_minus [.im p, .im q] = .rt (.im v) [.im p, .im q]) : d_poly_minus [.im p, .im q] = .ok (.im v) none := by
  unfold d_poly_minus
  simp [fnD, okA, h, outOf, okB]
theorem sub_w (h : b_subtracted [.im p, .im q] = .rt (.im v) [.im p, .im q]) : d_subtracted [.im p, .im q] = .ok (.im v) none := by
  unfold d_subtracted
  simp [fnD, okA, h, outOf, okB]
end
theorem m1_ok {p : List Int} (hp : Pl p) : ∀ i ∈ p, mulB (-1) i = true := fun i hi => by
  have := hp.sm i hi
  refine mulB_ok (bmono (m := 20) (by unfold Po.bd; decide) (by decide)) (bmono (m := 20) ?_ (by decide))
  have e : (2 : Nat) ^ 20 = 1048576 := by decide
  unfold Po.bd; omega
theorem e_plus {p q : List Int} (hp : Pl p) (hq : Pl q) : ∃ w, Tr w ∧ (∀ i, co w i = co p i + co q i) ∧ d_poly_plus [.im (T p), .im (T q)] = .ok (.im (T w)) none := by
  obtain ⟨w, h1, h2, _, h3⟩ := e_added (p := p) (q := q) (by have := hp.len; omega) (by have := hq.len; omega)
  exact ⟨w, h1, h2, plus_w (pp_b (dw := d_want_polynomial) (de := d_added) (pw_ok hp) (pw_ok hq) h3)⟩
theorem e_minus {p q : List Int} (hp : Pl p) (hq : Pl q) : ∃ w, Tr w ∧ (∀ i, co w i = co p i - co q i) ∧ d_poly_minus [.im (T p), .im (T q)] = .ok (.im (T w)) none := by
  have lp := hp.len
  have lq := hq.len
  obtain ⟨s, s1, s2, s3, s4⟩ := e_scaled (p := q) (n := -1) (by omega) (m1_ok hq)
  obtain ⟨w, h1, h2, _, h3⟩ := e_added (p := p) (q := s) (by omega) (by omega)
  exact ⟨w, h1, fun i => by rw [h2, s2]; omega, minus_w (pp_b (dw := d_want_polynomial) (de := d_subtracted) (pw_ok hp) (pw_ok hq) (sub_w (sb_b (de := d_added) (ds := d_scaled) s4 h3)))⟩
end K11
/-! ## K11x.lean -/
set_option Elab.async false
set_option linter.all false
set_option maxRecDepth 10000
set_option maxHeartbeats 4000000
set_option exponentiation.threshold 3000
namespace K11
open PySem PySem.Spec L2 DL Po
/-! ### products told -/
theorem wa_ok {a : D} {l n : Int} (h : ¬ l < n) : b_want_at_most [.im a, .im (.int l), .im (.int n)] = .nx [.im a, .im (.int l), .im (.int n)] := by
  unfold b_want_at_most
  simp [fnD, sSeq, SR.then, sSet, sRet, sIf, sPar, sExpr, sAsg, sAugI, sAugN, sNext, sFor, forGo, tOf, tNo, tAn, tOr', tYs, eIf, eOp2, eOp1, eOpN, eV, eC, eAnd, eOr, eNot, bE, eCh, eComp, okw, imUn, wipeG, back, aCons, aNil, aConsE, aNilE, eTup, eLst, eCall, eCall0, eCallK, eCallIo, eRep, ownOf, eSl, pNo, pSo, frE, frIo, eIsi, Res.bind, Res.bindS, Res.noex, rd, rdAll, put, esc, DL.settle, stor, noIo, okB, okA, outOf, outB, small, lstOf, put', tgT, tgAll, tgI, tgN, Tg.put, Tg.putAll, noIoAll, noIoB, setAll, itR, itE, itf, f_add, f_sub, f_subb, f_mul, f_div, f_mod, f_pow, f_lt, f_le, f_gt, f_ge, f_max, f_abs, f_neg, fEq_int, fNe_int, fIs, fIsNot, h]
theorem wa_x {a : D} {l n : Int} (h : l < n) : b_want_at_most [.im a, .im (.int l), .im (.int n)] = .ex ("TooMany", [("limit", .int l), ("what", a)]) [.im a, .im (.int l), .im (.int n)] := by
  unfold b_want_at_most
  simp [fnD, sSeq, SR.then, sSet, sRet, sIf, sPar, sExpr, sAsg, sAugI, sAugN, sNext, sFor, forGo, tOf, tNo, tAn, tOr', tYs, eIf, eOp2, eOp1, eOpN, eV, eC, eAnd, eOr, eNot, bE, eCh, eComp, okw, imUn, wipeG, back, aCons, aNil, aConsE, aNilE, eTup, eLst, eCall, eCall0, eCallK, eCallIo, eRep, ownOf, eSl, pNo, pSo, frE, frIo, eIsi, Res.bind, Res.bindS, Res.noex, rd, rdAll, put, esc, DL.settle, stor, noIo, okB, okA, outOf, outB, small, lstOf, put', tgT, tgAll, tgI, tgN, Tg.put, Tg.putAll, noIoAll, noIoB, setAll, itR, itE, itf, f_add, f_sub, f_subb, f_mul, f_div, f_mod, f_pow, f_lt, f_le, f_gt, f_ge, f_max, f_abs, f_neg, fEq_int, fNe_int, fIs, fIsNot, h, sRaise2]
theorem wa_w {a b c : D} (h : b_want_at_most [.im a, .im b, .im c] = .nx [.im a, .im b, .im c]) : d_want_at_most [.im a, .im b, .im c] = .ok (.im .none) none := by
  unfold d_want_at_most
  simp [fnD, okA, h, outOf, okB]
theorem wa_wx {a b c : D} {e : Exn} (h : b_want_at_most [.im a, .im b, .im c] = .ex e [.im a, .im b, .im c]) : d_want_at_most [.im a, .im b, .im c] = .ex e none := by
  unfold d_want_at_most
  simp [fnD, okA, h, outOf, okB]
abbrev tmb (dw dm da : List B → FR) : Gm → SR := (sSeq (sSet 2 (eCall dm (aConsE (eCall dw (aConsE (eV 0) aNilE)) (aConsE (eCall dw (aConsE (eV 1) aNilE)) aNilE))))
  (sSeq (sExpr (eCall da (aConsE (eC (.str "degree")) (aConsE (eC (.int 12)) (aConsE (eOp2 fSub (eOpN fLen (aCons (eV 2) aNil)) (eC (.int 1))) aNilE)))))
  (sRet (eV 2))))
section
variable {dw dm da : List B → FR} {p q v x : D} {n : Int} {e : Exn}
theorem tm_ok (h1 : dw [.im p] = .ok (.im p) none) (h2 : dw [.im q] = .ok (.im q) none) (h3 : dm [.im p, .im q] = .ok (.im v) none) (l : fLen [v] = some (.im (.int n))) (h4 : da [.im (.str "degree"), .im (.int 12), .im (.int (n - 1))] = .ok (.im x) none) : tmb dw dm da [.im p, .im q, .un] = .rt (.im v) [.im p, .im q, .im v] := by
  simp [fnD, sSeq, SR.then, sSet, sRet, sIf, sPar, sExpr, sAsg, sAugI, sAugN, sNext, sFor, forGo, tOf, tNo, tAn, tOr', tYs, eIf, eOp2, eOp1, eOpN, eV, eC, eAnd, eOr, eNot, bE, eCh, eComp, okw, imUn, wipeG, back, aCons, aNil, aConsE, aNilE, eTup, eLst, eCall, eCall0, eCallK, eCallIo, eRep, ownOf, eSl, pNo, pSo, frE, frIo, eIsi, Res.bind, Res.bindS, Res.noex, rd, rdAll, put, esc, DL.settle, stor, noIo, okB, okA, outOf, outB, small, lstOf, put', tgT, tgAll, tgI, tgN, Tg.put, Tg.putAll, noIoAll, noIoB, setAll, itR, itE, itf, f_add, f_sub, f_subb, f_mul, f_div, f_mod, f_pow, f_lt, f_le, f_gt, f_ge, f_max, f_abs, f_neg, fEq_int, fNe_int, fIs, fIsNot, h1, h2, h3, l, h4]
theorem tm_x (h1 : dw [.im p] = .ok (.im p) none) (h2 : dw [.im q] = .ok (.im q) none) (h3 : dm [.im p, .im q] = .ok (.im v) none) (l : fLen [v] = some (.im (.int n))) (h4 : da [.im (.str "degree"), .im (.int 12), .im (.int (n - 1))] = .ex e none) : tmb dw dm da [.im p, .im q, .un] = .ex e [.im p, .im q, .im v] := by
  simp [fnD, sSeq, SR.then, sSet, sRet, sIf, sPar, sExpr, sAsg, sAugI, sAugN, sNext, sFor, forGo, tOf, tNo, tAn, tOr', tYs, eIf, eOp2, eOp1, eOpN, eV, eC, eAnd, eOr, eNot, bE, eCh, eComp, okw, imUn, wipeG, back, aCons, aNil, aConsE, aNilE, eTup, eLst, eCall, eCall0, eCallK, eCallIo, eRep, ownOf, eSl, pNo, pSo, frE, frIo, eIsi, Res.bind, Res.bindS, Res.noex, rd, rdAll, put, esc, DL.settle, stor, noIo, okB, okA, outOf, outB, small, lstOf, put', tgT, tgAll, tgI, tgN, Tg.put, Tg.putAll, noIoAll, noIoB, setAll, itR, itE, itf, f_add, f_sub, f_subb, f_mul, f_div, f_mod, f_pow, f_lt, f_le, f_gt, f_ge, f_max, f_abs, f_neg, fEq_int, fNe_int, fIs, fIsNot, h1, h2, h3, l, h4]
theorem tm_w {y : B} (h : b_poly_times [.im p, .im q, .un] = .rt (.im v) [.im p, .im q, y]) : d_poly_times [.im p, .im q] = .ok (.im v) none := by
  unfold d_poly_times
  simp [fnD, okA, h, outOf, okB]
theorem tm_wx {y : B} (h : b_poly_times [.im p, .im q, .un] = .ex e [.im p, .im q, y]) : d_poly_times [.im p, .im q] = .ex e none := by
  unfold d_poly_times
  simp [fnD, okA, h, outOf, okB]
end
theorem mul_pl {p q : List Int} (hp : Pl p) (hq : Pl q) : ∀ i < p.length, ∀ j < q.length, mulB (co p i) (co q j) = true := fun i _ j _ => mulB_ok (bmono (hp.bd i) (by decide)) (bmono (hq.bd j) (by decide))
theorem e_times {p q : List Int} (hp : Pl p) (hq : Pl q) : ∃ w, Tr w ∧ (∀ n, co w n = pm p (co q) n) ∧
    d_poly_times [.im (T p), .im (T q)] = (if w.length ≤ 13 then .ok (.im (T w)) none else .ex ("TooMany", [("limit", .int 12), ("what", .str "degree")]) none) := by
  obtain ⟨w, h1, h2, h3, h4⟩ := e_mult hp.tr hq.tr (by have := hp.len; omega) (by have := hq.len; omega) (mul_pl hp hq)
  refine ⟨w, h1, h2, ?_⟩
  by_cases c : w.length ≤ 13
  · rw [if_pos c]
    exact tm_w (tm_ok (dw := d_want_polynomial) (dm := d_multiplied) (da := d_want_at_most) (pw_ok hp) (pw_ok hq) h4 (len_T w) (wa_w (wa_ok (by omega))))
  · rw [if_neg c]
    exact tm_wx (tm_x (dw := d_want_polynomial) (dm := d_multiplied) (da := d_want_at_most) (pw_ok hp) (pw_ok hq) h4 (len_T w) (wa_wx (wa_x (by omega))))
/-! ### slopes -/
def slo (p : List Int) : List Int := ((List.range p.length).map fun i : Nat => (i : Int) * co p i).drop 1
theorem co_slo (p : List Int) (i : Nat) : co (slo p) i = ((i : Int) + 1) * co p (i + 1) := by
  unfold slo
  by_cases c : i + 1 < p.length
  · unfold co
    rw [List.getElem?_drop, Nat.add_comm 1 i, List.getElem?_map, List.getElem?_range c]
    rfl
  · rw [co_ge (by simp; omega), co_ge (l := p) (by omega)]; omega
theorem slo_len (p : List Int) : (slo p).length = p.length - 1 := by unfold slo; simp
theorem slo_tr {p : List Int} (h : Tr p) : Tr (slo p) := fun hne => by
  have hl := slo_len p
  have hp := List.length_pos_iff.mpr hne
  rw [List.getLast_eq_getElem, ← co_lt (by omega), co_slo]
  have hn : p ≠ [] := fun z => absurd (congrArg List.length z) (by rw [List.length_nil]; omega)
  refine Int.mul_ne_zero (by omega) ?_
  rw [show (slo p).length - 1 + 1 = p.length - 1 by omega]
  exact tr_top h hn
theorem cutL_from (l : List Int) (k : Nat) : cutB (some (k : Int)) none (Ls l) = some (.mu ((l.drop k).map .int)) := by
  show some (B.mu (cutD _ _ _)) = _
  unfold cutD
  rw [HT.sIx_nat, HT.sIx_none, List.length_map, ← List.map_drop, ← List.map_take]
  congr 2
  by_cases c : k ≤ l.length
  · rw [Nat.min_eq_left c, List.take_of_length_le (by rw [List.length_drop]; omega)]
  · rw [Nat.min_eq_right (by omega), List.drop_of_length_le (by omega), List.drop_of_length_le (by omega)]; simp
theorem enum_map : ∀ (l : List Int) (s : Nat), enumD s (l.map .int) = (List.range l.length).map fun i => PyData.tuple [.int ((s + i : Nat) : Int), .int (co l i)]
  | [], s => rfl
  | a :: l, s => by
    show PyData.tuple [.int (s : Nat), .int a] :: enumD (s + 1) (l.map .int) = _
    rw [enum_map l (s + 1), List.length_cons, List.range_succ_eq_map, List.map_cons, List.map_map]
    congr 1
    refine List.map_congr_left fun i _ => ?_
    show PyData.tuple [.int ((s + 1 + i : Nat) : Int), .int (co l i)] = PyData.tuple [.int ((s + (i + 1) : Nat) : Int), .int (co (a :: l) (i + 1))]
    rw [show s + 1 + i = s + (i + 1) by omega]
    rfl
theorem sl_b {el : Gm → Res W} {p tz : D} {ds xs zs : List D} (hz : fEnum [p] = some ds) (cp : compGo [1, 2] (.tp [(.nm 1), (.nm 2)]) tYs el ds [] [.im p, .un, .un] = .ok xs [.im p, .un, .un]) (hc : cutB (some 1) none (.list xs) = some (.mu zs)) (ht : fTuple [.list zs] = some (.im tz)) :
    (sRet (eOpN fTuple (aCons (eSl (eComp [1, 2] (itf fEnum (aConsE (eV 0) aNilE)) (.tp [(.nm 1), (.nm 2)]) tYs el) (pSo (eC (.int 1))) pNo) aNil))) [.im p, .un, .un] = .rt (.im tz) [.im p, .un, .un] := by
  simp [fnD, sSeq, SR.then, sSet, sRet, sIf, sPar, sExpr, sAsg, sAugI, sAugN, sNext, sFor, forGo, tOf, tNo, tAn, tOr', tYs, eIf, eOp2, eOp1, eOpN, eV, eC, eAnd, eOr, eNot, bE, eCh, eComp, okw, imUn, wipeG, back, aCons, aNil, aConsE, aNilE, eTup, eLst, eCall, eCall0, eCallK, eCallIo, eRep, ownOf, eSl, pNo, pSo, frE, frIo, eIsi, Res.bind, Res.bindS, Res.noex, rd, rdAll, put, esc, DL.settle, stor, noIo, okB, okA, outOf, outB, small, lstOf, put', tgT, tgAll, tgI, tgN, Tg.put, Tg.putAll, noIoAll, noIoB, setAll, itR, itE, itf, f_add, f_sub, f_subb, f_mul, f_div, f_mod, f_pow, f_lt, f_le, f_gt, f_ge, f_max, f_abs, f_neg, fEq_int, fNe_int, fIs, fIsNot, hz, cp, hc, ht]
theorem sl_el {a : B} {i j : Int} (m : mulB i j = true) : eOp2 fMulA (eV 1) (eV 2) [a, .im (.int i), .im (.int j)] = .ok (.v (.im (.int (i * j)))) [a, .im (.int i), .im (.int j)] := by
  simp [fnD, sSeq, SR.then, sSet, sRet, sIf, sPar, sExpr, sAsg, sAugI, sAugN, sNext, sFor, forGo, tOf, tNo, tAn, tOr', tYs, eIf, eOp2, eOp1, eOpN, eV, eC, eAnd, eOr, eNot, bE, eCh, eComp, okw, imUn, wipeG, back, aCons, aNil, aConsE, aNilE, eTup, eLst, eCall, eCall0, eCallK, eCallIo, eRep, ownOf, eSl, pNo, pSo, frE, frIo, eIsi, Res.bind, Res.bindS, Res.noex, rd, rdAll, put, esc, DL.settle, stor, noIo, okB, okA, outOf, outB, small, lstOf, put', tgT, tgAll, tgI, tgN, Tg.put, Tg.putAll, noIoAll, noIoB, setAll, itR, itE, itf, f_add, f_sub, f_subb, f_mul, f_div, f_mod, f_pow, f_lt, f_le, f_gt, f_ge, f_max, f_abs, f_neg, fEq_int, fNe_int, fIs, fIsNot, m]
theorem sl_w {a v : D} {y z : B} (h : b_slope_of [.im a, .un, .un] = .rt (.im v) [.im a, y, z]) : d_slope_of [.im a] = .ok (.im v) none := by
  unfold d_slope_of
  simp [fnD, okA, h, outOf, okB]
theorem ps_b {dw ds : List B → FR} {p v : D} (h1 : dw [.im p] = .ok (.im p) none) (h2 : ds [.im p] = .ok (.im v) none) : (sRet (eCall ds (aConsE (eCall dw (aConsE (eV 0) aNilE)) aNilE))) [.im p] = .rt (.im v) [.im p] := by
  simp [fnD, sSeq, SR.then, sSet, sRet, sIf, sPar, sExpr, sAsg, sAugI, sAugN, sNext, sFor, forGo, tOf, tNo, tAn, tOr', tYs, eIf, eOp2, eOp1, eOpN, eV, eC, eAnd, eOr, eNot, bE, eCh, eComp, okw, imUn, wipeG, back, aCons, aNil, aConsE, aNilE, eTup, eLst, eCall, eCall0, eCallK, eCallIo, eRep, ownOf, eSl, pNo, pSo, frE, frIo, eIsi, Res.bind, Res.bindS, Res.noex, rd, rdAll, put, esc, DL.settle, stor, noIo, okB, okA, outOf, outB, small, lstOf, put', tgT, tgAll, tgI, tgN, Tg.put, Tg.putAll, noIoAll, noIoB, setAll, itR, itE, itf, f_add, f_sub, f_subb, f_mul, f_div, f_mod, f_pow, f_lt, f_le, f_gt, f_ge, f_max, f_abs, f_neg, fEq_int, fNe_int, fIs, fIsNot, h1, h2]
theorem ps_w {p v : D} (h : b_poly_slope [.im p] = .rt (.im v) [.im p]) : d_poly_slope [.im p] = .ok (.im v) none := by
  unfold d_poly_slope
  simp [fnD, okA, h, outOf, okB]
theorem slo_cp {p : List Int} (hp : Pl p) : compGo [1, 2] (.tp [(.nm 1), (.nm 2)]) tYs (eOp2 fMulA (eV 1) (eV 2)) (enumD 0 (p.map .int)) [] [.im (T p), .un, .un] = .ok (((List.range p.length).map fun i : Nat => (i : Int) * co p i).map .int) [.im (T p), .un, .un] := by
  have lp := hp.len
  rw [enum_map]
  have cp := comp_map (vs := [1, 2]) (t := .tp [.nm 1, .nm 2]) (c := tYs) (e := eOp2 fMulA (eV 1) (eV 2)) (g := [.im (T p), .un, .un]) (en := fun i : Nat => PyData.tuple [.int ((0 + i : Nat) : Int), .int (co p i)]) (P := fun _ => true) (F := fun i : Nat => PyData.int ((i : Int) * co p i)) (List.range p.length) [] (fun i hi => by
    have hi' := List.mem_range.mp hi
    refine ⟨[.im (T p), .im (.int ((0 + i : Nat) : Int)), .im (.int (co p i))], rfl, rfl, fun _ => ⟨.v (.im (.int ((i : Int) * co p i))), ?_, rfl⟩, rfl, rfl⟩
    have e : ((0 + i : Nat) : Int) = (i : Int) := by omega
    rw [e]
    refine sl_el (mulB_ok (bmono (m := 20) ?_ (by decide)) (bmono (hp.bd i) (by decide)))
    have e : (2 : Nat) ^ 20 = 1048576 := by decide
    unfold Po.bd; omega) (by simp; omega)
  have ef : (List.range p.length).filter (fun _ => true) = List.range p.length := List.filter_eq_self.mpr fun _ _ => rfl
  rw [ef, List.nil_append] at cp
  rw [cp, List.map_map]
  rfl
theorem e_slope {p : List Int} (hp : Pl p) : d_poly_slope [.im (T p)] = .ok (.im (T (slo p))) none :=
  ps_w (ps_b (dw := d_want_polynomial) (ds := d_slope_of) (pw_ok hp) (sl_w (sl_b (fEnum_T p) (slo_cp hp) (cutL_from _ 1) rfl)))
end K11
/-! ## K11y.lean -/
set_option Elab.async false
set_option linter.all false
set_option maxRecDepth 10000
set_option maxHeartbeats 4000000
set_option exponentiation.threshold 3000
namespace K11
open PySem PySem.Spec L2 DL Po
/-! ### powers -/
theorem for_ok {it : Gm → Res (List D)} {t : D → Gm → Res Unit} {b : Gm → SR} {g g1 : Gm} {ds : List D} {r : SR} (h : it g = .ok ds g1) (k : forGo t b ds g1 = r) : sFor it t b g = r := by
  unfold sFor; rw [h]; exact k
/-- a walk over what is told one by one -/
theorem for_ls {α : Type} {t : D → Gm → Res Unit} {b : Gm → SR} {en : α → D} {P : List α → Gm → Prop} : ∀ (l : List α) (g : Gm), P l g → (∀ a r g, P (a :: r) g → ∃ g1 g2, t (en a) g = .ok () g1 ∧ b g1 = .nx g2 ∧ P r g2) → ∃ g', forGo t b (l.map en) g = .nx g' ∧ P [] g'
  | [], g, h, _ => ⟨g, rfl, h⟩
  | a :: l, g, h, k => by
    obtain ⟨g1, g2, h1, h2, h3⟩ := k a l g h
    obtain ⟨g', h4, h5⟩ := for_ls l g2 h3 k
    refine ⟨g', ?_, h5⟩
    show ((t (en a) g).bindS fun _ g1 => _) = _
    rw [h1]
    show (match b g1 with
      | .nx g2 => forGo t b (l.map en) g2
      | .ct g2 => forGo t b (l.map en) g2
      | .bk g2 => .nx g2
      | r => r) = _
    rw [h2]
    exact h4
abbrev pwb : Gm → SR := sSet 2 (eOp2 fMulA (eV 2) (eV 0))
theorem pwb_ok {k x : B} {b f : Int} (m : mulB f b = true) : pwb [.im (.int b), k, .im (.int f), x] = .nx [.im (.int b), k, .im (.int (f * b)), x] := by
  simp [fnD, sSeq, SR.then, sSet, sRet, sIf, sPar, sExpr, sAsg, sAugI, sAugN, sNext, sFor, forGo, tOf, tNo, tAn, tOr', tYs, eIf, eOp2, eOp1, eOpN, eV, eC, eAnd, eOr, eNot, bE, eCh, eComp, okw, imUn, wipeG, back, aCons, aNil, aConsE, aNilE, eTup, eLst, eCall, eCall0, eCallK, eCallIo, eRep, ownOf, eSl, pNo, pSo, frE, frIo, eIsi, Res.bind, Res.bindS, Res.noex, rd, rdAll, put, esc, DL.settle, stor, noIo, okB, okA, outOf, outB, small, lstOf, put', tgT, tgAll, tgI, tgN, Tg.put, Tg.putAll, noIoAll, noIoB, setAll, itR, itE, itf, f_add, f_sub, f_subb, f_mul, f_div, f_mod, f_pow, f_lt, f_le, f_gt, f_ge, f_max, f_abs, f_neg, fEq_int, fNe_int, fIs, fIsNot, m]
theorem pwt_ok {a b c x : B} {d : D} (h : fr x) : tgN (.nm 3) d [a, b, c, x] = .ok () [a, b, c, .im d] := by
  unfold fr at *
  simp [tgN, Tg.put, h]
theorem bpow {b : Int} (hb : bd 5 b) : ∀ k : Nat, bd (5 * k + 1) (b ^ k)
  | 0 => by rw [Int.pow_zero]; exact (by decide : (1 : Int).natAbs < 2 ^ (5 * 0 + 1))
  | k + 1 => by
    rw [Int.pow_succ]
    exact bmono (bmul (bpow hb k) hb) (by omega)
theorem pw_s {b : Int} {kn : Int} {ds : List D} {f : Int} {y : B} (hr : rngOf [.int kn] = some ds) (hf : forGo (tgN (.nm 3)) pwb ds [.im (.int b), .im (.int kn), .im (.int 1), .un] = .nx [.im (.int b), .im (.int kn), .im (.int f), y]) : b__law_power [.im (.int b), .im (.int kn), .un, .un] = .rt (.im (.int f)) [.im (.int b), .im (.int kn), .im (.int f), y] := by
  have hi : itR (aConsE (eV 1) aNilE) [.im (.int b), .im (.int kn), .im (.int 1), .un] = .ok ds [.im (.int b), .im (.int kn), .im (.int 1), .un] := by
    simp [fnD, sSeq, SR.then, sSet, sRet, sIf, sPar, sExpr, sAsg, sAugI, sAugN, sNext, sFor, forGo, tOf, tNo, tAn, tOr', tYs, eIf, eOp2, eOp1, eOpN, eV, eC, eAnd, eOr, eNot, bE, eCh, eComp, okw, imUn, wipeG, back, aCons, aNil, aConsE, aNilE, eTup, eLst, eCall, eCall0, eCallK, eCallIo, eRep, ownOf, eSl, pNo, pSo, frE, frIo, eIsi, Res.bind, Res.bindS, Res.noex, rd, rdAll, put, esc, DL.settle, stor, noIo, okB, okA, outOf, outB, small, lstOf, put', tgT, tgAll, tgI, tgN, Tg.put, Tg.putAll, noIoAll, noIoB, setAll, itR, itE, itf, f_add, f_sub, f_subb, f_mul, f_div, f_mod, f_pow, f_lt, f_le, f_gt, f_ge, f_max, f_abs, f_neg, fEq_int, fNe_int, fIs, fIsNot, hr]
  refine seq_nx (g1 := [.im (.int b), .im (.int kn), .im (.int 1), .un]) rfl (seq_nx (for_ok hi hf) ?_)
  rfl
theorem pw_w {a b v : D} {y z : B} (h : b__law_power [.im a, .im b, .un, .un] = .rt (.im v) [.im a, .im b, y, z]) : d__law_power [.im a, .im b] = .ok (.im v) none := by
  unfold d__law_power
  simp [fnD, okA, h, outOf, okB]
theorem e_pow {b : Int} (hb : bd 5 b) (k : Nat) (hk : k ≤ 40) : d__law_power [.im (.int b), .im (.int k)] = .ok (.im (.int (b ^ k))) none := by
  obtain ⟨g', h1, n, y, fy, hn, rfl⟩ := for_ls (t := tgN (.nm 3)) (b := pwb) (en := fun i : Nat => PyData.int (i : Int)) (P := fun r g => ∃ (n : Nat) (y : B), fr y ∧ n + r.length = k ∧ g = [.im (.int b), .im (.int k), .im (.int (b ^ n)), y]) (List.range k) [.im (.int b), .im (.int k), .im (.int 1), .un] ⟨0, .un, rfl, by simp, by rw [Int.pow_zero]⟩ (fun a r g hP => by
    obtain ⟨n, y, fy, hn, rfl⟩ := hP
    refine ⟨_, _, pwt_ok fy, pwb_ok (mulB_ok (bmono (bpow hb n) (by omega)) (bmono hb (by decide))), n + 1, _, fr_im _, by simp at hn; omega, by rw [Int.pow_succ]⟩)
  simp at hn
  subst hn
  exact pw_w (pw_s (rng1 n (by omega)) h1)
/-! ### worths: the homogeneous sum -/
def hom (p : List Int) (a b : Int) : Int := sumTo p.length fun i => co p i * a ^ i * b ^ (p.length - 1 - i)
abbrev wob : Gm → SR := sSeq (sSet 3 (eOp2 fAdd (eOp2 fMulA (eV 3) (eV 1)) (eOp2 fMulA (eV 5) (eV 4)))) (sSet 4 (eOp2 fMulA (eV 4) (eV 2)))
theorem wob_ok {p : B} {a b t w c : Int} (m1 : mulB t a = true) (m2 : mulB c w = true) (m3 : mulB w b = true) : wob [p, .im (.int a), .im (.int b), .im (.int t), .im (.int w), .im (.int c)] = .nx [p, .im (.int a), .im (.int b), .im (.int (t * a + c * w)), .im (.int (w * b)), .im (.int c)] := by
  simp [fnD, sSeq, SR.then, sSet, sRet, sIf, sPar, sExpr, sAsg, sAugI, sAugN, sNext, sFor, forGo, tOf, tNo, tAn, tOr', tYs, eIf, eOp2, eOp1, eOpN, eV, eC, eAnd, eOr, eNot, bE, eCh, eComp, okw, imUn, wipeG, back, aCons, aNil, aConsE, aNilE, eTup, eLst, eCall, eCall0, eCallK, eCallIo, eRep, ownOf, eSl, pNo, pSo, frE, frIo, eIsi, Res.bind, Res.bindS, Res.noex, rd, rdAll, put, esc, DL.settle, stor, noIo, okB, okA, outOf, outB, small, lstOf, put', tgT, tgAll, tgI, tgN, Tg.put, Tg.putAll, noIoAll, noIoB, setAll, itR, itE, itf, f_add, f_sub, f_subb, f_mul, f_div, f_mod, f_pow, f_lt, f_le, f_gt, f_ge, f_max, f_abs, f_neg, fEq_int, fNe_int, fIs, fIsNot, m1, m2, m3]
theorem wot_ok {x0 x1 x2 x3 x4 x5 : B} {d : D} (h : fr x5) : tgN (.nm 5) d [x0, x1, x2, x3, x4, x5] = .ok () [x0, x1, x2, x3, x4, .im d] := by
  unfold fr at *
  simp [tgN, Tg.put, h]
/-- behind the k topmost ones -/
def part (p : List Int) (a b : Int) (k : Nat) : Int := sumTo k fun i => co p (p.length - k + i) * a ^ i * b ^ (k - 1 - i)
theorem sum_head {F : Nat → Int} : ∀ n : Nat, sumTo (n + 1) F = F 0 + sumTo n fun i => F (i + 1)
  | 0 => by show (0 : Int) + F 0 = F 0 + 0; omega
  | n + 1 => by
    show sumTo (n + 1) F + F (n + 1) = _
    rw [sum_head n]
    show F 0 + _ + F (n + 1) = F 0 + (sumTo n (fun i => F (i + 1)) + F (n + 1))
    omega
theorem sum_mulr {F : Nat → Int} {c : Int} : ∀ n : Nat, sumTo n F * c = sumTo n fun i => F i * c
  | 0 => Int.zero_mul c
  | n + 1 => by
    show (sumTo n F + F n) * c = sumTo n (fun i => F i * c) + F n * c
    rw [Int.add_mul, sum_mulr n]
theorem part_succ {p : List Int} {a b : Int} {k : Nat} (h : k < p.length) : part p a b (k + 1) = part p a b k * a + co p (p.length - (k + 1)) * b ^ k := by
  unfold part
  rw [sum_head, sum_mulr]
  have e : (fun i => co p (p.length - (k + 1) + (i + 1)) * a ^ (i + 1) * b ^ (k + 1 - 1 - (i + 1))) = fun i => co p (p.length - k + i) * a ^ i * b ^ (k - 1 - i) * a := by
    funext i
    rw [show p.length - (k + 1) + (i + 1) = p.length - k + i by omega, show k + 1 - 1 - (i + 1) = k - 1 - i by omega, Int.pow_succ]
    simp only [Int.mul_assoc, Int.mul_comm, Int.mul_left_comm]
  rw [e, Int.pow_zero, Int.mul_one, Nat.add_zero, Nat.sub_zero, Nat.add_sub_cancel]
  omega
theorem part_all (p : List Int) (a b : Int) : part p a b p.length = hom p a b := by
  unfold part hom
  rw [Nat.sub_self]
  exact sum_congr fun i _ => by rw [Nat.zero_add]
end K11
/-! ## K11z.lean -/
set_option Elab.async false
set_option linter.all false
set_option maxRecDepth 10000
set_option maxHeartbeats 4000000
set_option exponentiation.threshold 3000
namespace K11
open PySem PySem.Spec L2 DL Po
/-- a row with a worth -/
structure Pb (l : List Int) : Prop where
  len : l.length ≤ 13
  bd : ∀ k, Po.bd 60 (co l k)
theorem Pl.pb {l : List Int} (h : Pl l) : Pb l := ⟨h.len, fun k => bmono (h.bd k) (by decide)⟩
theorem for_ix {t : D → Gm → Res Unit} {b : Gm → SR} {en : Nat → D} {P : Nat → Gm → Prop} : ∀ (n s : Nat) (g : Gm), P s g → (∀ i, s ≤ i → i < s + n → ∀ g, P i g → ∃ g1 g2, t (en i) g = .ok () g1 ∧ b g1 = .nx g2 ∧ P (i + 1) g2) → ∃ g', forGo t b ((List.range n).map fun i => en (s + i)) g = .nx g' ∧ P (s + n) g'
  | 0, s, g, h, _ => ⟨g, rfl, h⟩
  | n + 1, s, g, h, k => by
    obtain ⟨g1, g2, h1, h2, h3⟩ := k s (Nat.le_refl _) (by omega) g h
    obtain ⟨g', h4, h5⟩ := for_ix n (s + 1) g2 h3 fun i hi hi2 g hP => k i (by omega) (by omega) g hP
    refine ⟨g', ?_, by rw [show s + (n + 1) = s + 1 + n by omega]; exact h5⟩
    have e : ((List.range (n + 1)).map fun i => en (s + i)) = en s :: ((List.range n).map fun i => en (s + 1 + i)) := by
      rw [List.range_succ_eq_map, List.map_cons, List.map_map]
      congr 1
      refine List.map_congr_left fun i _ => ?_
      show en (s + (i + 1)) = en (s + 1 + i)
      congr 1; omega
    rw [e]
    show ((t (en s) g).bindS fun _ g1 => _) = _
    rw [h1]
    show (match b g1 with
      | .nx g2 => forGo t b ((List.range n).map fun i => en (s + 1 + i)) g2
      | .ct g2 => forGo t b ((List.range n).map fun i => en (s + 1 + i)) g2
      | .bk g2 => .nx g2
      | r => r) = _
    rw [h2]
    exact h4
theorem rev_ix (p : List Int) : (p.map PyData.int).reverse = (List.range p.length).map fun k => PyData.int (co p (p.length - (k + 1))) := by
  refine List.ext_getElem (by simp) fun i h1 h2 => ?_
  have hi : i < p.length := by simpa using h1
  rw [List.getElem_reverse, List.getElem_map, List.getElem_map, List.getElem_range]
  rw [co_lt (by omega)]
  congr 2
  simp
  omega
theorem part_bd {p : List Int} (hp : Pb p) {a b : Int} (ha : bd 5 a) (hb : bd 5 b) : ∀ k : Nat, k ≤ p.length → bd (61 + 6 * k) (part p a b k)
  | 0, _ => (by decide : (0 : Int).natAbs < 2 ^ (61 + 6 * 0))
  | k + 1, h => by
    rw [part_succ (by omega)]
    refine bmono (badd (m := 66 + 6 * k) (bmono (bmul (part_bd hp ha hb k (by omega)) ha) (by omega)) (bmono (bmul (hp.bd _) (bpow hb k)) (by omega))) (by omega)
theorem wo_loop {p : List Int} (hp : Pb p) {a b : Int} (ha : bd 5 a) (hb : bd 5 b) : ∃ y, forGo (tgN (.nm 5)) wob ((p.map PyData.int).reverse) [.im (T p), .im (.int a), .im (.int b), .im (.int 0), .im (.int 1), .un] = .nx [.im (T p), .im (.int a), .im (.int b), .im (.int (hom p a b)), .im (.int (b ^ p.length)), y] := by
  have lp := hp.len
  rw [rev_ix]
  have st : ((List.range p.length).map fun k => PyData.int (co p (p.length - (k + 1)))) = (List.range p.length).map fun k => (fun j => PyData.int (co p (p.length - (j + 1)))) (0 + k) := by
    refine List.map_congr_left fun k _ => ?_
    show _ = PyData.int (co p (p.length - (0 + k + 1)))
    rw [Nat.zero_add]
  rw [st]
  obtain ⟨g', h1, y, fy, rfl⟩ := for_ix (t := tgN (.nm 5)) (b := wob) (en := fun j => PyData.int (co p (p.length - (j + 1)))) (P := fun k g => ∃ y, fr y ∧ g = [.im (T p), .im (.int a), .im (.int b), .im (.int (part p a b k)), .im (.int (b ^ k)), y]) p.length 0 [.im (T p), .im (.int a), .im (.int b), .im (.int 0), .im (.int 1), .un] ⟨.un, rfl, by rw [Int.pow_zero]; rfl⟩ (fun k _ hk g hP => by
    obtain ⟨y, fy, rfl⟩ := hP
    have b1 := part_bd hp ha hb k (by omega)
    refine ⟨_, _, wot_ok fy, wob_ok (mulB_ok (bmono b1 (by omega)) (bmono ha (by decide))) (mulB_ok (bmono (hp.bd _) (by decide)) (bmono (bpow hb k) (by omega))) (mulB_ok (bmono (bpow hb k) (by omega)) (bmono hb (by decide))), .im (.int (co p (p.length - (k + 1)))), fr_im _, ?_⟩
    rw [part_succ (by omega), Int.pow_succ])
  refine ⟨y, ?_⟩
  rw [Nat.zero_add] at h1
  rw [h1, part_all]
theorem wo_b {p : D} {a b : Int} {ds : List D} {t w : Int} {y : B} (hr : fRev [p] = some ds) (hf : forGo (tgN (.nm 5)) wob ds [.im p, .im (.int a), .im (.int b), .im (.int 0), .im (.int 1), .un] = .nx [.im p, .im (.int a), .im (.int b), .im (.int t), .im (.int w), y]) : b_worth_of [.im p, .im (.int a), .im (.int b), .un, .un, .un] = .rt (.im (.int t)) [.im p, .im (.int a), .im (.int b), .im (.int t), .im (.int w), y] := by
  have hi : itf fRev (aConsE (eV 0) aNilE) [.im p, .im (.int a), .im (.int b), .im (.int 0), .im (.int 1), .un] = .ok ds [.im p, .im (.int a), .im (.int b), .im (.int 0), .im (.int 1), .un] := by
    simp [fnD, sSeq, SR.then, sSet, sRet, sIf, sPar, sExpr, sAsg, sAugI, sAugN, sNext, sFor, forGo, tOf, tNo, tAn, tOr', tYs, eIf, eOp2, eOp1, eOpN, eV, eC, eAnd, eOr, eNot, bE, eCh, eComp, okw, imUn, wipeG, back, aCons, aNil, aConsE, aNilE, eTup, eLst, eCall, eCall0, eCallK, eCallIo, eRep, ownOf, eSl, pNo, pSo, frE, frIo, eIsi, Res.bind, Res.bindS, Res.noex, rd, rdAll, put, esc, DL.settle, stor, noIo, okB, okA, outOf, outB, small, lstOf, put', tgT, tgAll, tgI, tgN, Tg.put, Tg.putAll, noIoAll, noIoB, setAll, itR, itE, itf, f_add, f_sub, f_subb, f_mul, f_div, f_mod, f_pow, f_lt, f_le, f_gt, f_ge, f_max, f_abs, f_neg, fEq_int, fNe_int, fIs, fIsNot, hr]
  have s0 : sPar [3, 4] (aCons (eC (.int 0)) (aCons (eC (.int 1)) aNil)) [.im p, .im (.int a), .im (.int b), .un, .un, .un] = .nx [.im p, .im (.int a), .im (.int b), .im (.int 0), .im (.int 1), .un] := by
    simp [fnD, sSeq, SR.then, sSet, sRet, sIf, sPar, sExpr, sAsg, sAugI, sAugN, sNext, sFor, forGo, tOf, tNo, tAn, tOr', tYs, eIf, eOp2, eOp1, eOpN, eV, eC, eAnd, eOr, eNot, bE, eCh, eComp, okw, imUn, wipeG, back, aCons, aNil, aConsE, aNilE, eTup, eLst, eCall, eCall0, eCallK, eCallIo, eRep, ownOf, eSl, pNo, pSo, frE, frIo, eIsi, Res.bind, Res.bindS, Res.noex, rd, rdAll, put, esc, DL.settle, stor, noIo, okB, okA, outOf, outB, small, lstOf, put', tgT, tgAll, tgI, tgN, Tg.put, Tg.putAll, noIoAll, noIoB, setAll, itR, itE, itf, f_add, f_sub, f_subb, f_mul, f_div, f_mod, f_pow, f_lt, f_le, f_gt, f_ge, f_max, f_abs, f_neg, fEq_int, fNe_int, fIs, fIsNot]
  exact seq_nx s0 (seq_nx (for_ok hi hf) rfl)
theorem wo_w {p x z v : D} {g : Gm} (h : b_worth_of [.im p, .im x, .im z, .un, .un, .un] = .rt (.im v) (.im p :: g)) : d_worth_of [.im p, .im x, .im z] = .ok (.im v) none := by
  unfold d_worth_of
  simp [fnD, okA, h, outOf, okB]
theorem e_wo {p : List Int} (hp : Pb p) {a b : Int} (ha : bd 5 a) (hb : bd 5 b) : d_worth_of [.im (T p), .im (.int a), .im (.int b)] = .ok (.im (.int (hom p a b))) none := by
  obtain ⟨y, h⟩ := wo_loop hp ha hb
  exact wo_w (wo_b rfl h)
theorem hom_bd {p : List Int} (hp : Pb p) {a b : Int} (ha : bd 5 a) (hb : bd 5 b) : bd 140 (hom p a b) := by
  rw [← part_all]
  exact bmono (part_bd hp ha hb p.length (Nat.le_refl _)) (by have := hp.len; omega)
end K11
/-! ## K11ra.lean -/
set_option Elab.async false
set_option linter.all false
set_option maxRecDepth 100000
set_option maxHeartbeats 4000000
set_option exponentiation.threshold 3000
namespace K11
open PySem PySem.Spec L2 DL Po
/-! ### ratios -/
def s (a b : Int) : Int := if b < 0 then -(Int.gcd a b : Int) else Int.gcd a b
def L (a b : Int) : Int × Int := (a.fdiv (s a b), b.fdiv (s a b))
theorem gpos {a b : Int} (hb : b ≠ 0) : 0 < Int.gcd a b := Int.gcd_pos_of_ne_zero_right a hb
theorem s_ne {a b : Int} (hb : b ≠ 0) : s a b ≠ 0 := by
  have := gpos (a := a) hb
  unfold s; split <;> omega
theorem s_abs {a b : Int} : (s a b).natAbs = Int.gcd a b := by
  unfold s; split <;> simp
theorem s_da (a b : Int) : s a b ∣ a := by
  unfold s; split
  · exact Int.neg_dvd.mpr (Int.gcd_dvd_left ..)
  · exact Int.gcd_dvd_left ..
theorem s_db (a b : Int) : s a b ∣ b := by
  unfold s; split
  · exact Int.neg_dvd.mpr (Int.gcd_dvd_right ..)
  · exact Int.gcd_dvd_right ..
theorem L1 (a b : Int) : (L a b).1 * s a b = a := by
  show a.fdiv (s a b) * s a b = a
  rw [Int.fdiv_eq_ediv_of_dvd (s_da a b), Int.ediv_mul_cancel (s_da a b)]
theorem L2' (a b : Int) : (L a b).2 * s a b = b := by
  show b.fdiv (s a b) * s a b = b
  rw [Int.fdiv_eq_ediv_of_dvd (s_db a b), Int.ediv_mul_cancel (s_db a b)]
theorem Lpos {a b : Int} (hb : b ≠ 0) : 0 < (L a b).2 := by
  have h := L2' a b
  have g := gpos (a := a) hb
  unfold s at h
  by_cases c : b < 0
  · rw [if_pos c] at h
    refine Int.lt_of_not_ge fun hn => ?_
    have := Int.mul_nonneg_of_nonpos_of_nonpos hn (show -(Int.gcd a b : Int) ≤ 0 by omega)
    omega
  · rw [if_neg c] at h
    refine Int.lt_of_not_ge fun hn => ?_
    have := Int.mul_nonpos_of_nonpos_of_nonneg hn (show (0 : Int) ≤ Int.gcd a b by omega)
    omega
theorem Lcop {a b : Int} (hb : b ≠ 0) : Int.gcd (L a b).1 (L a b).2 = 1 := by
  have g := gpos (a := a) hb
  have h1 := L1 a b
  have h2 := L2' a b
  have e : Int.gcd ((L a b).1 * s a b) ((L a b).2 * s a b) = Int.gcd (L a b).1 (L a b).2 * (s a b).natAbs := Int.gcd_mul_right ..
  rw [h1, h2, s_abs] at e
  have : Int.gcd (L a b).1 (L a b).2 * Int.gcd a b = 1 * Int.gcd a b := by omega
  exact Nat.eq_of_mul_eq_mul_right g this
theorem cop_dvd {p q r : Int} (h : Int.gcd p q = 1) (d : q ∣ p * r) : q ∣ r := by
  have d2 := Int.natAbs_dvd_natAbs.mpr d
  rw [Int.natAbs_mul] at d2
  have c : Nat.Coprime q.natAbs p.natAbs := by
    unfold Nat.Coprime
    rw [Nat.gcd_comm]; exact h
  exact Int.natAbs_dvd_natAbs.mp (c.dvd_of_dvd_mul_left d2)
theorem uniqR {p q p' q' : Int} (hq : 0 < q) (hq' : 0 < q') (h : Int.gcd p q = 1) (h' : Int.gcd p' q' = 1) (e : p * q' = p' * q) : p = p' ∧ q = q' := by
  have d1 : q ∣ q' := by
    have : q ∣ p * q' := ⟨p', by rw [e, Int.mul_comm]⟩
    exact cop_dvd h this
  have d2 : q' ∣ q := by
    have : q' ∣ p' * q := ⟨p, by rw [← e, Int.mul_comm]⟩
    exact cop_dvd h' this
  have eq : q = q' := Int.le_antisymm (Int.le_of_dvd hq' d1) (Int.le_of_dvd hq d2)
  subst eq
  exact ⟨Int.eq_of_mul_eq_mul_right (by omega) e, rfl⟩
theorem L_eq {a b n m : Int} (hb : b ≠ 0) (hm : m ≠ 0) (e : a * m = n * b) : L a b = L n m := by
  have h : (L a b).1 * (L n m).2 = (L n m).1 * (L a b).2 := by
    have x1 := L1 a b; have x2 := L2' a b; have y1 := L1 n m; have y2 := L2' n m
    have k : ((L a b).1 * (L n m).2 * (s a b * s n m)) = ((L n m).1 * (L a b).2) * (s a b * s n m) := by
      have e1 : ((L a b).1 * s a b) * ((L n m).2 * s n m) = ((L n m).1 * s n m) * ((L a b).2 * s a b) := by rw [x1, x2, y1, y2, e]
      calc _ = ((L a b).1 * s a b) * ((L n m).2 * s n m) := by simp only [Int.mul_assoc, Int.mul_comm, Int.mul_left_comm]
        _ = _ := e1
        _ = _ := by simp only [Int.mul_assoc, Int.mul_comm, Int.mul_left_comm]
    exact Int.eq_of_mul_eq_mul_right (Int.mul_ne_zero (s_ne hb) (s_ne hm)) k
  obtain ⟨h1, h2⟩ := uniqR (Lpos hb) (Lpos hm) (Lcop hb) (Lcop hm) h
  exact Prod.ext h1 h2
theorem L_self {p q : Int} (hq : 0 < q) (h : Int.gcd p q = 1) : L p q = (p, q) := by
  have : s p q = 1 := by unfold s; rw [if_neg (by omega), h]; rfl
  unfold L; rw [this]; simp
theorem bL1 {n : Nat} {a b : Int} (hb : b ≠ 0) (h : bd n a) : bd n (L a b).1 := by
  unfold bd at *
  have e := congrArg Int.natAbs (L1 a b)
  rw [Int.natAbs_mul] at e
  have : 0 < (s a b).natAbs := by have := s_ne (a := a) hb; omega
  have := Nat.le_mul_of_pos_right (L a b).1.natAbs this
  omega
theorem bL2 {n : Nat} {a b : Int} (hb : b ≠ 0) (h : bd n b) : bd n (L a b).2 := by
  unfold bd at *
  have e := congrArg Int.natAbs (L2' a b)
  rw [Int.natAbs_mul] at e
  have : 0 < (s a b).natAbs := by have := s_ne (a := a) hb; omega
  have := Nat.le_mul_of_pos_right (L a b).2.natAbs this
  omega
/-- a whole number, no bool -/
def isI : D → Bool
  | .int _ => true
  | _ => false
/-- no dict -/
def flat : D → Bool
  | .dict _ => false
  | _ => true
theorem e_is_int : ∀ (d : D), flat d = true → d_is_integer [.im d] = .ok (.im (.bool (isI d))) none
  | .none, _ => rfl
  | .bool b, _ => rfl
  | .int i, _ => rfl
  | .str s, _ => rfl
  | .list l, _ => rfl
  | .tuple l, _ => rfl
abbrev tp (p : Int × Int) : D := .tuple [.int p.1, .int p.2]
theorem e_bare (a b : Int) (hb : b ≠ 0) (hs : Po.bd 900 b) : d_bare_ratio [.im (.int a), .im (.int b)] = .ok (.im (tp (L a b))) none := by
  unfold d_bare_ratio b_bare_ratio
  have h1 : s a b ≠ 0 := s_ne hb
  have h2 : Po.bd 900 (s a b) := by
    unfold bd at *
    rw [s_abs]
    exact Nat.lt_of_le_of_lt (Nat.le_of_dvd (by omega) (Nat.gcd_dvd_right _ _)) hs
  have h3 := fun i => divB_ok (i := i) h1 h2
  unfold s at h3
  unfold tp L s
  by_cases c : b < 0
  · simp only [c, if_true] at h3 ⊢
    simp only [Int.gcd] at h3 ⊢
    simp [fnD, sSeq, SR.then, sSet, sRet, sIf, sPar, sExpr, sAsg, sAugI, sAugN, sNext, sFor, forGo, tOf, tNo, tAn, tOr', tYs, eIf, eOp2, eOp1, eOpN, eV, eC, eAnd, eOr, eNot, bE, eCh, eComp, okw, imUn, wipeG, back, aCons, aNil, aConsE, aNilE, eTup, eLst, eCall, eCall0, eCallK, eCallIo, eRep, ownOf, eSl, pNo, pSo, frE, frIo, eIsi, Res.bind, Res.bindS, Res.noex, rd, rdAll, put, esc, DL.settle, stor, noIo, okB, okA, outOf, outB, small, lstOf, put', tgT, tgAll, tgI, tgN, Tg.put, Tg.putAll, noIoAll, noIoB, setAll, itR, itE, itf, f_add, f_sub, f_subb, f_mul, f_div, f_mod, f_pow, f_lt, f_le, f_gt, f_ge, f_max, f_abs, f_neg, fEq_int, fNe_int, fIs, fIsNot, c, h3, fGcd]
  · simp only [c, if_false] at h3 ⊢
    simp only [Int.gcd] at h3 ⊢
    simp [fnD, sSeq, SR.then, sSet, sRet, sIf, sPar, sExpr, sAsg, sAugI, sAugN, sNext, sFor, forGo, tOf, tNo, tAn, tOr', tYs, eIf, eOp2, eOp1, eOpN, eV, eC, eAnd, eOr, eNot, bE, eCh, eComp, okw, imUn, wipeG, back, aCons, aNil, aConsE, aNilE, eTup, eLst, eCall, eCall0, eCallK, eCallIo, eRep, ownOf, eSl, pNo, pSo, frE, frIo, eIsi, Res.bind, Res.bindS, Res.noex, rd, rdAll, put, esc, DL.settle, stor, noIo, okB, okA, outOf, outB, small, lstOf, put', tgT, tgAll, tgI, tgN, Tg.put, Tg.putAll, noIoAll, noIoB, setAll, itR, itE, itf, f_add, f_sub, f_subb, f_mul, f_div, f_mod, f_pow, f_lt, f_le, f_gt, f_ge, f_max, f_abs, f_neg, fEq_int, fNe_int, fIs, fIsNot, c, h3, fGcd]
theorem wh : ∀ (n x y : Nat) (a b : D), x < n → sWhile (tOf (eOp2 fNe (eV 2) (eC (.int 0)))) (sPar [2, 3] (aCons (eOp2 fMod (eV 3) (eV 2)) (aCons (eV 2) aNil))) n [.im a, .im b, .im (.int x), .im (.int y)] = .nx [.im a, .im b, .im (.int 0), .im (.int (Nat.gcd x y))]
  | 0, x, y, a, b, h => by omega
  | n + 1, 0, y, a, b, h => by
    unfold sWhile
    simp [fnD, sSeq, SR.then, sSet, sRet, sIf, sPar, sExpr, sAsg, sAugI, sAugN, sNext, sFor, forGo, tOf, tNo, tAn, tOr', tYs, eIf, eOp2, eOp1, eOpN, eV, eC, eAnd, eOr, eNot, bE, eCh, eComp, okw, imUn, wipeG, back, aCons, aNil, aConsE, aNilE, eTup, eLst, eCall, eCall0, eCallK, eCallIo, eRep, ownOf, eSl, pNo, pSo, frE, frIo, eIsi, Res.bind, Res.bindS, Res.noex, rd, rdAll, put, esc, DL.settle, stor, noIo, okB, okA, outOf, outB, small, lstOf, put', tgT, tgAll, tgI, tgN, Tg.put, Tg.putAll, noIoAll, noIoB, setAll, itR, itE, itf, f_add, f_sub, f_subb, f_mul, f_div, f_mod, f_pow, f_lt, f_le, f_gt, f_ge, f_max, f_abs, f_neg, fEq_int, fNe_int, fIs, fIsNot, fNe_int]
  | n + 1, x + 1, y, a, b, h => by
    unfold sWhile
    have ih := wh n (y % (x + 1)) (x + 1) a b (by have := Nat.mod_lt y (show 0 < x + 1 by omega); omega)
    have e : ((y : Int)).fmod ((x : Int) + 1) = ((y % (x + 1) : Nat) : Int) := by
      rw [Int.fmod_eq_emod_of_nonneg _ (by omega)]; rfl
    have e2 : ((x : Int) + 1 == 0) = false := by simp; omega
    have e3 : ((x + 1 : Nat) : Int) = (x : Int) + 1 := rfl
    have e4 : modB (y : Int) ((x : Int) + 1) = true := by unfold modB; simp; omega
    rw [e3] at ih
    rw [Nat.gcd_succ, ← ih]
    simp [fnD, sSeq, SR.then, sSet, sRet, sIf, sPar, sExpr, sAsg, sAugI, sAugN, sNext, sFor, forGo, tOf, tNo, tAn, tOr', tYs, eIf, eOp2, eOp1, eOpN, eV, eC, eAnd, eOr, eNot, bE, eCh, eComp, okw, imUn, wipeG, back, aCons, aNil, aConsE, aNilE, eTup, eLst, eCall, eCall0, eCallK, eCallIo, eRep, ownOf, eSl, pNo, pSo, frE, frIo, eIsi, Res.bind, Res.bindS, Res.noex, rd, rdAll, put, esc, DL.settle, stor, noIo, okB, okA, outOf, outB, small, lstOf, put', tgT, tgAll, tgI, tgN, Tg.put, Tg.putAll, noIoAll, noIoB, setAll, itR, itE, itf, f_add, f_sub, f_subb, f_mul, f_div, f_mod, f_pow, f_lt, f_le, f_gt, f_ge, f_max, f_abs, f_neg, fEq_int, fNe_int, fIs, fIsNot, fNe_int, e3, e2, e4, e]
theorem wl (n : Nat) (x y : Int) (a b : D) (hx : 0 ≤ x) (hy : 0 ≤ y) (h : x.natAbs < n) : sWhile (tOf (eOp2 fNe (eV 2) (eC (.int 0)))) (sPar [2, 3] (aCons (eOp2 fMod (eV 3) (eV 2)) (aCons (eV 2) aNil))) n [.im a, .im b, .im (.int x), .im (.int y)] = .nx [.im a, .im b, .im (.int 0), .im (.int (Int.gcd x y))] := by
  have k := wh n x.natAbs y.natAbs a b h
  rw [Int.natAbs_of_nonneg hx, Int.natAbs_of_nonneg hy] at k
  exact k
def Gd (p : Int × Int) : Prop := 0 < p.2 ∧ Int.gcd p.1 p.2 = 1 ∧ Po.bd 70 p.1 ∧ Po.bd 70 p.2
theorem fIx0 (p : Int × Int) : fIx (tp p) (.int 0) = some (.im (.int p.1)) := rfl
theorem fIx1 (p : Int × Int) : fIx (tp p) (.int 1) = some (.im (.int p.2)) := rfl
theorem e_isr {p : Int × Int} (h : Gd p) : d_is_ratio [.im (tp p)] = .ok (.im (.bool true)) none := by
  obtain ⟨a, b⟩ := p
  obtain ⟨h1, h2, _⟩ := h
  dsimp only at h1 h2
  have e1 := e_is_int (.int a) rfl
  have e2 := e_is_int (.int b) rfl
  have i0 := fIx0 (a, b)
  have i1 := fIx1 (a, b)
  have t : isB "tuple" (tp (a, b)) = some true := rfl
  have l : fLen [tp (a, b)] = some (.im (.int 2)) := rfl
  have c : (1 : Int) ≤ b := by omega
  unfold Int.gcd at h2
  dsimp only [tp] at *
  unfold d_is_ratio b_is_ratio
  simp [fnD, sSeq, SR.then, sSet, sRet, sIf, sPar, sExpr, sAsg, sAugI, sAugN, sNext, sFor, forGo, tOf, tNo, tAn, tOr', tYs, eIf, eOp2, eOp1, eOpN, eV, eC, eAnd, eOr, eNot, bE, eCh, eComp, okw, imUn, wipeG, back, aCons, aNil, aConsE, aNilE, eTup, eLst, eCall, eCall0, eCallK, eCallIo, eRep, ownOf, eSl, pNo, pSo, frE, frIo, eIsi, Res.bind, Res.bindS, Res.noex, rd, rdAll, put, esc, DL.settle, stor, noIo, okB, okA, outOf, outB, small, lstOf, put', tgT, tgAll, tgI, tgN, Tg.put, Tg.putAll, noIoAll, noIoB, setAll, itR, itE, itf, f_add, f_sub, f_subb, f_mul, f_div, f_mod, f_pow, f_lt, f_le, f_gt, f_ge, f_max, f_abs, f_neg, fEq_int, fNe_int, fIs, fIsNot, e1, e2, i0, i1, t, l, fNe_int, fEq_int, isI, c, h2, fGcd]
theorem e_wantr {p : Int × Int} (h : Gd p) : d_want_ratio [.im (tp p)] = .ok (.im (tp p)) none := by
  have e := e_isr h
  dsimp only [tp] at *
  unfold d_want_ratio b_want_ratio
  simp [fnD, sSeq, SR.then, sSet, sRet, sIf, sPar, sExpr, sAsg, sAugI, sAugN, sNext, sFor, forGo, tOf, tNo, tAn, tOr', tYs, eIf, eOp2, eOp1, eOpN, eV, eC, eAnd, eOr, eNot, bE, eCh, eComp, okw, imUn, wipeG, back, aCons, aNil, aConsE, aNilE, eTup, eLst, eCall, eCall0, eCallK, eCallIo, eRep, ownOf, eSl, pNo, pSo, frE, frIo, eIsi, Res.bind, Res.bindS, Res.noex, rd, rdAll, put, esc, DL.settle, stor, noIo, okB, okA, outOf, outB, small, lstOf, put', tgT, tgAll, tgI, tgN, Tg.put, Tg.putAll, noIoAll, noIoB, setAll, itR, itE, itf, f_add, f_sub, f_subb, f_mul, f_div, f_mod, f_pow, f_lt, f_le, f_gt, f_ge, f_max, f_abs, f_neg, fEq_int, fNe_int, fIs, fIsNot, e]
end K11
/-! ## K11rb.lean -/
set_option Elab.async false
set_option linter.all false
set_option maxRecDepth 10000
set_option maxHeartbeats 4000000
set_option exponentiation.threshold 3000
namespace K11
open PySem PySem.Spec L2 DL Po
/-! ### poly_worth -/
abbrev wbt : Gm → SR := sSet 4 (eOp2 fMulA (eV 4) (eV 3))
theorem wbt_ok {x0 x1 x2 x5 : B} {b w : Int} (m : mulB w b = true) : wbt [x0, x1, x2, .im (.int b), .im (.int w), x5] = .nx [x0, x1, x2, .im (.int b), .im (.int (w * b)), x5] := by
  simp [fnD, sSeq, SR.then, sSet, sRet, sIf, sPar, sExpr, sAsg, sAugI, sAugN, sNext, sFor, forGo, tOf, tNo, tAn, tOr', tYs, eIf, eOp2, eOp1, eOpN, eV, eC, eAnd, eOr, eNot, bE, eCh, eComp, okw, imUn, wipeG, back, aCons, aNil, aConsE, aNilE, eTup, eLst, eCall, eCall0, eCallK, eCallIo, eRep, ownOf, eSl, pNo, pSo, frE, frIo, eIsi, Res.bind, Res.bindS, Res.noex, rd, rdAll, put, esc, DL.settle, stor, noIo, okB, okA, outOf, outB, small, lstOf, put', tgT, tgAll, tgI, tgN, Tg.put, Tg.putAll, noIoAll, noIoB, setAll, itR, itE, itf, f_add, f_sub, f_subb, f_mul, f_div, f_mod, f_pow, f_lt, f_le, f_gt, f_ge, f_max, f_abs, f_neg, fEq_int, fNe_int, fIs, fIsNot, m]
theorem wb_loop {x0 x1 x2 : B} {b : Int} (hb : bd 5 b) (l : List Int) (hl : l.length ≤ 40) : ∃ y, forGo (tgN (.nm 5)) wbt (l.map .int) [x0, x1, x2, .im (.int b), .im (.int 1), .un] = .nx [x0, x1, x2, .im (.int b), .im (.int (b ^ l.length)), y] := by
  obtain ⟨g', h1, n, y, fy, hn, rfl⟩ := for_ls (t := tgN (.nm 5)) (b := wbt) (en := PyData.int) (P := fun r g => ∃ (n : Nat) (y : B), fr y ∧ n + r.length = l.length ∧ g = [x0, x1, x2, .im (.int b), .im (.int (b ^ n)), y]) l [x0, x1, x2, .im (.int b), .im (.int 1), .un] ⟨0, .un, rfl, by simp, by rw [Int.pow_zero]⟩ (fun a r g hP => by
    obtain ⟨n, y, fy, hn, rfl⟩ := hP
    have hn' : n + r.length + 1 = l.length := by simp at hn; omega
    exact ⟨_, _, wot_ok fy, wbt_ok (mulB_ok (bmono (bpow hb n) (by omega)) (bmono hb (by decide))), n + 1, _, fr_im _, by omega, by rw [Int.pow_succ]⟩)
  simp at hn
  subst hn
  exact ⟨y, h1⟩
abbrev pwB (dw dr db dv : List B → FR) : Gm → SR := (sSeq (sExpr (eCall dw (aConsE (eV 0) aNilE)))
  (sSeq (sAsg (tgN (.tp [(.nm 2), (.nm 3)])) (eCall dr (aConsE (eV 1) aNilE)))
  (sSeq (sSet 4 (eC (.int 1)))
  (sSeq (sFor (itE (eSl (eV 0) (pSo (eC (.int 1))) pNo)) (tgN (.nm 5)) wbt)
  (sRet (eCall db (aConsE (eCall dv (aConsE (eV 0) (aConsE (eV 2) (aConsE (eV 3) aNilE)))) (aConsE (eV 4) aNilE))))))))
section
variable {dw dr db dv : List B → FR} {p r x v a b t w : D} {e : Exn}
theorem pwo_it {ds : List D} {g : Gm} (hc : cutB (some 1) none p = some (.im (.tuple ds))) : itE (eSl (eV 0) (pSo (eC (.int 1))) pNo) (.im p :: g) = .ok ds (.im p :: g) := by
  simp [fnD, sSeq, SR.then, sSet, sRet, sIf, sPar, sExpr, sAsg, sAugI, sAugN, sNext, sFor, forGo, tOf, tNo, tAn, tOr', tYs, eIf, eOp2, eOp1, eOpN, eV, eC, eAnd, eOr, eNot, bE, eCh, eComp, okw, imUn, wipeG, back, aCons, aNil, aConsE, aNilE, eTup, eLst, eCall, eCall0, eCallK, eCallIo, eRep, ownOf, eSl, pNo, pSo, frE, frIo, eIsi, Res.bind, Res.bindS, Res.noex, rd, rdAll, put, esc, DL.settle, stor, noIo, okB, okA, outOf, outB, small, lstOf, put', tgT, tgAll, tgI, tgN, Tg.put, Tg.putAll, noIoAll, noIoB, setAll, itR, itE, itf, f_add, f_sub, f_subb, f_mul, f_div, f_mod, f_pow, f_lt, f_le, f_gt, f_ge, f_max, f_abs, f_neg, fEq_int, fNe_int, fIs, fIsNot, hc]
theorem pwo_1 (h1 : dw [.im p] = .ok (.im x) none) : sExpr (eCall dw (aConsE (eV 0) aNilE)) [.im p, .im r, .un, .un, .un, .un] = .nx [.im p, .im r, .un, .un, .un, .un] := by
  simp [fnD, sSeq, SR.then, sSet, sRet, sIf, sPar, sExpr, sAsg, sAugI, sAugN, sNext, sFor, forGo, tOf, tNo, tAn, tOr', tYs, eIf, eOp2, eOp1, eOpN, eV, eC, eAnd, eOr, eNot, bE, eCh, eComp, okw, imUn, wipeG, back, aCons, aNil, aConsE, aNilE, eTup, eLst, eCall, eCall0, eCallK, eCallIo, eRep, ownOf, eSl, pNo, pSo, frE, frIo, eIsi, Res.bind, Res.bindS, Res.noex, rd, rdAll, put, esc, DL.settle, stor, noIo, okB, okA, outOf, outB, small, lstOf, put', tgT, tgAll, tgI, tgN, Tg.put, Tg.putAll, noIoAll, noIoB, setAll, itR, itE, itf, f_add, f_sub, f_subb, f_mul, f_div, f_mod, f_pow, f_lt, f_le, f_gt, f_ge, f_max, f_abs, f_neg, fEq_int, fNe_int, fIs, fIsNot, h1]
theorem pwo_2 (h1 : dr [.im r] = .ok (.im (.tuple [a, b])) none) : sAsg (tgN (.tp [(.nm 2), (.nm 3)])) (eCall dr (aConsE (eV 1) aNilE)) [.im p, .im r, .un, .un, .un, .un] = .nx [.im p, .im r, .im a, .im b, .un, .un] := by
  simp [fnD, sSeq, SR.then, sSet, sRet, sIf, sPar, sExpr, sAsg, sAugI, sAugN, sNext, sFor, forGo, tOf, tNo, tAn, tOr', tYs, eIf, eOp2, eOp1, eOpN, eV, eC, eAnd, eOr, eNot, bE, eCh, eComp, okw, imUn, wipeG, back, aCons, aNil, aConsE, aNilE, eTup, eLst, eCall, eCall0, eCallK, eCallIo, eRep, ownOf, eSl, pNo, pSo, frE, frIo, eIsi, Res.bind, Res.bindS, Res.noex, rd, rdAll, put, esc, DL.settle, stor, noIo, okB, okA, outOf, outB, small, lstOf, put', tgT, tgAll, tgI, tgN, Tg.put, Tg.putAll, noIoAll, noIoB, setAll, itR, itE, itf, f_add, f_sub, f_subb, f_mul, f_div, f_mod, f_pow, f_lt, f_le, f_gt, f_ge, f_max, f_abs, f_neg, fEq_int, fNe_int, fIs, fIsNot, h1]
theorem pwo_3 {y : B} (h1 : dv [.im p, .im a, .im b] = .ok (.im t) none) (h2 : db [.im t, .im w] = .ok (.im v) none) : sRet (eCall db (aConsE (eCall dv (aConsE (eV 0) (aConsE (eV 2) (aConsE (eV 3) aNilE)))) (aConsE (eV 4) aNilE))) [.im p, .im r, .im a, .im b, .im w, y] = .rt (.im v) [.im p, .im r, .im a, .im b, .im w, y] := by
  simp [fnD, sSeq, SR.then, sSet, sRet, sIf, sPar, sExpr, sAsg, sAugI, sAugN, sNext, sFor, forGo, tOf, tNo, tAn, tOr', tYs, eIf, eOp2, eOp1, eOpN, eV, eC, eAnd, eOr, eNot, bE, eCh, eComp, okw, imUn, wipeG, back, aCons, aNil, aConsE, aNilE, eTup, eLst, eCall, eCall0, eCallK, eCallIo, eRep, ownOf, eSl, pNo, pSo, frE, frIo, eIsi, Res.bind, Res.bindS, Res.noex, rd, rdAll, put, esc, DL.settle, stor, noIo, okB, okA, outOf, outB, small, lstOf, put', tgT, tgAll, tgI, tgN, Tg.put, Tg.putAll, noIoAll, noIoB, setAll, itR, itE, itf, f_add, f_sub, f_subb, f_mul, f_div, f_mod, f_pow, f_lt, f_le, f_gt, f_ge, f_max, f_abs, f_neg, fEq_int, fNe_int, fIs, fIsNot, h1, h2]
theorem pwo_x1 (h1 : dw [.im p] = .ex e none) : pwB dw dr db dv [.im p, .im r, .un, .un, .un, .un] = .ex e [.im p, .im r, .un, .un, .un, .un] := by
  simp [fnD, sSeq, SR.then, sSet, sRet, sIf, sPar, sExpr, sAsg, sAugI, sAugN, sNext, sFor, forGo, tOf, tNo, tAn, tOr', tYs, eIf, eOp2, eOp1, eOpN, eV, eC, eAnd, eOr, eNot, bE, eCh, eComp, okw, imUn, wipeG, back, aCons, aNil, aConsE, aNilE, eTup, eLst, eCall, eCall0, eCallK, eCallIo, eRep, ownOf, eSl, pNo, pSo, frE, frIo, eIsi, Res.bind, Res.bindS, Res.noex, rd, rdAll, put, esc, DL.settle, stor, noIo, okB, okA, outOf, outB, small, lstOf, put', tgT, tgAll, tgI, tgN, Tg.put, Tg.putAll, noIoAll, noIoB, setAll, itR, itE, itf, f_add, f_sub, f_subb, f_mul, f_div, f_mod, f_pow, f_lt, f_le, f_gt, f_ge, f_max, f_abs, f_neg, fEq_int, fNe_int, fIs, fIsNot, h1]
theorem pwo_x2 (h1 : dw [.im p] = .ok (.im x) none) (h2 : dr [.im r] = .ex e none) : pwB dw dr db dv [.im p, .im r, .un, .un, .un, .un] = .ex e [.im p, .im r, .un, .un, .un, .un] := by
  simp [fnD, sSeq, SR.then, sSet, sRet, sIf, sPar, sExpr, sAsg, sAugI, sAugN, sNext, sFor, forGo, tOf, tNo, tAn, tOr', tYs, eIf, eOp2, eOp1, eOpN, eV, eC, eAnd, eOr, eNot, bE, eCh, eComp, okw, imUn, wipeG, back, aCons, aNil, aConsE, aNilE, eTup, eLst, eCall, eCall0, eCallK, eCallIo, eRep, ownOf, eSl, pNo, pSo, frE, frIo, eIsi, Res.bind, Res.bindS, Res.noex, rd, rdAll, put, esc, DL.settle, stor, noIo, okB, okA, outOf, outB, small, lstOf, put', tgT, tgAll, tgI, tgN, Tg.put, Tg.putAll, noIoAll, noIoB, setAll, itR, itE, itf, f_add, f_sub, f_subb, f_mul, f_div, f_mod, f_pow, f_lt, f_le, f_gt, f_ge, f_max, f_abs, f_neg, fEq_int, fNe_int, fIs, fIsNot, h1, h2]
theorem pwo_w {g : Gm} (h : b_poly_worth [.im p, .im r, .un, .un, .un, .un] = .rt (.im v) (.im p :: g)) : d_poly_worth [.im p, .im r] = .ok (.im v) none := by
  unfold d_poly_worth
  simp [fnD, okA, h, outOf, okB]
theorem pwo_wx {g : Gm} (h : b_poly_worth [.im p, .im r, .un, .un, .un, .un] = .ex e (.im p :: g)) : d_poly_worth [.im p, .im r] = .ex e none := by
  unfold d_poly_worth
  simp [fnD, okA, h, outOf, okB]
end
theorem e_pworth {p : List Int} (hp : Pl p) {a b : Int} (ha : bd 5 a) (hb : bd 5 b) (hg : Gd (a, b)) : d_poly_worth [.im (T p), .im (tp (a, b))] = .ok (.im (tp (L (hom p a b) (b ^ (p.length - 1))))) none := by
  have lp := hp.len
  obtain ⟨y, h4⟩ := wb_loop (x0 := .im (T p)) (x1 := .im (tp (a, b))) (x2 := .im (.int a)) hb (p.drop 1) (by rw [List.length_drop]; omega)
  rw [List.length_drop] at h4
  have b0 : b ≠ 0 := by have : 0 < b := hg.1; omega
  have hbp : b ^ (p.length - 1) ≠ 0 := Int.pow_ne_zero b0
  have br := e_bare (hom p a b) (b ^ (p.length - 1)) hbp (bmono (bpow hb _) (by omega))
  exact pwo_w (seq_nx (pwo_1 (dw := d_want_polynomial) (pw_ok hp)) (seq_nx (pwo_2 (dr := d_want_ratio) (e_wantr hg)) (seq_nx rfl (seq_nx (for_ok (pwo_it (cut_from p 1)) h4) (pwo_3 (db := d_bare_ratio) (dv := d_worth_of) (e_wo hp.pb ha hb) br)))))
end K11
/-! ## K11rc.lean -/
set_option Elab.async false
set_option linter.all false
set_option maxRecDepth 10000
set_option maxHeartbeats 4000000
set_option exponentiation.threshold 3000
namespace K11
open PySem PySem.Spec L2 DL Po
/-! ### the law's own worth -/
abbrev wwC : Gm → Res Bool := tOf (eOp2 fNe (eV 8) (eC (.int 0)))
abbrev wwB : Gm → SR := sPar [8, 9] (aCons (eOp2 fMod (eV 9) (eV 8)) (aCons (eV 8) aNil))
theorem wwC_ok {x0 x1 x2 x3 x4 x5 x6 x7 y : B} {x : Int} {c : Bool} (h : (x == 0) = c) : wwC [x0, x1, x2, x3, x4, x5, x6, x7, .im (.int x), y] = .ok (!c) [x0, x1, x2, x3, x4, x5, x6, x7, .im (.int x), y] := by
  simp [fnD, sSeq, SR.then, sSet, sRet, sIf, sPar, sExpr, sAsg, sAugI, sAugN, sNext, sFor, forGo, tOf, tNo, tAn, tOr', tYs, eIf, eOp2, eOp1, eOpN, eV, eC, eAnd, eOr, eNot, bE, eCh, eComp, okw, imUn, wipeG, back, aCons, aNil, aConsE, aNilE, eTup, eLst, eCall, eCall0, eCallK, eCallIo, eRep, ownOf, eSl, pNo, pSo, frE, frIo, eIsi, Res.bind, Res.bindS, Res.noex, rd, rdAll, put, esc, DL.settle, stor, noIo, okB, okA, outOf, outB, small, lstOf, put', tgT, tgAll, tgI, tgN, Tg.put, Tg.putAll, noIoAll, noIoB, setAll, itR, itE, itf, f_add, f_sub, f_subb, f_mul, f_div, f_mod, f_pow, f_lt, f_le, f_gt, f_ge, f_max, f_abs, f_neg, fEq_int, fNe_int, fIs, fIsNot, h]
theorem wwB_ok {x0 x1 x2 x3 x4 x5 x6 x7 : B} {x y : Int} (m : modB y x = true) : wwB [x0, x1, x2, x3, x4, x5, x6, x7, .im (.int x), .im (.int y)] = .nx [x0, x1, x2, x3, x4, x5, x6, x7, .im (.int (y.fmod x)), .im (.int x)] := by
  simp [fnD, sSeq, SR.then, sSet, sRet, sIf, sPar, sExpr, sAsg, sAugI, sAugN, sNext, sFor, forGo, tOf, tNo, tAn, tOr', tYs, eIf, eOp2, eOp1, eOpN, eV, eC, eAnd, eOr, eNot, bE, eCh, eComp, okw, imUn, wipeG, back, aCons, aNil, aConsE, aNilE, eTup, eLst, eCall, eCall0, eCallK, eCallIo, eRep, ownOf, eSl, pNo, pSo, frE, frIo, eIsi, Res.bind, Res.bindS, Res.noex, rd, rdAll, put, esc, DL.settle, stor, noIo, okB, okA, outOf, outB, small, lstOf, put', tgT, tgAll, tgI, tgN, Tg.put, Tg.putAll, noIoAll, noIoB, setAll, itR, itE, itf, f_add, f_sub, f_subb, f_mul, f_div, f_mod, f_pow, f_lt, f_le, f_gt, f_ge, f_max, f_abs, f_neg, fEq_int, fNe_int, fIs, fIsNot, m]
theorem ww : ∀ (n x y : Nat) (x0 x1 x2 x3 x4 x5 x6 x7 : B), x < n → sWhile wwC wwB n [x0, x1, x2, x3, x4, x5, x6, x7, .im (.int x), .im (.int y)] = .nx [x0, x1, x2, x3, x4, x5, x6, x7, .im (.int 0), .im (.int (Nat.gcd x y))]
  | 0, x, y, _, _, _, _, _, _, _, _, h => by omega
  | n + 1, 0, y, x0, x1, x2, x3, x4, x5, x6, x7, h => by
    unfold sWhile
    rw [show ((0 : Nat) : Int) = 0 from rfl, wwC_ok (c := true) rfl, Nat.gcd_zero_left]
    rfl
  | n + 1, x + 1, y, x0, x1, x2, x3, x4, x5, x6, x7, h => by
    have ih := ww n (y % (x + 1)) (x + 1) x0 x1 x2 x3 x4 x5 x6 x7 (by have := Nat.mod_lt y (show 0 < x + 1 by omega); omega)
    have e : ((y : Int)).fmod ((x + 1 : Nat) : Int) = ((y % (x + 1) : Nat) : Int) := by
      rw [Int.fmod_eq_emod_of_nonneg _ (by omega)]; rfl
    have e2 : (((x + 1 : Nat) : Int) == 0) = false := by simp; omega
    have e4 : modB (y : Int) ((x + 1 : Nat) : Int) = true := by unfold modB; simp; omega
    unfold sWhile
    rw [wwC_ok e2]
    simp only [Bool.not_false, Res.bindS, if_true, wwB_ok e4, e]
    rw [Nat.gcd_succ]
    exact ih
abbrev wkA (dp : List B → FR) : Gm → SR := sAugN 3 (fun i j => i + j) (eOp2 fMulA (eOp2 fMulA (eV 6) (eCall dp (aConsE (eV 1) (aConsE (eV 5) aNilE)))) (eCall dp (aConsE (eV 2) (aConsE (eOp2 fSub (eV 4) (eV 5)) aNilE))))
theorem wkA_ok {dp : List B → FR} {x0 x7 x8 x9 : B} {a b t m i c u v : Int} (h1 : dp [.im (.int a), .im (.int i)] = .ok (.im (.int u)) none) (h2 : dp [.im (.int b), .im (.int (m - i))] = .ok (.im (.int v)) none) (m1 : mulB c u = true) (m2 : mulB (c * u) v = true) :
    wkA dp [x0, .im (.int a), .im (.int b), .im (.int t), .im (.int m), .im (.int i), .im (.int c), x7, x8, x9] = .nx [x0, .im (.int a), .im (.int b), .im (.int (t + c * u * v)), .im (.int m), .im (.int i), .im (.int c), x7, x8, x9] := by
  simp [fnD, sSeq, SR.then, sSet, sRet, sIf, sPar, sExpr, sAsg, sAugI, sAugN, sNext, sFor, forGo, tOf, tNo, tAn, tOr', tYs, eIf, eOp2, eOp1, eOpN, eV, eC, eAnd, eOr, eNot, bE, eCh, eComp, okw, imUn, wipeG, back, aCons, aNil, aConsE, aNilE, eTup, eLst, eCall, eCall0, eCallK, eCallIo, eRep, ownOf, eSl, pNo, pSo, frE, frIo, eIsi, Res.bind, Res.bindS, Res.noex, rd, rdAll, put, esc, DL.settle, stor, noIo, okB, okA, outOf, outB, small, lstOf, put', tgT, tgAll, tgI, tgN, Tg.put, Tg.putAll, noIoAll, noIoB, setAll, itR, itE, itf, f_add, f_sub, f_subb, f_mul, f_div, f_mod, f_pow, f_lt, f_le, f_gt, f_ge, f_max, f_abs, f_neg, fEq_int, fNe_int, fIs, fIsNot, h1, h2, m1, m2]
theorem wkT_ok {x0 x1 x2 x3 x4 x5 x6 x7 x8 x9 : B} {i s : D} (h5 : fr x5) (h6 : fr x6) : tgN (.tp [(.nm 5), (.nm 6)]) (.tuple [i, s]) [x0, x1, x2, x3, x4, x5, x6, x7, x8, x9] = .ok () [x0, x1, x2, x3, x4, .im i, .im s, x7, x8, x9] := by
  unfold fr at *
  simp [tgN, Tg.put, Tg.putAll, h5, h6]
theorem wk_loop {p : List Int} (hp : Pb p) (hne : p ≠ []) {a b : Int} (ha : bd 5 a) (hb : bd 5 b) : ∃ y5 y6, forGo (tgN (.tp [(.nm 5), (.nm 6)])) (wkA d__law_power) (enumD 0 (p.map .int)) [.im (T p), .im (.int a), .im (.int b), .im (.int 0), .im (.int ((p.length : Int) - 1)), .un, .un, .un, .un, .un] =
    .nx [.im (T p), .im (.int a), .im (.int b), .im (.int (hom p a b)), .im (.int ((p.length : Int) - 1)), y5, y6, .un, .un, .un] := by
  have lp := hp.len
  obtain ⟨g', h1, y5, y6, f5, f6, rfl⟩ := for_en (t := tgN (.tp [(.nm 5), (.nm 6)])) (b := wkA d__law_power) (P := fun i g => ∃ y5 y6, fr y5 ∧ fr y6 ∧ g = [.im (T p), .im (.int a), .im (.int b), .im (.int (sumTo i fun j => co p j * a ^ j * b ^ (p.length - 1 - j))), .im (.int ((p.length : Int) - 1)), y5, y6, .un, .un, .un])
    p 0 [.im (T p), .im (.int a), .im (.int b), .im (.int 0), .im (.int ((p.length : Int) - 1)), .un, .un, .un, .un, .un] ⟨.un, .un, rfl, rfl, rfl⟩ (fun i hi g hP => by
      obtain ⟨y5, y6, f5, f6, rfl⟩ := hP
      rw [Nat.zero_add]
      have e1 := e_pow ha i (by omega)
      have e2 := e_pow hb (p.length - 1 - i) (by omega)
      have ei : (p.length : Int) - 1 - (i : Int) = ((p.length - 1 - i : Nat) : Int) := by omega
      rw [← ei] at e2
      have b1 := bmul (hp.bd i) (bpow ha i)
      exact ⟨_, _, wkT_ok f5 f6, wkA_ok e1 e2 (mulB_ok (bmono (hp.bd i) (by decide)) (bmono (bpow ha i) (by omega))) (mulB_ok (bmono b1 (by omega)) (bmono (bpow hb _) (by omega))), _, _, fr_im _, fr_im _, rfl⟩)
  rw [Nat.zero_add] at h1
  exact ⟨y5, y6, h1⟩
abbrev wkB (dp : List B → FR) (lp wh : Gm → SR) : Gm → SR := (sSeq (sIf (tOf (eOp2 fEq (eV 0) (eTup aNilE))) (sRet (eTup (aConsE (eC (.int 0)) (aConsE (eC (.int 1)) aNilE)))) sNext)
  (sSeq (sPar [3, 4] (aCons (eC (.int 0)) (aCons (eOp2 fSub (eOpN fLen (aCons (eV 0) aNil)) (eC (.int 1))) aNil)))
  (sSeq lp
  (sSeq (sSet 7 (eCall dp (aConsE (eV 2) (aConsE (eV 4) aNilE))))
  (sSeq (sPar [8, 9] (aCons (eOpN fAbs (aCons (eV 3) aNil)) (aCons (eV 7) aNil)))
  (sSeq wh
  (sRet (eTup (aConsE (eOp2 fDiv (eV 3) (eV 9)) (aConsE (eOp2 fDiv (eV 7) (eV 9)) aNilE))))))))))
theorem wk_nil {dp : List B → FR} {lp wh : Gm → SR} {p : D} {x1 x2 : B} (h : fEq p (.tuple []) = some (.im (.bool true))) : wkB dp lp wh [.im p, x1, x2, .un, .un, .un, .un, .un, .un, .un] = .rt (.im (.tuple [.int 0, .int 1])) [.im p, x1, x2, .un, .un, .un, .un, .un, .un, .un] := by
  simp [fnD, sSeq, SR.then, sSet, sRet, sIf, sPar, sExpr, sAsg, sAugI, sAugN, sNext, sFor, forGo, tOf, tNo, tAn, tOr', tYs, eIf, eOp2, eOp1, eOpN, eV, eC, eAnd, eOr, eNot, bE, eCh, eComp, okw, imUn, wipeG, back, aCons, aNil, aConsE, aNilE, eTup, eLst, eCall, eCall0, eCallK, eCallIo, eRep, ownOf, eSl, pNo, pSo, frE, frIo, eIsi, Res.bind, Res.bindS, Res.noex, rd, rdAll, put, esc, DL.settle, stor, noIo, okB, okA, outOf, outB, small, lstOf, put', tgT, tgAll, tgI, tgN, Tg.put, Tg.putAll, noIoAll, noIoB, setAll, itR, itE, itf, f_add, f_sub, f_subb, f_mul, f_div, f_mod, f_pow, f_lt, f_le, f_gt, f_ge, f_max, f_abs, f_neg, fEq_int, fNe_int, fIs, fIsNot, h]
theorem wk_ok {dp : List B → FR} {lp wh : Gm → SR} {p : D} {x1 y5 y6 y8 : B} {b n t w u g : Int} (h : fEq p (.tuple []) = some (.im (.bool false))) (l : fLen [p] = some (.im (.int n))) (h1 : lp [.im p, x1, .im (.int b), .im (.int 0), .im (.int (n - 1)), .un, .un, .un, .un, .un] = .nx [.im p, x1, .im (.int b), .im (.int t), .im (.int (n - 1)), y5, y6, .un, .un, .un])
    (h2 : dp [.im (.int b), .im (.int (n - 1))] = .ok (.im (.int w)) none) (hu : (if t < 0 then -t else t) = u) (h3 : wh [.im p, x1, .im (.int b), .im (.int t), .im (.int (n - 1)), y5, y6, .im (.int w), .im (.int u), .im (.int w)] = .nx [.im p, x1, .im (.int b), .im (.int t), .im (.int (n - 1)), y5, y6, .im (.int w), y8, .im (.int g)]) (d : ∀ i, divB i g = true) :
    wkB dp lp wh [.im p, x1, .im (.int b), .un, .un, .un, .un, .un, .un, .un] = .rt (.im (.tuple [.int (t.fdiv g), .int (w.fdiv g)])) [.im p, x1, .im (.int b), .im (.int t), .im (.int (n - 1)), y5, y6, .im (.int w), y8, .im (.int g)] := by
  simp [fnD, sSeq, SR.then, sSet, sRet, sIf, sPar, sExpr, sAsg, sAugI, sAugN, sNext, sFor, forGo, tOf, tNo, tAn, tOr', tYs, eIf, eOp2, eOp1, eOpN, eV, eC, eAnd, eOr, eNot, bE, eCh, eComp, okw, imUn, wipeG, back, aCons, aNil, aConsE, aNilE, eTup, eLst, eCall, eCall0, eCallK, eCallIo, eRep, ownOf, eSl, pNo, pSo, frE, frIo, eIsi, Res.bind, Res.bindS, Res.noex, rd, rdAll, put, esc, DL.settle, stor, noIo, okB, okA, outOf, outB, small, lstOf, put', tgT, tgAll, tgI, tgN, Tg.put, Tg.putAll, noIoAll, noIoB, setAll, itR, itE, itf, f_add, f_sub, f_subb, f_mul, f_div, f_mod, f_pow, f_lt, f_le, f_gt, f_ge, f_max, f_abs, f_neg, fEq_int, fNe_int, fIs, fIsNot, h, l, h1, h2, hu, h3, d]
theorem wk_w {p x z v : D} {g : Gm} (h : b__law_worth [.im p, .im x, .im z, .un, .un, .un, .un, .un, .un, .un] = .rt (.im v) (.im p :: g)) : d__law_worth [.im p, .im x, .im z] = .ok (.im v) none := by
  unfold d__law_worth
  simp [fnD, okA, h, outOf, okB]
theorem e_lworth {p : List Int} (hp : Pb p) {a b : Int} (ha : bd 5 a) (hb : bd 5 b) (b0 : 0 < b) : d__law_worth [.im (T p), .im (.int a), .im (.int b)] = .ok (.im (tp (L (hom p a b) (b ^ (p.length - 1))))) none := by
  have lp := hp.len
  by_cases c : p = []
  · subst c
    have e : L (hom [] a b) (b ^ (([] : List Int).length - 1)) = (0, 1) := by
      show L 0 (b ^ 0) = _
      rw [Int.pow_zero]
      rfl
    rw [e]
    exact wk_w (wk_nil (dp := d__law_power) (lp := sFor (itf fEnum (aConsE (eV 0) aNilE)) (tgN (.tp [(.nm 5), (.nm 6)])) (wkA d__law_power)) (wh := sWhile wwC wwB 1000000000000000000000000000000000000000000000000000000000000) (eq_nil []))
  · have pl := List.length_pos_iff.mpr c
    obtain ⟨y5, y6, h1⟩ := wk_loop hp c ha hb
    have en := eq_nil p
    rw [show p.isEmpty = false by cases p with | nil => exact absurd rfl c | cons a l => rfl] at en
    have e2 := e_pow hb (p.length - 1) (by omega)
    rw [show ((p.length - 1 : Nat) : Int) = (p.length : Int) - 1 by omega] at e2
    have wpos : 0 < b ^ (p.length - 1) := Int.pow_pos b0
    have hbd := hom_bd hp ha hb
    have wbd : bd 140 (b ^ (p.length - 1)) := bmono (bpow hb _) (by omega)
    have w1 := ww 1000000000000000000000000000000000000000000000000000000000000 (hom p a b).natAbs (b ^ (p.length - 1)).natAbs (.im (T p)) (.im (.int a)) (.im (.int b)) (.im (.int (hom p a b))) (.im (.int ((p.length : Int) - 1))) y5 y6 (.im (.int (b ^ (p.length - 1)))) (Nat.lt_trans hbd (by decide))
    rw [show (((b ^ (p.length - 1)).natAbs : Nat) : Int) = b ^ (p.length - 1) by omega] at w1
    have gp := gpos (a := hom p a b) (b := b ^ (p.length - 1)) (by omega)
    have gd : ∀ i : Int, divB i ((Nat.gcd (hom p a b).natAbs (b ^ (p.length - 1)).natAbs : Nat) : Int) = true := fun i => divB_ok (by unfold Int.gcd at gp; omega) (by
      have := Nat.le_of_dvd (show 0 < (b ^ (p.length - 1)).natAbs by omega) (Nat.gcd_dvd_right (hom p a b).natAbs (b ^ (p.length - 1)).natAbs)
      exact Nat.lt_of_le_of_lt this (bmono wbd (by decide)))
    have eL : L (hom p a b) (b ^ (p.length - 1)) = ((hom p a b).fdiv ((Nat.gcd (hom p a b).natAbs (b ^ (p.length - 1)).natAbs : Nat) : Int), (b ^ (p.length - 1)).fdiv ((Nat.gcd (hom p a b).natAbs (b ^ (p.length - 1)).natAbs : Nat) : Int)) := by
      unfold L s
      rw [if_neg (by omega)]
      rfl
    rw [eL]
    exact wk_w (wk_ok (dp := d__law_power) (u := ((hom p a b).natAbs : Int)) en (len_T p) ((for_T (l := p) rfl).trans h1) e2 (by split <;> omega) w1 gd)
end K11
/-! ## K11rd.lean -/
set_option Elab.async false
set_option linter.all false
set_option maxRecDepth 10000
set_option maxHeartbeats 4000000
set_option exponentiation.threshold 3000
namespace K11
open PySem PySem.Spec L2 DL Po
/-! ### worths of products at whole numbers -/
theorem sum_swap {F : Nat → Nat → Int} {P : Nat} : ∀ N : Nat, sumTo N (fun n => sumTo P fun j => F j n) = sumTo P fun j => sumTo N (F j)
  | 0 => (sum_zero fun j _ => rfl).symm
  | N + 1 => by
    show sumTo N (fun n => sumTo P fun j => F j n) + sumTo P (fun j => F j N) = _
    rw [sum_swap N, ← sum_add]
    rfl
theorem sum_split {F : Nat → Int} {j : Nat} : ∀ M : Nat, sumTo (j + M) F = sumTo j F + sumTo M fun m => F (j + m)
  | 0 => by show sumTo j F = sumTo j F + 0; omega
  | M + 1 => by
    show sumTo (j + M) F + F (j + M) = sumTo j F + (sumTo M (fun m => F (j + m)) + F (j + M))
    rw [sum_split M]; omega
theorem sum_mull {F : Nat → Int} {c : Int} (n : Nat) : c * sumTo n F = sumTo n fun i => c * F i := by
  rw [Int.mul_comm, sum_mulr]
  exact sum_congr fun i _ => Int.mul_comm _ _
def evl (l : List Int) (a : Int) : Int := sumTo l.length fun i => co l i * a ^ i
theorem hom_one (l : List Int) (a : Int) : hom l a 1 = evl l a := by
  unfold hom evl
  exact sum_congr fun i _ => by rw [Int.one_pow, Int.mul_one]
theorem evl_pad {l : List Int} {a : Int} {M : Nat} (h : l.length ≤ M) : sumTo M (fun i => co l i * a ^ i) = evl l a := by
  obtain ⟨k, rfl⟩ : ∃ k, M = l.length + k := ⟨M - l.length, by omega⟩
  exact sum_more fun j h1 _ => by rw [co_ge h1]; omega
theorem evl_shift {q : List Int} {a : Int} {j N : Nat} (h : j + q.length ≤ N) : sumTo N (fun n => sh j (co q) n * a ^ n) = a ^ j * evl q a := by
  obtain ⟨M, rfl⟩ : ∃ M, N = j + M := ⟨N - j, by omega⟩
  rw [sum_split, sum_zero fun i hi => by unfold sh; rw [if_neg (by omega)]; omega, Int.zero_add, ← evl_pad (l := q) (M := M) (by omega), sum_mull]
  refine sum_congr fun m _ => ?_
  unfold sh
  rw [if_pos (by omega), show j + m - j = m by omega, Int.pow_add]
  simp only [Int.mul_assoc, Int.mul_comm, Int.mul_left_comm]
theorem evl_mul {p q w : List Int} {a : Int} (hw : w.length ≤ p.length + q.length) (h : ∀ n, co w n = pm p (co q) n) : evl w a = evl p a * evl q a := by
  rw [← evl_pad hw]
  have e1 : sumTo (p.length + q.length) (fun i => co w i * a ^ i) = sumTo (p.length + q.length) (fun n => sumTo p.length fun j => co p j * sh j (co q) n * a ^ n) := sum_congr fun n _ => by
    rw [h n]
    unfold pm
    rw [sum_mulr]
  rw [e1, sum_swap]
  unfold evl
  rw [sum_mulr]
  refine sum_congr fun j hj => ?_
  have e2 : sumTo (p.length + q.length) (fun n => co p j * sh j (co q) n * a ^ n) = co p j * sumTo (p.length + q.length) (fun n => sh j (co q) n * a ^ n) := by
    rw [sum_mull]
    exact sum_congr fun n _ => Int.mul_assoc _ _ _
  rw [e2, evl_shift (by omega), ← Int.mul_assoc]
  rfl
theorem L_one (x : Int) : L x 1 = (x, 1) := by
  have g : Int.gcd x 1 = 1 := by rw [Int.gcd_one]
  exact L_self (by decide) g
theorem e_w1 {p : List Int} (hp : Pb p) {a : Int} (ha : bd 5 a) : d__law_worth [.im (T p), .im (.int a), .im (.int 1)] = .ok (.im (tp (evl p a, 1))) none := by
  have h := e_lworth hp ha (b := 1) (by unfold Po.bd; decide) (by decide)
  rw [Int.one_pow, L_one, hom_one] at h
  exact h
end K11
/-! ## K11re.lean -/
set_option Elab.async false
set_option linter.all false
set_option maxRecDepth 10000
set_option maxHeartbeats 8000000
set_option exponentiation.threshold 3000
namespace K11
open PySem PySem.Spec L2 DL Po
/-! ### two polynomials judged -/
abbrev twb (is pl mi su pr rz ti wo pw : List B → FR) : Gm → SR := (sSeq (sIf (tNo (tOf (eCall is (aConsE (eCall pl (aConsE (eV 0) (aConsE (eV 1) aNilE))) (aConsE (eCall su (aConsE (eV 0) (aConsE (eV 1) (aConsE (eC (.int 1)) aNilE)))) aNilE))))) (sRet (eC (.bool false))) sNext) (sSeq (sIf (tNo (tOf (eCall is (aConsE (eCallK mi 0 2 (permL [1, 0]) aNilE (aConsE (eV 1) (aConsE (eV 0) aNilE))) (aConsE (eCall su (aConsE (eV 0) (aConsE (eV 1) (aConsE (eOp1 fNeg (eC (.int 1))) aNilE)))) aNilE))))) (sRet (eC (.bool false))) sNext) (sSeq (sIf (tOr' (tNo (tOf (eCall is (aConsE (eCall mi (aConsE (eV 0) (aConsE (eV 0) aNilE))) (aConsE (eTup aNilE) aNilE))))) (tNo (tOf (eCall is (aConsE (eCall pl (aConsE (eV 0) (aConsE (eTup aNilE) aNilE))) (aConsE (eV 0) aNilE)))))) (sRet (eC (.bool false))) sNext) (sSeq (sSet 4 (eCall pr (aConsE (eV 0) (aConsE (eV 1) aNilE)))) (sSeq (sIf (tOf (eOp2 fGt (eOpN fLen (aCons (eV 4) aNil)) (eC (.int 13)))) (sRet (eOp2 fEq (eCall rz (aConsE (eC (.str "times")) (aConsE (eV 0) (aConsE (eV 1) aNilE)))) (eLst (aConsE (eC (.str "degree")) (aConsE (eC (.int 12)) aNilE))))) sNext) (sSeq (sIf (tNo (tOf (eCall is (aConsE (eCall ti (aConsE (eV 0) (aConsE (eV 1) aNilE))) (aConsE (eV 4) aNilE))))) (sRet (eC (.bool false))) sNext) (sSeq (sFor (itE (eLst (aConsE (eC (.int 0)) (aConsE (eC (.int 1)) (aConsE (eOp1 fNeg (eC (.int 1))) (aConsE (eC (.int 2)) aNilE)))))) (tgN (.nm 5)) (sSeq (sPar [6, 7] (aCons (eOp2 fIx (eCall wo (aConsE (eV 0) (aConsE (eV 5) (aConsE (eC (.int 1)) aNilE)))) (eC (.int 0))) (aCons (eOp2 fIx (eCall wo (aConsE (eV 1) (aConsE (eV 5) (aConsE (eC (.int 1)) aNilE)))) (eC (.int 0))) aNil))) (sIf (tOf (eOp2 fNe (eCall wo (aConsE (eCallK ti 0 2 (permL [0, 1]) aNilE (aConsE (eV 0) (aConsE (eV 1) aNilE))) (aConsE (eV 5) (aConsE (eC (.int 1)) aNilE)))) (eTup (aConsE (eOp2 fMulA (eV 6) (eV 7)) (aConsE (eC (.int 1)) aNilE))))) (sRet (eC (.bool false))) sNext))) (sRet (eCall is (aConsE (eCall pw (aConsE (eV 0) (aConsE (eTup (aConsE (eV 2) (aConsE (eV 3) aNilE))) aNilE))) (aConsE (eCall wo (aConsE (eV 0) (aConsE (eV 2) (aConsE (eV 3) aNilE)))) aNilE)))))))))))
theorem neT (x : Int) : fNe (.tuple [.int x, .int 1]) (.tuple [.int x, .int 1]) = some (.im (.bool false)) := by
  have e : (PyData.tuple [.int x, .int 1]).canLay0 = true := rfl
  have e1 : shp (.tuple [.int x, .int 1]) = true := rfl
  unfold fNe
  rw [e1, SeqAt.eqv_refl _ e]
  rfl
section
variable {is pl mi su pr rz ti wo pw : List B → FR} {p q w v1 v2 u : D} {a b n e0 e1 e2 e3 f0 f1 f2 f3 : Int}
theorem tw_ok (h1 : pl [.im p, .im q] = .ok (.im v1) none) (h2 : su [.im p, .im q, .im (.int 1)] = .ok (.im v1) none) (i1 : is [.im v1, .im v1] = .ok (.im (.bool true)) none) (h3 : mi [.im p, .im q] = .ok (.im v2) none) (h4 : su [.im p, .im q, .im (.int (-1))] = .ok (.im v2) none) (i2 : is [.im v2, .im v2] = .ok (.im (.bool true)) none)
    (h5 : mi [.im p, .im p] = .ok (.im (.tuple [])) none) (i3 : is [.im (.tuple []), .im (.tuple [])] = .ok (.im (.bool true)) none) (h6 : pl [.im p, .im (.tuple [])] = .ok (.im p) none) (i4 : is [.im p, .im p] = .ok (.im (.bool true)) none) (h7 : pr [.im p, .im q] = .ok (.im w) none) (l : fLen [w] = some (.im (.int n))) (hn : ¬ 13 < n)
    (h8 : ti [.im p, .im q] = .ok (.im w) none) (i5 : is [.im w, .im w] = .ok (.im (.bool true)) none) (w0 : wo [.im p, .im (.int 0), .im (.int 1)] = .ok (.im (.tuple [.int e0, .int 1])) none) (w1 : wo [.im p, .im (.int 1), .im (.int 1)] = .ok (.im (.tuple [.int e1, .int 1])) none) (w2 : wo [.im p, .im (.int (-1)), .im (.int 1)] = .ok (.im (.tuple [.int e2, .int 1])) none) (w3 : wo [.im p, .im (.int 2), .im (.int 1)] = .ok (.im (.tuple [.int e3, .int 1])) none)
    (x0 : wo [.im q, .im (.int 0), .im (.int 1)] = .ok (.im (.tuple [.int f0, .int 1])) none) (x1 : wo [.im q, .im (.int 1), .im (.int 1)] = .ok (.im (.tuple [.int f1, .int 1])) none) (x2 : wo [.im q, .im (.int (-1)), .im (.int 1)] = .ok (.im (.tuple [.int f2, .int 1])) none) (x3 : wo [.im q, .im (.int 2), .im (.int 1)] = .ok (.im (.tuple [.int f3, .int 1])) none)
    (y0 : wo [.im w, .im (.int 0), .im (.int 1)] = .ok (.im (.tuple [.int (e0 * f0), .int 1])) none) (y1 : wo [.im w, .im (.int 1), .im (.int 1)] = .ok (.im (.tuple [.int (e1 * f1), .int 1])) none) (y2 : wo [.im w, .im (.int (-1)), .im (.int 1)] = .ok (.im (.tuple [.int (e2 * f2), .int 1])) none) (y3 : wo [.im w, .im (.int 2), .im (.int 1)] = .ok (.im (.tuple [.int (e3 * f3), .int 1])) none)
    (m0 : mulB e0 f0 = true) (m1 : mulB e1 f1 = true) (m2 : mulB e2 f2 = true) (m3 : mulB e3 f3 = true) (z1 : pw [.im p, .im (.tuple [.int a, .int b])] = .ok (.im u) none) (z2 : wo [.im p, .im (.int a), .im (.int b)] = .ok (.im u) none) (i6 : is [.im u, .im u] = .ok (.im (.bool true)) none) :
    ∃ g, twb is pl mi su pr rz ti wo pw [.im p, .im q, .im (.int a), .im (.int b), .un, .un, .un, .un] = .rt (.im (.bool true)) (.im p :: g) := by
  have ix : ∀ x : Int, fIx (.tuple [.int x, .int 1]) (.int 0) = some (.im (.int x)) := fun _ => rfl
  have ne := neT
  generalize hz0 : e0 * f0 = k0 at *
  generalize hz1 : e1 * f1 = k1 at *
  generalize hz2 : e2 * f2 = k2 at *
  generalize hz3 : e3 * f3 = k3 at *
  refine ⟨[.im q, .im (.int a), .im (.int b), .im w, .im (.int 2), .im (.int e3), .im (.int f3)], ?_⟩
  simp [fnD, sSeq, SR.then, sSet, sRet, sIf, sPar, sExpr, sAsg, sAugI, sAugN, sNext, sFor, forGo, tOf, tNo, tAn, tOr', tYs, eIf, eOp2, eOp1, eOpN, eV, eC, eAnd, eOr, eNot, bE, eCh, eComp, okw, imUn, wipeG, back, aCons, aNil, aConsE, aNilE, eTup, eLst, eCall, eCall0, eCallK, eCallIo, eRep, ownOf, eSl, pNo, pSo, frE, frIo, eIsi, Res.bind, Res.bindS, Res.noex, rd, rdAll, put, esc, DL.settle, stor, noIo, okB, okA, outOf, outB, small, lstOf, put', tgT, tgAll, tgI, tgN, Tg.put, Tg.putAll, noIoAll, noIoB, setAll, itR, itE, itf, f_add, f_sub, f_subb, f_mul, f_div, f_mod, f_pow, f_lt, f_le, f_gt, f_ge, f_max, f_abs, f_neg, fEq_int, fNe_int, fIs, fIsNot, h1, h2, i1, h3, h4, i2, h5, i3, h6, i4, h7, l, hn, h8, i5, w0, w1, w2, w3, x0, x1, x2, x3, y0, y1, y2, y3, m0, m1, m2, m3, z1, z2, i6, permL, ix, ne, hz0, hz1, hz2, hz3]
theorem tw_long {d1 d2 : D} (h1 : pl [.im p, .im q] = .ok (.im v1) none) (h2 : su [.im p, .im q, .im (.int 1)] = .ok (.im v1) none) (i1 : is [.im v1, .im v1] = .ok (.im (.bool true)) none) (h3 : mi [.im p, .im q] = .ok (.im v2) none) (h4 : su [.im p, .im q, .im (.int (-1))] = .ok (.im v2) none) (i2 : is [.im v2, .im v2] = .ok (.im (.bool true)) none)
    (h5 : mi [.im p, .im p] = .ok (.im (.tuple [])) none) (i3 : is [.im (.tuple []), .im (.tuple [])] = .ok (.im (.bool true)) none) (h6 : pl [.im p, .im (.tuple [])] = .ok (.im p) none) (i4 : is [.im p, .im p] = .ok (.im (.bool true)) none) (h7 : pr [.im p, .im q] = .ok (.im w) none) (l : fLen [w] = some (.im (.int n))) (hn : 13 < n)
    (r : rz [.im (.str "times"), .im p, .im q] = .ok (.mu [.str "degree", .int 12]) none) (e : fEq (.list [.str "degree", .int 12]) (.list [.str "degree", .int 12]) = some (.im (.bool true))) :
    ∃ g, twb is pl mi su pr rz ti wo pw [.im p, .im q, .im (.int a), .im (.int b), .un, .un, .un, .un] = .rt (.im (.bool true)) (.im p :: g) := by
  refine ⟨[.im q, .im (.int a), .im (.int b), .im w, .un, .un, .un], ?_⟩
  simp [fnD, sSeq, SR.then, sSet, sRet, sIf, sPar, sExpr, sAsg, sAugI, sAugN, sNext, sFor, forGo, tOf, tNo, tAn, tOr', tYs, eIf, eOp2, eOp1, eOpN, eV, eC, eAnd, eOr, eNot, bE, eCh, eComp, okw, imUn, wipeG, back, aCons, aNil, aConsE, aNilE, eTup, eLst, eCall, eCall0, eCallK, eCallIo, eRep, ownOf, eSl, pNo, pSo, frE, frIo, eIsi, Res.bind, Res.bindS, Res.noex, rd, rdAll, put, esc, DL.settle, stor, noIo, okB, okA, outOf, outB, small, lstOf, put', tgT, tgAll, tgI, tgN, Tg.put, Tg.putAll, noIoAll, noIoB, setAll, itR, itE, itf, f_add, f_sub, f_subb, f_mul, f_div, f_mod, f_pow, f_lt, f_le, f_gt, f_ge, f_max, f_abs, f_neg, fEq_int, fNe_int, fIs, fIsNot, h1, h2, i1, h3, h4, i2, h5, i3, h6, i4, h7, l, hn, r, e, permL]
theorem tw_w {x y : D} {g : Gm} (h : b__law_two_right [.im p, .im q, .im x, .im y, .un, .un, .un, .un] = .rt (.im (.bool true)) (.im p :: g)) : d__law_two_right [.im p, .im q, .im x, .im y] = .ok (.im (.bool true)) none := by
  unfold d__law_two_right
  simp [fnD, okA, h, outOf, okB]
end
end K11
/-! ## K11rf.lean -/
set_option Elab.async false
set_option linter.all false
set_option maxRecDepth 10000
set_option maxHeartbeats 8000000
set_option exponentiation.threshold 3000
namespace K11
open PySem PySem.Spec L2 DL Po
/-! ### told, raised -/
theorem sne {x y : PySem.Str} (h : (x == y) = false) (hx : PyData.strOk x = true) (hy : PyData.strOk y = true) : fEq (.str x) (.str y) = some (.im (.bool false)) := by
  unfold fEq
  rw [shp_str hx, shp_str hy]
  simp [PyData.eqv, h]
theorem q_mp : fEq (.str "minus") (.str "plus") = some (.im (.bool false)) := sne (by decide +kernel) (by decide +kernel) (by decide +kernel)
theorem q_tp : fEq (.str "times") (.str "plus") = some (.im (.bool false)) := sne (by decide +kernel) (by decide +kernel) (by decide +kernel)
theorem q_tm : fEq (.str "times") (.str "minus") = some (.im (.bool false)) := sne (by decide +kernel) (by decide +kernel) (by decide +kernel)
theorem q_sp : fEq (.str "slope") (.str "plus") = some (.im (.bool false)) := sne (by decide +kernel) (by decide +kernel) (by decide +kernel)
theorem q_sm : fEq (.str "slope") (.str "minus") = some (.im (.bool false)) := sne (by decide +kernel) (by decide +kernel) (by decide +kernel)
theorem q_st : fEq (.str "slope") (.str "times") = some (.im (.bool false)) := sne (by decide +kernel) (by decide +kernel) (by decide +kernel)
theorem q_wp : fEq (.str "worth") (.str "plus") = some (.im (.bool false)) := sne (by decide +kernel) (by decide +kernel) (by decide +kernel)
theorem q_wm : fEq (.str "worth") (.str "minus") = some (.im (.bool false)) := sne (by decide +kernel) (by decide +kernel) (by decide +kernel)
theorem q_wt : fEq (.str "worth") (.str "times") = some (.im (.bool false)) := sne (by decide +kernel) (by decide +kernel) (by decide +kernel)
theorem q_ws : fEq (.str "worth") (.str "slope") = some (.im (.bool false)) := sne (by decide +kernel) (by decide +kernel) (by decide +kernel)
theorem q_p : fEq (.str "plus") (.str "plus") = some (.im (.bool true)) := fEq_str (by decide +kernel)
theorem q_m : fEq (.str "minus") (.str "minus") = some (.im (.bool true)) := fEq_str (by decide +kernel)
theorem q_t : fEq (.str "times") (.str "times") = some (.im (.bool true)) := fEq_str (by decide +kernel)
theorem q_s : fEq (.str "slope") (.str "slope") = some (.im (.bool true)) := fEq_str (by decide +kernel)
abbrev tdb (pl mi ti sl wo : List B → FR) : Gm → SR := (sSeq (sIf (tOf (eOp2 fEq (eV 0) (eC (.str "plus")))) (sRet (eCall pl (aConsE (eV 1) (aConsE (eV 2) aNilE)))) sNext)
  (sSeq (sIf (tOf (eOp2 fEq (eV 0) (eC (.str "minus")))) (sRet (eCall mi (aConsE (eV 1) (aConsE (eV 2) aNilE)))) sNext)
  (sSeq (sIf (tOf (eOp2 fEq (eV 0) (eC (.str "times")))) (sRet (eCall ti (aConsE (eV 1) (aConsE (eV 2) aNilE)))) sNext)
  (sRet (eIf (tOf (eOp2 fEq (eV 0) (eC (.str "slope")))) (eCall sl (aConsE (eV 1) aNilE)) (eCall wo (aConsE (eV 1) (aConsE (eV 2) aNilE))))))))
section
variable {pl mi ti sl wo : List B → FR} {x y w : D} {e : Exn}
theorem td_plus (h : pl [.im x, .im y] = .ex e none) : tdb pl mi ti sl wo [.im (.str "plus"), .im x, .im y] = .ex e [.im (.str "plus"), .im x, .im y] := by
  have q := q_p
  simp [fnD, sSeq, SR.then, sSet, sRet, sIf, sPar, sExpr, sAsg, sAugI, sAugN, sNext, sFor, forGo, tOf, tNo, tAn, tOr', tYs, eIf, eOp2, eOp1, eOpN, eV, eC, eAnd, eOr, eNot, bE, eCh, eComp, okw, imUn, wipeG, back, aCons, aNil, aConsE, aNilE, eTup, eLst, eCall, eCall0, eCallK, eCallIo, eRep, ownOf, eSl, pNo, pSo, frE, frIo, eIsi, Res.bind, Res.bindS, Res.noex, rd, rdAll, put, esc, DL.settle, stor, noIo, okB, okA, outOf, outB, small, lstOf, put', tgT, tgAll, tgI, tgN, Tg.put, Tg.putAll, noIoAll, noIoB, setAll, itR, itE, itf, f_add, f_sub, f_subb, f_mul, f_div, f_mod, f_pow, f_lt, f_le, f_gt, f_ge, f_max, f_abs, f_neg, fEq_int, fNe_int, fIs, fIsNot, q, h]
theorem td_minus (h : mi [.im x, .im y] = .ex e none) : tdb pl mi ti sl wo [.im (.str "minus"), .im x, .im y] = .ex e [.im (.str "minus"), .im x, .im y] := by
  have q := q_m
  have q1 := q_mp
  simp [fnD, sSeq, SR.then, sSet, sRet, sIf, sPar, sExpr, sAsg, sAugI, sAugN, sNext, sFor, forGo, tOf, tNo, tAn, tOr', tYs, eIf, eOp2, eOp1, eOpN, eV, eC, eAnd, eOr, eNot, bE, eCh, eComp, okw, imUn, wipeG, back, aCons, aNil, aConsE, aNilE, eTup, eLst, eCall, eCall0, eCallK, eCallIo, eRep, ownOf, eSl, pNo, pSo, frE, frIo, eIsi, Res.bind, Res.bindS, Res.noex, rd, rdAll, put, esc, DL.settle, stor, noIo, okB, okA, outOf, outB, small, lstOf, put', tgT, tgAll, tgI, tgN, Tg.put, Tg.putAll, noIoAll, noIoB, setAll, itR, itE, itf, f_add, f_sub, f_subb, f_mul, f_div, f_mod, f_pow, f_lt, f_le, f_gt, f_ge, f_max, f_abs, f_neg, fEq_int, fNe_int, fIs, fIsNot, q, q1, h]
theorem td_times (h : ti [.im x, .im y] = .ex e none) : tdb pl mi ti sl wo [.im (.str "times"), .im x, .im y] = .ex e [.im (.str "times"), .im x, .im y] := by
  have q := q_t
  have q1 := q_tp
  have q2 := q_tm
  simp [fnD, sSeq, SR.then, sSet, sRet, sIf, sPar, sExpr, sAsg, sAugI, sAugN, sNext, sFor, forGo, tOf, tNo, tAn, tOr', tYs, eIf, eOp2, eOp1, eOpN, eV, eC, eAnd, eOr, eNot, bE, eCh, eComp, okw, imUn, wipeG, back, aCons, aNil, aConsE, aNilE, eTup, eLst, eCall, eCall0, eCallK, eCallIo, eRep, ownOf, eSl, pNo, pSo, frE, frIo, eIsi, Res.bind, Res.bindS, Res.noex, rd, rdAll, put, esc, DL.settle, stor, noIo, okB, okA, outOf, outB, small, lstOf, put', tgT, tgAll, tgI, tgN, Tg.put, Tg.putAll, noIoAll, noIoB, setAll, itR, itE, itf, f_add, f_sub, f_subb, f_mul, f_div, f_mod, f_pow, f_lt, f_le, f_gt, f_ge, f_max, f_abs, f_neg, fEq_int, fNe_int, fIs, fIsNot, q, q1, q2, h]
theorem td_slope (h : sl [.im x] = .ex e none) : tdb pl mi ti sl wo [.im (.str "slope"), .im x, .im y] = .ex e [.im (.str "slope"), .im x, .im y] := by
  have q := q_s
  have q1 := q_sp
  have q2 := q_sm
  have q3 := q_st
  simp [fnD, sSeq, SR.then, sSet, sRet, sIf, sPar, sExpr, sAsg, sAugI, sAugN, sNext, sFor, forGo, tOf, tNo, tAn, tOr', tYs, eIf, eOp2, eOp1, eOpN, eV, eC, eAnd, eOr, eNot, bE, eCh, eComp, okw, imUn, wipeG, back, aCons, aNil, aConsE, aNilE, eTup, eLst, eCall, eCall0, eCallK, eCallIo, eRep, ownOf, eSl, pNo, pSo, frE, frIo, eIsi, Res.bind, Res.bindS, Res.noex, rd, rdAll, put, esc, DL.settle, stor, noIo, okB, okA, outOf, outB, small, lstOf, put', tgT, tgAll, tgI, tgN, Tg.put, Tg.putAll, noIoAll, noIoB, setAll, itR, itE, itf, f_add, f_sub, f_subb, f_mul, f_div, f_mod, f_pow, f_lt, f_le, f_gt, f_ge, f_max, f_abs, f_neg, fEq_int, fNe_int, fIs, fIsNot, q, q1, q2, q3, h]
theorem td_worth (h : wo [.im x, .im y] = .ex e none) : tdb pl mi ti sl wo [.im (.str "worth"), .im x, .im y] = .ex e [.im (.str "worth"), .im x, .im y] := by
  have q0 := q_ws
  have q1 := q_wp
  have q2 := q_wm
  have q3 := q_wt
  simp [fnD, sSeq, SR.then, sSet, sRet, sIf, sPar, sExpr, sAsg, sAugI, sAugN, sNext, sFor, forGo, tOf, tNo, tAn, tOr', tYs, eIf, eOp2, eOp1, eOpN, eV, eC, eAnd, eOr, eNot, bE, eCh, eComp, okw, imUn, wipeG, back, aCons, aNil, aConsE, aNilE, eTup, eLst, eCall, eCall0, eCallK, eCallIo, eRep, ownOf, eSl, pNo, pSo, frE, frIo, eIsi, Res.bind, Res.bindS, Res.noex, rd, rdAll, put, esc, DL.settle, stor, noIo, okB, okA, outOf, outB, small, lstOf, put', tgT, tgAll, tgI, tgN, Tg.put, Tg.putAll, noIoAll, noIoB, setAll, itR, itE, itf, f_add, f_sub, f_subb, f_mul, f_div, f_mod, f_pow, f_lt, f_le, f_gt, f_ge, f_max, f_abs, f_neg, fEq_int, fNe_int, fIs, fIsNot, q0, q1, q2, q3, h]
theorem td_w {a : D} (h : b__law_told [.im a, .im x, .im y] = .ex e [.im a, .im x, .im y]) : d__law_told [.im a, .im x, .im y] = .ex e none := by
  unfold d__law_told
  simp [fnD, okA, h, outOf, okB]
end
noncomputable abbrev cls : List Cl := [⟨"InvalidPolynomial", 3, tVal "InvalidPolynomial"⟩, ⟨"InvalidRatio", 3, tVal "InvalidRatio"⟩, ⟨"TooMany", 3, tTwo⟩]
theorem rz_b {den : List B → FR} {a x y : D} {e : Exn} {v : List D} (h : den [.im a, .im x, .im y] = .ex e none) (hp : pick cSub e cls = some (some (.mu v))) (hc : e.1 ∈ cNames) : (sSeq (sTry cNames cSub (sExpr (eCall den (aConsE (eV 0) (aConsE (eV 1) (aConsE (eV 2) aNilE))))) cls) (sRet (eLst aNilE))) [.im a, .im x, .im y, .un] = .rt (.mu v) [.im a, .im x, .im y, .un] := by
  generalize hcl : cls = cl at *
  have ha : (cl.all fun h => decide (h.i < 4)) = true := by rw [← hcl]; rfl
  have hb : ∀ x ∈ cl, x.i < 4 := by simpa using ha
  simp [fnD, sSeq, SR.then, sSet, sRet, sIf, sPar, sExpr, sAsg, sAugI, sAugN, sNext, sFor, forGo, tOf, tNo, tAn, tOr', tYs, eIf, eOp2, eOp1, eOpN, eV, eC, eAnd, eOr, eNot, bE, eCh, eComp, okw, imUn, wipeG, back, aCons, aNil, aConsE, aNilE, eTup, eLst, eCall, eCall0, eCallK, eCallIo, eRep, ownOf, eSl, pNo, pSo, frE, frIo, eIsi, Res.bind, Res.bindS, Res.noex, rd, rdAll, put, esc, DL.settle, stor, noIo, okB, okA, outOf, outB, small, lstOf, put', tgT, tgAll, tgI, tgN, Tg.put, Tg.putAll, noIoAll, noIoB, setAll, itR, itE, itf, f_add, f_sub, f_subb, f_mul, f_div, f_mod, f_pow, f_lt, f_le, f_gt, f_ge, f_max, f_abs, f_neg, fEq_int, fNe_int, fIs, fIsNot, sTry, h, hp, hc]
  rw [if_pos hb]
theorem rz_w {a x y : D} {v : List D} (h : b__law_raised [.im a, .im x, .im y, .un] = .rt (.mu v) [.im a, .im x, .im y, .un]) : d__law_raised [.im a, .im x, .im y] = .ok (.mu v) none := by
  unfold d__law_raised
  simp [fnD, okA, h, outOf, okB]
theorem raised_p {a x y d : D} (hd : ReprOk d) (h : d__law_told [.im a, .im x, .im y] = .ex ("InvalidPolynomial", [("value", d)]) none) : d__law_raised [.im a, .im x, .im y] = .ok (.mu [.str "InvalidPolynomial", .str d.shown, .bool true]) none := by
  refine rz_w (rz_b h ?_ (show PySem.Str.ofString "InvalidPolynomial" ∈ cNames from List.contains_iff_mem.mp (by decide +kernel)))
  have c : cSub "InvalidPolynomial" "InvalidPolynomial" = true := by decide +kernel
  unfold cls pick
  rw [if_pos c]
  unfold tVal
  simp [List.lookup, hd]
theorem raised_r {a x y d : D} (hd : ReprOk d) (h : d__law_told [.im a, .im x, .im y] = .ex ("InvalidRatio", [("value", d)]) none) : d__law_raised [.im a, .im x, .im y] = .ok (.mu [.str "InvalidRatio", .str d.shown, .bool true]) none := by
  refine rz_w (rz_b h ?_ (show PySem.Str.ofString "InvalidRatio" ∈ cNames from List.contains_iff_mem.mp (by decide +kernel)))
  have c : ¬ cSub "InvalidRatio" "InvalidPolynomial" = true := by decide +kernel
  have c2 : cSub "InvalidRatio" "InvalidRatio" = true := by decide +kernel
  unfold cls pick
  rw [if_neg c]
  unfold pick
  rw [if_pos c2]
  unfold tVal
  simp [List.lookup, hd]
theorem raised_m {a x y : D} (h : d__law_told [.im a, .im x, .im y] = .ex ("TooMany", [("limit", .int 12), ("what", .str "degree")]) none) : d__law_raised [.im a, .im x, .im y] = .ok (.mu [.str "degree", .int 12]) none := by
  refine rz_w (rz_b h ?_ (show PySem.Str.ofString "TooMany" ∈ cNames from List.contains_iff_mem.mp (by decide +kernel)))
  have c : ¬ cSub "TooMany" "InvalidPolynomial" = true := by decide +kernel
  have c1 : ¬ cSub "TooMany" "InvalidRatio" = true := by decide +kernel
  have c2 : cSub "TooMany" "TooMany" = true := by decide +kernel
  unfold cls pick
  rw [if_neg c]
  unfold pick
  rw [if_neg c1]
  unfold pick
  rw [if_pos c2]
  rfl
end K11
/-! ## K11rg.lean -/
set_option Elab.async false
set_option linter.all false
set_option maxRecDepth 10000
set_option maxHeartbeats 8000000
set_option exponentiation.threshold 3000
namespace K11
open PySem PySem.Spec L2 DL Po
theorem eqDeg : fEq (.list [.str "degree", .int 12]) (.list [.str "degree", .int 12]) = some (.im (.bool true)) := by
  have hz : PyData.strOk ("degree" : PySem.Str) = true := by decide +kernel
  have e : (PyData.list [.str "degree", .int 12]).canLay0 = true := by simp [PyData.canLay0, PyData.canLayAll0, hz]
  have e1 : shp (.list [.str "degree", .int 12]) = true := by
    show SeqAt.shaped _ = true
    unfold SeqAt.shaped
    rw [e]; rfl
  unfold fEq
  rw [e1, SeqAt.eqv_refl _ e]
  rfl
theorem two_bd {x : Int} (h : x.natAbs ≤ 30) : bd 5 x := by
  have e : (2 : Nat) ^ 5 = 32 := by decide
  unfold Po.bd; omega
theorem pm_bd {p q : List Int} (hp : Pl p) (hq : Pl q) (n : Nat) : Po.bd 60 (pm p (co q) n) := by
  have lp := hp.len
  have st : ∀ k, k ≤ p.length → Po.bd (40 + k + 1) (sumTo k fun j => co p j * sh j (co q) n) := by
    intro k
    induction k with
    | zero => intro _; exact (by decide : (0 : Int).natAbs < 2 ^ (40 + 0 + 1))
    | succ k ih =>
      intro hk
      have b1 := ih (by omega)
      have b2 : Po.bd (20 + 20) (co p k * sh k (co q) n) := bmul (hp.bd k) (by
        unfold sh
        split
        · exact hq.bd _
        · unfold Po.bd; decide)
      exact bmono (badd (m := 40 + k + 1) b1 (bmono b2 (by omega))) (by omega)
  exact bmono (st p.length (Nat.le_refl _)) (by omega)
theorem evl_bd {p : List Int} (hp : Pb p) {a : Int} (ha : bd 5 a) : bd 140 (evl p a) := by
  rw [← hom_one]
  exact hom_bd hp ha (by unfold Po.bd; decide)
theorem rs_pair {a b : Int} (ha : bd 900 a) (hb : bd 900 b) : RS (tp (a, b)) := rs_T (l := [a, b]) (fun x hx => by
  simp only [List.mem_cons, List.not_mem_nil, or_false] at hx
  rcases hx with rfl | rfl
  · exact bmono ha (by decide)
  · exact bmono hb (by decide)) (show 2 ≤ 100 by decide)
theorem plNil : Pl [] := ⟨fun h => absurd rfl h, by decide, fun x hx => by simp at hx⟩
theorem tr_nil {w : List Int} (h : Tr w) (z : ∀ n, co w n = 0) : w = [] := tr_ext h (fun h => absurd rfl h) fun n => by rw [z, co_ge (Nat.zero_le _)]
theorem rs_row {w : List Int} {n : Nat} (h : ∀ k, Po.bd n (co w k)) (hn : n ≤ 1000) (hl : w.length ≤ 100) : RS (T w) := rs_T (mem_bd h hn) hl
theorem len_of {w : List Int} (h : Tr w) {N : Nat} (z : ∀ n, N ≤ n → co w n = 0) : w.length ≤ N := Nat.le_of_not_lt fun c => by
  have hn : w ≠ [] := fun e => by rw [e] at c; simp at c
  exact tr_top h hn (z _ (by omega))
theorem e_two {p q : List Int} (hp : Pl p) (hq : Pl q) {a b : Int} (ha : bd 5 a) (hb : bd 5 b) (hg : Gd (a, b)) : d__law_two_right [.im (T p), .im (T q), .im (.int a), .im (.int b)] = .ok (.im (.bool true)) none := by
  have lp := hp.len
  have lq := hq.len
  have m1 : ∀ i, mulB 1 (co q i) = true := fun i => mulB_ok (by unfold Po.bd; decide) (bmono (hq.bd i) (by decide))
  have m2 : ∀ i, mulB (-1) (co q i) = true := fun i => mulB_ok (by unfold Po.bd; decide) (bmono (hq.bd i) (by decide))
  obtain ⟨v1, t1, c1, h1⟩ := e_plus hp hq
  obtain ⟨u1, t1', c1', h2⟩ := e_sum (p := p) (q := q) (s := 1) (by omega) (by omega) m1
  have eu1 : u1 = v1 := tr_ext t1' t1 fun n => by rw [c1', c1]; omega
  subst eu1
  obtain ⟨v2, t2, c2, h3⟩ := e_minus hp hq
  obtain ⟨u2, t2', c2', h4⟩ := e_sum (p := p) (q := q) (s := -1) (by omega) (by omega) m2
  have eu2 : u2 = v2 := tr_ext t2' t2 fun n => by rw [c2', c2]; omega
  subst eu2
  obtain ⟨v3, t3, c3, h5⟩ := e_minus hp hp
  have e3 := tr_nil t3 fun n => by rw [c3]; omega
  subst e3
  obtain ⟨v4, t4, c4, h6⟩ := e_plus hp plNil
  have e4 : v4 = p := tr_ext t4 hp.tr fun n => by rw [c4, co_ge (l := []) (Nat.zero_le _)]; omega
  subst e4
  obtain ⟨w, t5, c5, l5, h7⟩ := e_product (q := v4) (o := q) (by omega) (by omega) (mul_pl hp hq)
  obtain ⟨w', t6, c6, h8⟩ := e_times hp hq
  have e6 : w' = w := tr_ext t6 t5 fun n => by rw [c6, c5]
  subst e6
  have bw : ∀ n, Po.bd 60 (co w' n) := fun n => by rw [c5]; exact pm_bd hp hq n
  have r1 : RS (T u1) := rs_row (n := 21) (fun k => by rw [c1]; exact badd (hp.bd k) (hq.bd k)) (by decide) (Nat.le_trans (len_of t1 (N := 13) fun n hn => by rw [c1, co_ge (l := v4) (by omega), co_ge (l := q) (by omega)]; rfl) (by decide))
  have r2 : RS (T u2) := rs_row (n := 21) (fun k => by rw [c2]; exact bsub (hp.bd k) (hq.bd k)) (by decide) (Nat.le_trans (len_of t2 (N := 13) fun n hn => by rw [c2, co_ge (l := v4) (by omega), co_ge (l := q) (by omega)]; rfl) (by decide))
  have rn : RS (T []) := rs_row (n := 20) plNil.bd (by decide) (by decide)
  have rp : RS (T v4) := rs_row (n := 20) hp.bd (by decide) (by omega)
  by_cases c : w'.length ≤ 13
  · rw [if_pos c] at h8
    have hw : Pb w' := ⟨c, bw⟩
    have wb : ∀ x : Int, x.natAbs ≤ 30 → bd 5 x := fun x h => two_bd h
    have mb : ∀ x : Int, x.natAbs ≤ 30 → mulB (evl v4 x) (evl q x) = true := fun x h => mulB_ok (bmono (evl_bd hp.pb (wb x h)) (by decide)) (bmono (evl_bd hq.pb (wb x h)) (by decide))
    have pr : ∀ x : Int, x.natAbs ≤ 30 → d__law_worth [.im (T w'), .im (.int x), .im (.int 1)] = .ok (.im (.tuple [.int (evl v4 x * evl q x), .int 1])) none := fun x h => by
      have := e_w1 hw (wb x h)
      rw [evl_mul l5 c5] at this
      exact this
    have u := e_pworth hp ha hb hg
    have u2' := e_lworth hp.pb ha hb hg.1
    have hbp : b ^ (v4.length - 1) ≠ 0 := Int.pow_ne_zero (by have : 0 < b := hg.1; omega)
    have ru : RS (tp (L (hom v4 a b) (b ^ (v4.length - 1)))) := rs_pair (bL1 hbp (bmono (hom_bd hp.pb ha hb) (by decide))) (bL2 hbp (bmono (bpow hb _) (by omega)))
    obtain ⟨g, hh⟩ := tw_ok (is := d__law_is) (pl := d_poly_plus) (mi := d_poly_minus) (su := d__law_sum) (pr := d__law_product) (rz := d__law_raised) (ti := d_poly_times) (wo := d__law_worth) (pw := d_poly_worth) h1 h2 (e_is r1) h3 h4 (e_is r2) h5 (e_is rn) h6 (e_is rp) h7 (len_T w') (by omega) h8 (e_is (rs_row bw (by decide) (by omega)))
      (e_w1 hp.pb (wb 0 (by decide))) (e_w1 hp.pb (wb 1 (by decide))) (e_w1 hp.pb (wb (-1) (by decide))) (e_w1 hp.pb (wb 2 (by decide))) (e_w1 hq.pb (wb 0 (by decide))) (e_w1 hq.pb (wb 1 (by decide))) (e_w1 hq.pb (wb (-1) (by decide))) (e_w1 hq.pb (wb 2 (by decide)))
      (pr 0 (by decide)) (pr 1 (by decide)) (pr (-1) (by decide)) (pr 2 (by decide)) (mb 0 (by decide)) (mb 1 (by decide)) (mb (-1) (by decide)) (mb 2 (by decide)) u u2' (e_is ru)
    exact tw_w hh
  · rw [if_neg c] at h8
    obtain ⟨g, hh⟩ := tw_long (is := d__law_is) (pl := d_poly_plus) (mi := d_poly_minus) (su := d__law_sum) (pr := d__law_product) (rz := d__law_raised) (ti := d_poly_times) (wo := d__law_worth) (pw := d_poly_worth) (a := a) (b := b) (d1 := .none) (d2 := .none) h1 h2 (e_is r1) h3 h4 (e_is r2) h5 (e_is rn) h6 (e_is rp) h7 (len_T w') (by omega)
      (raised_m (td_w (td_times (pl := d_poly_plus) (mi := d_poly_minus) (ti := d_poly_times) (sl := d_poly_slope) (wo := d_poly_worth) h8))) eqDeg
    exact tw_w hh
end K11
/-! ## K11rh.lean -/
set_option Elab.async false
set_option linter.all false
set_option maxRecDepth 10000
set_option maxHeartbeats 8000000
set_option exponentiation.threshold 3000
namespace K11
open PySem PySem.Spec L2 DL Po
/-! ### one polynomial judged -/
theorem polyL (l : List Int) : d_is_polynomial [.im (Ls l)] = .ok (.im (.bool false)) none := by
  refine poly_w (?_ : b_is_polynomial [.im (Ls l), .un] = .rt (.im (.bool false)) [.im (Ls l), .un]) rfl
  have t : isB "tuple" (Ls l) = some false := rfl
  unfold b_is_polynomial
  generalize Ls l = d at *
  generalize d_is_integer = den at *
  simp [fnD, sSeq, SR.then, sSet, sRet, sIf, sPar, sExpr, sAsg, sAugI, sAugN, sNext, sFor, forGo, tOf, tNo, tAn, tOr', tYs, eIf, eOp2, eOp1, eOpN, eV, eC, eAnd, eOr, eNot, bE, eCh, eComp, okw, imUn, wipeG, back, aCons, aNil, aConsE, aNilE, eTup, eLst, eCall, eCall0, eCallK, eCallIo, eRep, ownOf, eSl, pNo, pSo, frE, frIo, eIsi, Res.bind, Res.bindS, Res.noex, rd, rdAll, put, esc, DL.settle, stor, noIo, okB, okA, outOf, outB, small, lstOf, put', tgT, tgAll, tgI, tgN, Tg.put, Tg.putAll, noIoAll, noIoB, setAll, itR, itE, itf, f_add, f_sub, f_subb, f_mul, f_div, f_mod, f_pow, f_lt, f_le, f_gt, f_ge, f_max, f_abs, f_neg, fEq_int, fNe_int, fIs, fIsNot, t]
abbrev onb (ip ct is sl pw la : List B → FR) (el : Gm → Res W) : Gm → SR := (sSeq (sIf (tOr' (tOf (eOp2 fIsNot (eCall ip (aConsE (eV 0) aNilE)) (eC (.bool true)))) (tOf (eOp2 fIsNot (eCallK ip 0 1 (permL [0]) aNilE (aConsE (eOpN fList (aCons (eV 0) aNil)) aNilE)) (eC (.bool false))))) (sRet (eC (.bool false))) sNext)
  (sSeq (sSet 1 (eCall ct (aConsE (eSl (eComp [2, 3] (itf fEnum (aConsE (eV 0) aNilE)) (.tp [(.nm 2), (.nm 3)]) tYs el) (pSo (eC (.int 1))) pNo) aNilE)))
  (sSeq (sIf (tOr' (tNo (tOf (eCall is (aConsE (eCall sl (aConsE (eV 0) aNilE)) (aConsE (eV 1) aNilE))))) (tNo (tOf (eCall is (aConsE (eCallK sl 0 1 (permL [0]) aNilE (aConsE (eV 0) aNilE)) (aConsE (eV 1) aNilE)))))) (sRet (eC (.bool false))) sNext)
  (sRet (eCall is (aConsE (eCallK pw 0 2 (permL [0, 1]) aNilE (aConsE (eV 0) (aConsE (eTup (aConsE (eC (.int 0)) (aConsE (eC (.int 1)) aNilE))) aNilE))) (aConsE (eTup (aConsE (eCall la (aConsE (eV 0) (aConsE (eC (.int 0)) aNilE))) (aConsE (eC (.int 1)) aNilE))) aNilE)))))))
theorem on_ok {ip ct is sl pw la : List B → FR} {el : Gm → Res W} {p s c0 : D} {ds xs zs ps : List D} (h1 : ip [.im p] = .ok (.im (.bool true)) none) (hl : fList [p] = some (.mu ps)) (h2 : ip [.im (.list ps)] = .ok (.im (.bool false)) none) (hz : fEnum [p] = some ds) (cp : compGo [2, 3] (.tp [(.nm 2), (.nm 3)]) tYs el ds [] [.im p, .un, .un, .un] = .ok xs [.im p, .un, .un, .un])
    (hc : cutB (some 1) none (.list xs) = some (.mu zs)) (h3 : ct [.im (.list zs)] = .ok (.im s) none) (h4 : sl [.im p] = .ok (.im s) none) (i1 : is [.im s, .im s] = .ok (.im (.bool true)) none) (h5 : pw [.im p, .im (.tuple [.int 0, .int 1])] = .ok (.im (.tuple [c0, .int 1])) none) (h6 : la [.im p, .im (.int 0)] = .ok (.im c0) none) (i2 : is [.im (.tuple [c0, .int 1]), .im (.tuple [c0, .int 1])] = .ok (.im (.bool true)) none) :
    onb ip ct is sl pw la el [.im p, .un, .un, .un] = .rt (.im (.bool true)) [.im p, .im s, .un, .un] := by
  simp [fnD, sSeq, SR.then, sSet, sRet, sIf, sPar, sExpr, sAsg, sAugI, sAugN, sNext, sFor, forGo, tOf, tNo, tAn, tOr', tYs, eIf, eOp2, eOp1, eOpN, eV, eC, eAnd, eOr, eNot, bE, eCh, eComp, okw, imUn, wipeG, back, aCons, aNil, aConsE, aNilE, eTup, eLst, eCall, eCall0, eCallK, eCallIo, eRep, ownOf, eSl, pNo, pSo, frE, frIo, eIsi, Res.bind, Res.bindS, Res.noex, rd, rdAll, put, esc, DL.settle, stor, noIo, okB, okA, outOf, outB, small, lstOf, put', tgT, tgAll, tgI, tgN, Tg.put, Tg.putAll, noIoAll, noIoB, setAll, itR, itE, itf, f_add, f_sub, f_subb, f_mul, f_div, f_mod, f_pow, f_lt, f_le, f_gt, f_ge, f_max, f_abs, f_neg, fEq_int, fNe_int, fIs, fIsNot, h1, hl, h2, hz, cp, hc, h3, h4, i1, h5, h6, i2, permL]
theorem on_w {p : D} {g : Gm} (h : b__law_one_right [.im p, .un, .un, .un] = .rt (.im (.bool true)) (.im p :: g)) : d__law_one_right [.im p] = .ok (.im (.bool true)) none := by
  unfold d__law_one_right
  simp [fnD, okA, h, outOf, okB]
theorem on_el {a b : B} {i j : Int} (m : mulB i j = true) : eOp2 fMulA (eV 2) (eV 3) [a, b, .im (.int i), .im (.int j)] = .ok (.v (.im (.int (i * j)))) [a, b, .im (.int i), .im (.int j)] := by
  simp [fnD, sSeq, SR.then, sSet, sRet, sIf, sPar, sExpr, sAsg, sAugI, sAugN, sNext, sFor, forGo, tOf, tNo, tAn, tOr', tYs, eIf, eOp2, eOp1, eOpN, eV, eC, eAnd, eOr, eNot, bE, eCh, eComp, okw, imUn, wipeG, back, aCons, aNil, aConsE, aNilE, eTup, eLst, eCall, eCall0, eCallK, eCallIo, eRep, ownOf, eSl, pNo, pSo, frE, frIo, eIsi, Res.bind, Res.bindS, Res.noex, rd, rdAll, put, esc, DL.settle, stor, noIo, okB, okA, outOf, outB, small, lstOf, put', tgT, tgAll, tgI, tgN, Tg.put, Tg.putAll, noIoAll, noIoB, setAll, itR, itE, itf, f_add, f_sub, f_subb, f_mul, f_div, f_mod, f_pow, f_lt, f_le, f_gt, f_ge, f_max, f_abs, f_neg, fEq_int, fNe_int, fIs, fIsNot, m]
theorem on_cp {p : List Int} (hp : Pl p) : compGo [2, 3] (.tp [(.nm 2), (.nm 3)]) tYs (eOp2 fMulA (eV 2) (eV 3)) (enumD 0 (p.map .int)) [] [.im (T p), .un, .un, .un] = .ok (((List.range p.length).map fun i : Nat => (i : Int) * co p i).map .int) [.im (T p), .un, .un, .un] := by
  have lp := hp.len
  rw [enum_map]
  have cp := comp_map (vs := [2, 3]) (t := .tp [.nm 2, .nm 3]) (c := tYs) (e := eOp2 fMulA (eV 2) (eV 3)) (g := [.im (T p), .un, .un, .un]) (en := fun i : Nat => PyData.tuple [.int ((0 + i : Nat) : Int), .int (co p i)]) (P := fun _ => true) (F := fun i : Nat => PyData.int ((i : Int) * co p i)) (List.range p.length) [] (fun i hi => by
    have hi' := List.mem_range.mp hi
    refine ⟨[.im (T p), .un, .im (.int ((0 + i : Nat) : Int)), .im (.int (co p i))], rfl, rfl, fun _ => ⟨.v (.im (.int ((i : Int) * co p i))), ?_, rfl⟩, rfl, rfl⟩
    have e : ((0 + i : Nat) : Int) = (i : Int) := by omega
    rw [e]
    refine on_el (mulB_ok (bmono (m := 20) ?_ (by decide)) (bmono (hp.bd i) (by decide)))
    have e : (2 : Nat) ^ 20 = 1048576 := by decide
    unfold Po.bd; omega) (by simp; omega)
  have ef : (List.range p.length).filter (fun _ => true) = List.range p.length := List.filter_eq_self.mpr fun _ _ => rfl
  rw [ef, List.nil_append] at cp
  rw [cp, List.map_map]
  rfl
theorem evl_zero (p : List Int) : evl p 0 = co p 0 := by
  unfold evl
  cases p with
  | nil => rfl
  | cons a l =>
    rw [List.length_cons, sum_head, sum_zero fun i _ => by rw [Int.pow_succ]; simp]
    rw [Int.pow_zero]; omega
theorem e_one {p : List Int} (hp : Pl p) : d__law_one_right [.im (T p)] = .ok (.im (.bool true)) none := by
  have lp := hp.len
  have ls := slo_len p
  have bs : ∀ k, Po.bd 40 (co (slo p) k) := fun k => by
    rw [co_slo]
    by_cases c : k + 1 < p.length
    · refine bmul (m := 20) (n := 20) ?_ (hp.bd _)
      have e : (2 : Nat) ^ 20 = 1048576 := by decide
      unfold Po.bd; omega
    · rw [co_ge (l := p) (by omega), Int.mul_zero]; unfold Po.bd; decide
  have h5 := e_pworth hp (a := 0) (b := 1) (by unfold Po.bd; decide) (by unfold Po.bd; decide) ⟨by decide, by decide, by unfold Po.bd; decide, by unfold Po.bd; decide⟩
  rw [Int.one_pow, L_one, hom_one, evl_zero] at h5
  have h6 := e_at p 0
  exact on_w (on_ok (ip := d_is_polynomial) (ct := d__law_cut) (is := d__law_is) (sl := d_poly_slope) (pw := d_poly_worth) (la := d__law_at) (e_poly hp.tr hp.len hp.sm) rfl (polyL p) (fEnum_T p) (on_cp hp) (cutL_from _ 1)
    ((e_cut (l := slo p) (.inr rfl) (by omega)).trans (by rw [cut_self (slo_tr hp.tr)])) (e_slope hp) (e_is (rs_row bs (by decide) (by omega))) h5 h6 (e_is (rs_pair (bmono (hp.bd 0) (by decide)) (by unfold Po.bd; decide))))
end K11
/-! ## K11ri.lean -/
set_option Elab.async false
set_option linter.all false
set_option maxRecDepth 10000
set_option maxHeartbeats 8000000
set_option exponentiation.threshold 3000
namespace K11
open PySem PySem.Spec L2 DL Po
/-! ### refusals -/
noncomputable abbrev rfb (od dw ip rz : List B → FR) : Gm → SR := (sSeq (sSet 2 (eCall0 od)) (sSeq (sPar [3, 4] (aCons (eOp2 fIx (eV 2) (eCallIo dw 0 (aConsE (eOpN fLen (aCons (eV 2) aNil)) aNilE))) (aCons (eOp2 fIx (eV 2) (eCallIo dw 0 (aConsE (eOpN fLen (aCons (eV 2) aNil)) aNilE))) aNil))) (sSeq (sIf (tOf (eOp2 fIsNot (eCall ip (aConsE (eV 3) aNilE)) (eC (.bool false)))) (sRet (eC (.bool false))) sNext) (sSeq (sSet 5 (eLst (aConsE (eC (.str "InvalidPolynomial")) (aConsE (eOpN fRepr (aCons (eV 3) aNil)) (aConsE (eC (.bool true)) aNilE))))) (sSeq (sFor (itE (eLst (aConsE (eC (.str "plus")) (aConsE (eC (.str "minus")) (aConsE (eC (.str "times")) aNilE))))) (tgN (.nm 6)) (sIf (tOr' (tOf (eOp2 fNe (eCall rz (aConsE (eV 6) (aConsE (eV 3) (aConsE (eV 4) aNilE)))) (eV 5))) (tOf (eOp2 fNe (eCall rz (aConsE (eV 6) (aConsE (eV 1) (aConsE (eV 3) aNilE)))) (eV 5)))) (sRet (eC (.bool false))) sNext)) (sSeq (sIf (tOr' (tOf (eOp2 fNe (eCall rz (aConsE (eC (.str "slope")) (aConsE (eV 3) (aConsE (eC .none) aNilE)))) (eV 5))) (tOf (eOp2 fNe (eCall rz (aConsE (eC (.str "worth")) (aConsE (eV 3) (aConsE (eC .none) aNilE)))) (eV 5)))) (sRet (eC (.bool false))) sNext) (sSeq (sSet 7 (eOp2 fIx (eLst (aConsE (eTup (aConsE (eC (.int 2)) (aConsE (eC (.int 4)) aNilE))) (aConsE (eLst (aConsE (eC (.int 1)) (aConsE (eC (.int 2)) aNilE))) (aConsE (eTup (aConsE (eC (.int 1)) (aConsE (eC (.int 0)) aNilE))) (aConsE (eC (.int 1)) (aConsE (eC .none) (aConsE (eTup (aConsE (eC (.bool true)) (aConsE (eC (.int 1)) aNilE))) aNilE))))))) (eCallIo dw 0 (aConsE (eC (.int 6)) aNilE)))) (sRet (eOp2 fEq (eCall rz (aConsE (eC (.str "worth")) (aConsE (eV 1) (aConsE (eV 7) aNilE)))) (eLst (aConsE (eC (.str "InvalidRatio")) (aConsE (eOpN fRepr (aCons (eV 7) aNil)) (aConsE (eC (.bool true)) aNilE)))))))))))))
section
variable {od dw ip rz : List B → FR} {p o q st : D} {os l0 l1 l2 l3 : List D} {r1 r2 r3 : Int} {z y : PySem.Str}
theorem rf_ok (h0 : od [] = .ok (.mu os) none) (ln : fLen [.list os] = some (.im (.int 18))) (h1 : dw [.io l0, .im (.int 18)] = .ok (.im (.int r1)) (some l1)) (h2 : dw [.io l1, .im (.int 18)] = .ok (.im (.int r2)) (some l2)) (i1 : fIx (.list os) (.int r1) = some (.im o)) (i2 : fIx (.list os) (.int r2) = some (.im q)) (h3 : ip [.im o] = .ok (.im (.bool false)) none) (rp : fRepr [o] = some (.im (.str z)))
    (a1 : rz [.im (.str "plus"), .im o, .im q] = .ok (.mu [.str "InvalidPolynomial", .str z, .bool true]) none) (a2 : rz [.im (.str "plus"), .im p, .im o] = .ok (.mu [.str "InvalidPolynomial", .str z, .bool true]) none) (a3 : rz [.im (.str "minus"), .im o, .im q] = .ok (.mu [.str "InvalidPolynomial", .str z, .bool true]) none) (a4 : rz [.im (.str "minus"), .im p, .im o] = .ok (.mu [.str "InvalidPolynomial", .str z, .bool true]) none)
    (a5 : rz [.im (.str "times"), .im o, .im q] = .ok (.mu [.str "InvalidPolynomial", .str z, .bool true]) none) (a6 : rz [.im (.str "times"), .im p, .im o] = .ok (.mu [.str "InvalidPolynomial", .str z, .bool true]) none) (a7 : rz [.im (.str "slope"), .im o, .im .none] = .ok (.mu [.str "InvalidPolynomial", .str z, .bool true]) none) (a8 : rz [.im (.str "worth"), .im o, .im .none] = .ok (.mu [.str "InvalidPolynomial", .str z, .bool true]) none)
    (n1 : fNe (.list [.str "InvalidPolynomial", .str z, .bool true]) (.list [.str "InvalidPolynomial", .str z, .bool true]) = some (.im (.bool false))) (h4 : dw [.io l2, .im (.int 6)] = .ok (.im (.int r3)) (some l3)) (i3 : fIx (.list [.tuple [.int 2, .int 4], .list [.int 1, .int 2], .tuple [.int 1, .int 0], .int 1, .none, .tuple [.bool true, .int 1]]) (.int r3) = some (.im st))
    (a9 : rz [.im (.str "worth"), .im p, .im st] = .ok (.mu [.str "InvalidRatio", .str y, .bool true]) none) (rq : fRepr [st] = some (.im (.str y))) (n2 : fEq (.list [.str "InvalidRatio", .str y, .bool true]) (.list [.str "InvalidRatio", .str y, .bool true]) = some (.im (.bool true))) :
    ∃ g, rfb od dw ip rz [.io l0, .im p, .un, .un, .un, .un, .un, .un] = .rt (.im (.bool true)) (.io l3 :: .im p :: g) := by
  refine ⟨[.mu os, .im o, .im q, .mu [.str "InvalidPolynomial", .str z, .bool true], .im (.str "times"), .im st], ?_⟩
  simp [fnD, sSeq, SR.then, sSet, sRet, sIf, sPar, sExpr, sAsg, sAugI, sAugN, sNext, sFor, forGo, tOf, tNo, tAn, tOr', tYs, eIf, eOp2, eOp1, eOpN, eV, eC, eAnd, eOr, eNot, bE, eCh, eComp, okw, imUn, wipeG, back, aCons, aNil, aConsE, aNilE, eTup, eLst, eCall, eCall0, eCallK, eCallIo, eRep, ownOf, eSl, pNo, pSo, frE, frIo, eIsi, Res.bind, Res.bindS, Res.noex, rd, rdAll, put, esc, DL.settle, stor, noIo, okB, okA, outOf, outB, small, lstOf, put', tgT, tgAll, tgI, tgN, Tg.put, Tg.putAll, noIoAll, noIoB, setAll, itR, itE, itf, f_add, f_sub, f_subb, f_mul, f_div, f_mod, f_pow, f_lt, f_le, f_gt, f_ge, f_max, f_abs, f_neg, fEq_int, fNe_int, fIs, fIsNot, h0, ln, h1, h2, i1, i2, h3, rp, a1, a2, a3, a4, a5, a6, a7, a8, n1, h4, i3, a9, rq, n2]
theorem rf_w {l l' : List D} {g : Gm} (h : b__law_refusals_right [.io l, .im p, .un, .un, .un, .un, .un, .un] = .rt (.im (.bool true)) (.io l' :: .im p :: g)) : d__law_refusals_right [.io l, .im p] = .ok (.im (.bool true)) (some l') := by
  unfold d__law_refusals_right
  simp [fnD, okA, h, outOf, okB]
end
/-! what raises -/
section
variable {dw de ds : List B → FR} {p q : D} {e : Exn}
theorem pp_x1 (h1 : dw [.im p] = .ex e none) : (sRet (eCall de (aConsE (eCall dw (aConsE (eV 0) aNilE)) (aConsE (eCall dw (aConsE (eV 1) aNilE)) aNilE)))) [.im p, .im q] = .ex e [.im p, .im q] := by
  simp [fnD, sSeq, SR.then, sSet, sRet, sIf, sPar, sExpr, sAsg, sAugI, sAugN, sNext, sFor, forGo, tOf, tNo, tAn, tOr', tYs, eIf, eOp2, eOp1, eOpN, eV, eC, eAnd, eOr, eNot, bE, eCh, eComp, okw, imUn, wipeG, back, aCons, aNil, aConsE, aNilE, eTup, eLst, eCall, eCall0, eCallK, eCallIo, eRep, ownOf, eSl, pNo, pSo, frE, frIo, eIsi, Res.bind, Res.bindS, Res.noex, rd, rdAll, put, esc, DL.settle, stor, noIo, okB, okA, outOf, outB, small, lstOf, put', tgT, tgAll, tgI, tgN, Tg.put, Tg.putAll, noIoAll, noIoB, setAll, itR, itE, itf, f_add, f_sub, f_subb, f_mul, f_div, f_mod, f_pow, f_lt, f_le, f_gt, f_ge, f_max, f_abs, f_neg, fEq_int, fNe_int, fIs, fIsNot, h1]
theorem pp_x2 (h1 : dw [.im p] = .ok (.im p) none) (h2 : dw [.im q] = .ex e none) : (sRet (eCall de (aConsE (eCall dw (aConsE (eV 0) aNilE)) (aConsE (eCall dw (aConsE (eV 1) aNilE)) aNilE)))) [.im p, .im q] = .ex e [.im p, .im q] := by
  simp [fnD, sSeq, SR.then, sSet, sRet, sIf, sPar, sExpr, sAsg, sAugI, sAugN, sNext, sFor, forGo, tOf, tNo, tAn, tOr', tYs, eIf, eOp2, eOp1, eOpN, eV, eC, eAnd, eOr, eNot, bE, eCh, eComp, okw, imUn, wipeG, back, aCons, aNil, aConsE, aNilE, eTup, eLst, eCall, eCall0, eCallK, eCallIo, eRep, ownOf, eSl, pNo, pSo, frE, frIo, eIsi, Res.bind, Res.bindS, Res.noex, rd, rdAll, put, esc, DL.settle, stor, noIo, okB, okA, outOf, outB, small, lstOf, put', tgT, tgAll, tgI, tgN, Tg.put, Tg.putAll, noIoAll, noIoB, setAll, itR, itE, itf, f_add, f_sub, f_subb, f_mul, f_div, f_mod, f_pow, f_lt, f_le, f_gt, f_ge, f_max, f_abs, f_neg, fEq_int, fNe_int, fIs, fIsNot, h1, h2]
theorem tm_y1 {da : List B → FR} (h1 : dw [.im p] = .ex e none) : tmb dw de da [.im p, .im q, .un] = .ex e [.im p, .im q, .un] := by
  simp [fnD, sSeq, SR.then, sSet, sRet, sIf, sPar, sExpr, sAsg, sAugI, sAugN, sNext, sFor, forGo, tOf, tNo, tAn, tOr', tYs, eIf, eOp2, eOp1, eOpN, eV, eC, eAnd, eOr, eNot, bE, eCh, eComp, okw, imUn, wipeG, back, aCons, aNil, aConsE, aNilE, eTup, eLst, eCall, eCall0, eCallK, eCallIo, eRep, ownOf, eSl, pNo, pSo, frE, frIo, eIsi, Res.bind, Res.bindS, Res.noex, rd, rdAll, put, esc, DL.settle, stor, noIo, okB, okA, outOf, outB, small, lstOf, put', tgT, tgAll, tgI, tgN, Tg.put, Tg.putAll, noIoAll, noIoB, setAll, itR, itE, itf, f_add, f_sub, f_subb, f_mul, f_div, f_mod, f_pow, f_lt, f_le, f_gt, f_ge, f_max, f_abs, f_neg, fEq_int, fNe_int, fIs, fIsNot, h1]
theorem tm_y2 {da : List B → FR} (h1 : dw [.im p] = .ok (.im p) none) (h2 : dw [.im q] = .ex e none) : tmb dw de da [.im p, .im q, .un] = .ex e [.im p, .im q, .un] := by
  simp [fnD, sSeq, SR.then, sSet, sRet, sIf, sPar, sExpr, sAsg, sAugI, sAugN, sNext, sFor, forGo, tOf, tNo, tAn, tOr', tYs, eIf, eOp2, eOp1, eOpN, eV, eC, eAnd, eOr, eNot, bE, eCh, eComp, okw, imUn, wipeG, back, aCons, aNil, aConsE, aNilE, eTup, eLst, eCall, eCall0, eCallK, eCallIo, eRep, ownOf, eSl, pNo, pSo, frE, frIo, eIsi, Res.bind, Res.bindS, Res.noex, rd, rdAll, put, esc, DL.settle, stor, noIo, okB, okA, outOf, outB, small, lstOf, put', tgT, tgAll, tgI, tgN, Tg.put, Tg.putAll, noIoAll, noIoB, setAll, itR, itE, itf, f_add, f_sub, f_subb, f_mul, f_div, f_mod, f_pow, f_lt, f_le, f_gt, f_ge, f_max, f_abs, f_neg, fEq_int, fNe_int, fIs, fIsNot, h1, h2]
theorem ps_x (h1 : dw [.im p] = .ex e none) : (sRet (eCall ds (aConsE (eCall dw (aConsE (eV 0) aNilE)) aNilE))) [.im p] = .ex e [.im p] := by
  simp [fnD, sSeq, SR.then, sSet, sRet, sIf, sPar, sExpr, sAsg, sAugI, sAugN, sNext, sFor, forGo, tOf, tNo, tAn, tOr', tYs, eIf, eOp2, eOp1, eOpN, eV, eC, eAnd, eOr, eNot, bE, eCh, eComp, okw, imUn, wipeG, back, aCons, aNil, aConsE, aNilE, eTup, eLst, eCall, eCall0, eCallK, eCallIo, eRep, ownOf, eSl, pNo, pSo, frE, frIo, eIsi, Res.bind, Res.bindS, Res.noex, rd, rdAll, put, esc, DL.settle, stor, noIo, okB, okA, outOf, outB, small, lstOf, put', tgT, tgAll, tgI, tgN, Tg.put, Tg.putAll, noIoAll, noIoB, setAll, itR, itE, itf, f_add, f_sub, f_subb, f_mul, f_div, f_mod, f_pow, f_lt, f_le, f_gt, f_ge, f_max, f_abs, f_neg, fEq_int, fNe_int, fIs, fIsNot, h1]
theorem plus_wx (h : b_poly_plus [.im p, .im q] = .ex e [.im p, .im q]) : d_poly_plus [.im p, .im q] = .ex e none := by
  unfold d_poly_plus
  simp [fnD, okA, h, outOf, okB]
theorem minus_wx (h : b_poly_minus [.im p, .im q] = .ex e [.im p, .im q]) : d_poly_minus [.im p, .im q] = .ex e none := by
  unfold d_poly_minus
  simp [fnD, okA, h, outOf, okB]
theorem ps_wx (h : b_poly_slope [.im p] = .ex e [.im p]) : d_poly_slope [.im p] = .ex e none := by
  unfold d_poly_slope
  simp [fnD, okA, h, outOf, okB]
end
end K11
/-! ## K11rj.lean -/
set_option Elab.async false
set_option linter.all false
set_option maxRecDepth 10000
set_option maxHeartbeats 8000000
set_option exponentiation.threshold 3000
namespace K11
open PySem PySem.Spec L2 DL Po
theorem ix_mem (l : List D) (r : Int) (h0 : 0 ≤ r) (h1 : r < l.length) : ∃ o ∈ l, fIx (.list l) (.int r) = some (.im o) := by
  obtain ⟨n, rfl⟩ : ∃ n : Nat, r = n := ⟨r.toNat, by omega⟩
  have hn : n < l.length := by omega
  refine ⟨l[n], List.getElem_mem hn, ?_⟩
  show (atI _ _).map B.im = _
  rw [atI_nat (j := n) (List.getElem?_eq_getElem hn)]
  rfl
def odds : List D := [.list [.int 1, .int 2], .tuple [.int 1, .int 0], .tuple [.int 0], .tuple [.bool true], .tuple [.int 1, .bool false, .int 1], .tuple [.str "1"], .tuple [.none], .none, .str "", .int 1, .tuple [.tuple [.int 1]], .tuple [.int 1000001], .tuple [.int 0, .int (-1000001)], .tuple (List.replicate 14 (.int 1)), .tuple [.int 1, .str "2", .int 3], .list [], .list [.tuple []], .tuple [.int 2, .tuple [.int 1]]]
theorem odd_b : b__law_odd [] = .rt (.mu odds) [] := by
  have h : fMulA (.tuple [.int 1]) (.int 14) = some (.im (.tuple (List.replicate 14 (.int 1)))) := rfl
  have p6 := p106
  unfold b__law_odd odds
  generalize (List.replicate 14 (PyData.int 1)) = x at *
  simp [fnD, sSeq, SR.then, sSet, sRet, sIf, sPar, sExpr, sAsg, sAugI, sAugN, sNext, sFor, forGo, tOf, tNo, tAn, tOr', tYs, eIf, eOp2, eOp1, eOpN, eV, eC, eAnd, eOr, eNot, bE, eCh, eComp, okw, imUn, wipeG, back, aCons, aNil, aConsE, aNilE, eTup, eLst, eCall, eCall0, eCallK, eCallIo, eRep, ownOf, eSl, pNo, pSo, frE, frIo, eIsi, Res.bind, Res.bindS, Res.noex, rd, rdAll, put, esc, DL.settle, stor, noIo, okB, okA, outOf, outB, small, lstOf, put', tgT, tgAll, tgI, tgN, Tg.put, Tg.putAll, noIoAll, noIoB, setAll, itR, itE, itf, f_add, f_sub, f_subb, f_mul, f_div, f_mod, f_pow, f_lt, f_le, f_gt, f_ge, f_max, f_abs, f_neg, fEq_int, fNe_int, fIs, fIsNot, h, p6]
theorem e_odd : d__law_odd [] = .ok (.mu odds) none := by
  have h := odd_b
  unfold d__law_odd
  simp [fnD, h, outOf, okB]
theorem odd_no : ∀ o ∈ odds, d_is_polynomial [.im o] = .ok (.im (.bool false)) none := by
  intro o h
  simp only [odds, List.mem_cons, List.not_mem_nil, or_false] at h
  rcases h with rfl | rfl | rfl | rfl | rfl | rfl | rfl | rfl | rfl | rfl | rfl | rfl | rfl | rfl | rfl | rfl | rfl | rfl <;> rfl
theorem odd_rs : ∀ o ∈ odds, RS o := by
  intro o h
  simp only [odds, List.mem_cons, List.not_mem_nil, or_false] at h
  rcases h with rfl | rfl | rfl | rfl | rfl | rfl | rfl | rfl | rfl | rfl | rfl | rfl | rfl | rfl | rfl | rfl | rfl | rfl <;> (unfold RS ReprOk; decide +kernel)
def odd2 : List D := [.tuple [.int 2, .int 4], .list [.int 1, .int 2], .tuple [.int 1, .int 0], .int 1, .none, .tuple [.bool true, .int 1]]
theorem odd2_no : ∀ o ∈ odd2, d_is_ratio [.im o] = .ok (.im (.bool false)) none ∧ RS o := by
  intro o h
  simp only [odd2, List.mem_cons, List.not_mem_nil, or_false] at h
  rcases h with rfl | rfl | rfl | rfl | rfl | rfl <;> refine ⟨rfl, ?_⟩ <;> (unfold RS ReprOk; decide +kernel)
theorem wr_b {den : List B → FR} {d : D} (h : den [.im d] = .ok (.im (.bool false)) none) : (sSeq (sIf (tNo (tOf (eCall den (aConsE (eV 0) aNilE)))) (sRaise1 "InvalidRatio" (aConsE (eV 0) aNilE)) sNext) (sRet (eV 0))) [.im d] = .ex ("InvalidRatio", [("value", d)]) [.im d] := by
  simp [fnD, sSeq, SR.then, sSet, sRet, sIf, sPar, sExpr, sAsg, sAugI, sAugN, sNext, sFor, forGo, tOf, tNo, tAn, tOr', tYs, eIf, eOp2, eOp1, eOpN, eV, eC, eAnd, eOr, eNot, bE, eCh, eComp, okw, imUn, wipeG, back, aCons, aNil, aConsE, aNilE, eTup, eLst, eCall, eCall0, eCallK, eCallIo, eRep, ownOf, eSl, pNo, pSo, frE, frIo, eIsi, Res.bind, Res.bindS, Res.noex, rd, rdAll, put, esc, DL.settle, stor, noIo, okB, okA, outOf, outB, small, lstOf, put', tgT, tgAll, tgI, tgN, Tg.put, Tg.putAll, noIoAll, noIoB, setAll, itR, itE, itf, f_add, f_sub, f_subb, f_mul, f_div, f_mod, f_pow, f_lt, f_le, f_gt, f_ge, f_max, f_abs, f_neg, fEq_int, fNe_int, fIs, fIsNot, h, sRaise1]
theorem wr_w {d : D} {e : Exn} (h : b_want_ratio [.im d] = .ex e [.im d]) : d_want_ratio [.im d] = .ex e none := by
  unfold d_want_ratio
  simp [fnD, okA, h, outOf, okB]
theorem fEq_told {n t : PySem.Str} (hn : PyData.strOk n = true) (ht : PyData.strOk t = true) : fEq (.list [.str n, .str t, .bool true]) (.list [.str n, .str t, .bool true]) = some (.im (.bool true)) := by
  have e : (PyData.list [.str n, .str t, .bool true]).canLay0 = true := by simp [PyData.canLay0, PyData.canLayAll0, hn, ht]
  have e1 : shp (.list [.str n, .str t, .bool true]) = true := by
    show SeqAt.shaped _ = true
    unfold SeqAt.shaped
    rw [e]; rfl
  unfold fEq
  rw [e1, SeqAt.eqv_refl _ e]
  rfl
theorem e_ref {l : List D} (hl : PR l) {p : List Int} (hp : Pl p) : ∃ l', PR l' ∧ d__law_refusals_right [.io l, .im (T p)] = .ok (.im (.bool true)) (some l') := by
  obtain ⟨l1, r1, P1, a1, b1, e1⟩ := e_draw' l hl 18 (by decide) (by decide)
  obtain ⟨l2, r2, P2, a2, b2, e2⟩ := e_draw' l1 P1 18 (by decide) (by decide)
  obtain ⟨l3, r3, P3, a3, b3, e3⟩ := e_draw' l2 P2 6 (by decide) (by decide)
  obtain ⟨o, ho, x1⟩ := ix_mem odds r1 a1 b1
  obtain ⟨q, hq, x2⟩ := ix_mem odds r2 a2 b2
  obtain ⟨st, hst, x3⟩ := ix_mem odd2 r3 a3 b3
  obtain ⟨s1, s2⟩ := odd2_no st hst
  have no := e_wantx (odd_no o ho)
  have ro := odd_rs o ho
  have wp := pw_ok hp
  have k : ∀ {w : PySem.Str} {x y : D}, d__law_told [.im (.str w), .im x, .im y] = .ex ("InvalidPolynomial", [("value", o)]) none → d__law_raised [.im (.str w), .im x, .im y] = .ok (.mu [.str "InvalidPolynomial", .str o.shown, .bool true]) none := fun h => raised_p ro.1 h
  have c1 : d_poly_plus [.im o, .im q] = .ex ("InvalidPolynomial", [("value", o)]) none := plus_wx (pp_x1 (dw := d_want_polynomial) (de := d_added) no)
  have c2 : d_poly_plus [.im (T p), .im o] = .ex ("InvalidPolynomial", [("value", o)]) none := plus_wx (pp_x2 (dw := d_want_polynomial) (de := d_added) wp no)
  have c3 : d_poly_minus [.im o, .im q] = .ex ("InvalidPolynomial", [("value", o)]) none := minus_wx (pp_x1 (dw := d_want_polynomial) (de := d_subtracted) no)
  have c4 : d_poly_minus [.im (T p), .im o] = .ex ("InvalidPolynomial", [("value", o)]) none := minus_wx (pp_x2 (dw := d_want_polynomial) (de := d_subtracted) wp no)
  have c5 : d_poly_times [.im o, .im q] = .ex ("InvalidPolynomial", [("value", o)]) none := tm_wx (tm_y1 (dw := d_want_polynomial) (de := d_multiplied) (da := d_want_at_most) no)
  have c6 : d_poly_times [.im (T p), .im o] = .ex ("InvalidPolynomial", [("value", o)]) none := tm_wx (tm_y2 (dw := d_want_polynomial) (de := d_multiplied) (da := d_want_at_most) wp no)
  have c7 : d_poly_slope [.im o] = .ex ("InvalidPolynomial", [("value", o)]) none := ps_wx (ps_x (dw := d_want_polynomial) (ds := d_slope_of) no)
  have c8 : d_poly_worth [.im o, .im .none] = .ex ("InvalidPolynomial", [("value", o)]) none := pwo_wx (pwo_x1 (dw := d_want_polynomial) (dr := d_want_ratio) (db := d_bare_ratio) (dv := d_worth_of) no)
  have c9 : d_poly_worth [.im (T p), .im st] = .ex ("InvalidRatio", [("value", st)]) none := pwo_wx (pwo_x2 (dw := d_want_polynomial) (dr := d_want_ratio) (db := d_bare_ratio) (dv := d_worth_of) wp (wr_w (wr_b (den := d_is_ratio) s1)))
  obtain ⟨g, h⟩ := rf_ok (od := d__law_odd) (dw := d__law_draw) (ip := d_is_polynomial) (rz := d__law_raised) (p := T p) (o := o) (q := q) (st := st) e_odd rfl e1 e2 x1 x2 (odd_no o ho) (fRepr_ok ro.1)
    (k (td_w (td_plus (pl := d_poly_plus) (mi := d_poly_minus) (ti := d_poly_times) (sl := d_poly_slope) (wo := d_poly_worth) c1))) (k (td_w (td_plus (pl := d_poly_plus) (mi := d_poly_minus) (ti := d_poly_times) (sl := d_poly_slope) (wo := d_poly_worth) c2)))
    (k (td_w (td_minus (pl := d_poly_plus) (mi := d_poly_minus) (ti := d_poly_times) (sl := d_poly_slope) (wo := d_poly_worth) c3))) (k (td_w (td_minus (pl := d_poly_plus) (mi := d_poly_minus) (ti := d_poly_times) (sl := d_poly_slope) (wo := d_poly_worth) c4)))
    (k (td_w (td_times (pl := d_poly_plus) (mi := d_poly_minus) (ti := d_poly_times) (sl := d_poly_slope) (wo := d_poly_worth) c5))) (k (td_w (td_times (pl := d_poly_plus) (mi := d_poly_minus) (ti := d_poly_times) (sl := d_poly_slope) (wo := d_poly_worth) c6)))
    (k (td_w (td_slope (pl := d_poly_plus) (mi := d_poly_minus) (ti := d_poly_times) (sl := d_poly_slope) (wo := d_poly_worth) c7))) (k (td_w (td_worth (pl := d_poly_plus) (mi := d_poly_minus) (ti := d_poly_times) (sl := d_poly_slope) (wo := d_poly_worth) c8)))
    (fNe_told (by decide +kernel) ro.2) e3 x3 (raised_r s2.1 (td_w (td_worth (pl := d_poly_plus) (mi := d_poly_minus) (ti := d_poly_times) (sl := d_poly_slope) (wo := d_poly_worth) c9))) (fRepr_ok s2.1) (fEq_told (by decide +kernel) s2.2)
  exact ⟨l3, P3, rf_w h⟩
end K11
/-! ## K11rk.lean -/
set_option Elab.async false
set_option linter.all false
set_option maxRecDepth 10000
set_option maxHeartbeats 8000000
set_option exponentiation.threshold 3000
namespace K11
open PySem PySem.Spec L2 DL Po
/-! ### a drawn polynomial -/
abbrev lpB (dw : List B → FR) (el : Gm → Res W) : Gm → SR := (sSeq (sSet 2 (eOp2 fIx (eLst (aConsE (eC (.int 3)) (aConsE (eC (.int 3)) (aConsE (eC (.int 9)) (aConsE (eOp2 fPow (eC (.int 10)) (eC (.int 6))) aNilE))))) (eCallIo dw 0 (aConsE (eC (.int 4)) aNilE))))
  (sSeq (sSet 3 (eComp [4] (itR (aConsE (eV 1) aNilE)) (.nm 4) tYs el))
  (sSeq (sIf (tAn (tOf (eOp2 fGt (eV 1) (eC (.int 0)))) (tOf (eOp2 fEq (eOp2 fIx (eV 3) (eOp1 fNeg (eC (.int 1)))) (eC (.int 0))))) (sAsg (tgI 3 (eOp1 fNeg (eC (.int 1)))) (eOp2 fAdd (eC (.int 1)) (eCallIo dw 0 (aConsE (eV 2) aNilE)))) sNext)
  (sRet (eOpN fTuple (aCons (eV 3) aNil))))))
section
variable {dw : List B → FR} {el : Gm → Res W} {l0 l1 l2 l3 : List D} {n r s v c : Int} {ds xs : List D} {tz : D} {j : Nat}
theorem lp_a (h1 : dw [.io l0, .im (.int 4)] = .ok (.im (.int r)) (some l1)) (i1 : fIx (.list [.int 3, .int 3, .int 9, .int 1000000]) (.int r) = some (.im (.int s))) (hr : rngOf [.int n] = some ds) (cp : compGo [4] (.nm 4) tYs el ds [] [.io l1, .im (.int n), .im (.int s), .un, .un] = .ok xs [.io l2, .im (.int n), .im (.int s), .un, .un])
    (hc : ¬ 0 < n ∨ (fIx (.list xs) (.int (-1)) = some (.im (.int c)) ∧ (c == 0) = false)) (ht : fTuple [.list xs] = some (.im tz)) : ∃ g, lpB dw el [.io l0, .im (.int n), .un, .un, .un] = .rt (.im tz) (.io l2 :: g) := by
  have p6 := p106
  refine ⟨[.im (.int n), .im (.int s), .mu xs, .un], ?_⟩
  by_cases c0 : 0 < n
  · rcases hc with h | ⟨h2, h3⟩
    · exact absurd c0 h
    · simp [fnD, sSeq, SR.then, sSet, sRet, sIf, sPar, sExpr, sAsg, sAugI, sAugN, sNext, sFor, forGo, tOf, tNo, tAn, tOr', tYs, eIf, eOp2, eOp1, eOpN, eV, eC, eAnd, eOr, eNot, bE, eCh, eComp, okw, imUn, wipeG, back, aCons, aNil, aConsE, aNilE, eTup, eLst, eCall, eCall0, eCallK, eCallIo, eRep, ownOf, eSl, pNo, pSo, frE, frIo, eIsi, Res.bind, Res.bindS, Res.noex, rd, rdAll, put, esc, DL.settle, stor, noIo, okB, okA, outOf, outB, small, lstOf, put', tgT, tgAll, tgI, tgN, Tg.put, Tg.putAll, noIoAll, noIoB, setAll, itR, itE, itf, f_add, f_sub, f_subb, f_mul, f_div, f_mod, f_pow, f_lt, f_le, f_gt, f_ge, f_max, f_abs, f_neg, fEq_int, fNe_int, fIs, fIsNot, h1, i1, hr, cp, c0, h2, h3, ht, p6]
  · simp [fnD, sSeq, SR.then, sSet, sRet, sIf, sPar, sExpr, sAsg, sAugI, sAugN, sNext, sFor, forGo, tOf, tNo, tAn, tOr', tYs, eIf, eOp2, eOp1, eOpN, eV, eC, eAnd, eOr, eNot, bE, eCh, eComp, okw, imUn, wipeG, back, aCons, aNil, aConsE, aNilE, eTup, eLst, eCall, eCall0, eCallK, eCallIo, eRep, ownOf, eSl, pNo, pSo, frE, frIo, eIsi, Res.bind, Res.bindS, Res.noex, rd, rdAll, put, esc, DL.settle, stor, noIo, okB, okA, outOf, outB, small, lstOf, put', tgT, tgAll, tgI, tgN, Tg.put, Tg.putAll, noIoAll, noIoB, setAll, itR, itE, itf, f_add, f_sub, f_subb, f_mul, f_div, f_mod, f_pow, f_lt, f_le, f_gt, f_ge, f_max, f_abs, f_neg, fEq_int, fNe_int, fIs, fIsNot, h1, i1, hr, cp, c0, ht, p6]
theorem lp_c (h1 : dw [.io l0, .im (.int 4)] = .ok (.im (.int r)) (some l1)) (i1 : fIx (.list [.int 3, .int 3, .int 9, .int 1000000]) (.int r) = some (.im (.int s))) (hr : rngOf [.int n] = some ds) (cp : compGo [4] (.nm 4) tYs el ds [] [.io l1, .im (.int n), .im (.int s), .un, .un] = .ok xs [.io l2, .im (.int n), .im (.int s), .un, .un])
    (c0 : 0 < n) (h2 : fIx (.list xs) (.int (-1)) = some (.im (.int 0))) (h4 : dw [.io l2, .im (.int s)] = .ok (.im (.int v)) (some l3)) (hi : ixN xs.length (-1) = some j) (ht : fTuple [.list (xs.set j (.int (1 + v)))] = some (.im tz)) : ∃ g, lpB dw el [.io l0, .im (.int n), .un, .un, .un] = .rt (.im tz) (.io l3 :: g) := by
  have p6 := p106
  refine ⟨[.im (.int n), .im (.int s), .mu (xs.set j (.int (1 + v))), .un], ?_⟩
  simp [fnD, sSeq, SR.then, sSet, sRet, sIf, sPar, sExpr, sAsg, sAugI, sAugN, sNext, sFor, forGo, tOf, tNo, tAn, tOr', tYs, eIf, eOp2, eOp1, eOpN, eV, eC, eAnd, eOr, eNot, bE, eCh, eComp, okw, imUn, wipeG, back, aCons, aNil, aConsE, aNilE, eTup, eLst, eCall, eCall0, eCallK, eCallIo, eRep, ownOf, eSl, pNo, pSo, frE, frIo, eIsi, Res.bind, Res.bindS, Res.noex, rd, rdAll, put, esc, DL.settle, stor, noIo, okB, okA, outOf, outB, small, lstOf, put', tgT, tgAll, tgI, tgN, Tg.put, Tg.putAll, noIoAll, noIoB, setAll, itR, itE, itf, f_add, f_sub, f_subb, f_mul, f_div, f_mod, f_pow, f_lt, f_le, f_gt, f_ge, f_max, f_abs, f_neg, fEq_int, fNe_int, fIs, fIsNot, h1, i1, hr, cp, c0, h2, h4, hi, ht, p6]
theorem lp_w {l l' : List D} {a v : D} {g : Gm} (h : b__law_poly [.io l, .im a, .un, .un, .un] = .rt (.im v) (.io l' :: g)) : d__law_poly [.io l, .im a] = .ok (.im v) (some l') := by
  unfold d__law_poly
  simp [fnD, okA, h, outOf, okB]
end
theorem ixN_last {n : Nat} (h : 0 < n) : ixN n (-1) = some (n - 1) := by
  unfold ixN
  rw [if_neg (by decide), if_pos (by omega)]
  congr 1; omega
theorem e_lpoly {l : List D} (hl : PR l) {n : Int} (n0 : 0 ≤ n) (n1 : n ≤ 13) : ∃ (l' : List D) (p : List Int), PR l' ∧ Pl p ∧ d__law_poly [.io l, .im (.int n)] = .ok (.im (T p)) (some l') := by
  obtain ⟨k, rfl⟩ : ∃ k : Nat, n = k := ⟨n.toNat, by omega⟩
  obtain ⟨l1, r, P1, a1, b1, h1⟩ := e_draw' l hl 4 (by decide) (by decide)
  obtain ⟨s, s0, s1, i1⟩ : ∃ s : Int, 1 ≤ s ∧ s ≤ 1000000 ∧ fIx (.list [.int 3, .int 3, .int 9, .int 1000000]) (.int r) = some (.im (.int s)) := by
    obtain ⟨o, ho, e⟩ := ix_mem [.int 3, .int 3, .int 9, .int 1000000] r a1 b1
    simp only [List.mem_cons, List.not_mem_nil, or_false] at ho
    rcases ho with rfl | rfl | rfl | rfl
    · exact ⟨3, by decide, by decide, e⟩
    · exact ⟨3, by decide, by decide, e⟩
    · exact ⟨9, by decide, by decide, e⟩
    · exact ⟨1000000, by decide, by decide, e⟩
  obtain ⟨l2, xs, P2, hx, hb, cp⟩ := compR (a := .im (.int k)) (s := s) (by omega) s1 (List.range k) l1 [] (by simp; omega) P1
  rw [List.length_range] at hx
  have sm : ∀ x ∈ xs, x.natAbs ≤ 1000000 := fun x h => by have := hb x h; omega
  by_cases c : 0 < k ∧ co xs (k - 1) = 0
  · obtain ⟨l3, v, P3, v0, v1, h4⟩ := e_draw' l2 P2 s (by omega) (by omega)
    have hne : xs ≠ [] := by intro z; rw [z] at hx; simp at hx; omega
    have la := at_last hne
    rw [hx, c.2] at la
    obtain ⟨g, hh⟩ := lp_c (dw := d__law_draw) (el := rel d__law_draw) (v := v) (j := k - 1) (tz := T (xs.set (k - 1) (1 + v))) h1 i1 (rng1 k (by omega)) cp (by omega) (show (atI _ _).map B.im = _ by rw [List.nil_append, la]; rfl) h4 (by rw [List.nil_append, List.length_map, hx]; exact ixN_last c.1) (by
      show some (B.im (.tuple _)) = _
      rw [List.nil_append, ← List.map_set])
    refine ⟨l3, _, P3, ⟨?_, by rw [List.length_set, hx]; omega, fun x hxm => ?_⟩, lp_w hh⟩
    · intro hn
      rw [List.getLast_eq_getElem, ← co_lt (by rw [List.length_set]; omega), co_set (by omega), List.length_set, hx, if_pos rfl]
      omega
    · obtain ⟨i, hi, rfl⟩ := List.getElem_of_mem hxm
      rw [← co_lt hi, co_set (by omega)]
      split
      · omega
      · exact mem_co sm i
  · obtain ⟨g, hh⟩ := lp_a (dw := d__law_draw) (el := rel d__law_draw) (c := co xs (k - 1)) (tz := T xs) h1 i1 (rng1 k (by omega)) cp (by
      by_cases c0 : 0 < k
      · right
        have hne : xs ≠ [] := by intro z; rw [z] at hx; simp at hx; omega
        have la := at_last hne
        rw [hx] at la
        exact ⟨show (atI _ _).map B.im = _ by rw [List.nil_append, la]; rfl, by simpa using fun z => c ⟨c0, z⟩⟩
      · left; omega) rfl
    refine ⟨l2, xs, P2, ⟨fun hn => ?_, by omega, sm⟩, lp_w hh⟩
    rw [List.getLast_eq_getElem, ← co_lt (by have := List.length_pos_iff.mpr hn; omega), hx]
    exact fun z => c ⟨by have := List.length_pos_iff.mpr hn; omega, z⟩
end K11
/-! ## K11rl.lean -/
set_option Elab.async false
set_option linter.all false
set_option maxRecDepth 10000
set_option maxHeartbeats 8000000
set_option exponentiation.threshold 3000
namespace K11
open PySem PySem.Spec L2 DL Po
/-! ### prime to one another -/
def badp (x u : Int) (p : Nat) : Bool := (x.fmod ((p : Int) + 2) == 0) && ((0 : Int) == u.fmod ((p : Int) + 2))
def bad (x : Int) (u : Nat) : Bool := (List.range (u - 1)).any fun p => badp x u p
abbrev lwE : Gm → Res Bool := tOf (eCh fEq fEq (eOp2 fMod (eV 5) (eV 8)) (eC (.int 0)) (eOp2 fMod (eV 6) (eV 8)))
theorem lwE_ok {x0 x1 x2 x3 x4 x7 : B} {x u q : Int} {c1 c2 : Bool} (m1 : modB x q = true) (m2 : modB u q = true) (h1 : (x.fmod q == 0) = c1) (h2 : ((0 : Int) == u.fmod q) = c2) : lwE [x0, x1, x2, x3, x4, .im (.int x), .im (.int u), x7, .im (.int q)] = .ok (c1 && c2) [x0, x1, x2, x3, x4, .im (.int x), .im (.int u), x7, .im (.int q)] := by
  cases c1 with
  | true => cases c2 with
    | true => simp [fnD, sSeq, SR.then, sSet, sRet, sIf, sPar, sExpr, sAsg, sAugI, sAugN, sNext, sFor, forGo, tOf, tNo, tAn, tOr', tYs, eIf, eOp2, eOp1, eOpN, eV, eC, eAnd, eOr, eNot, bE, eCh, eComp, okw, imUn, wipeG, back, aCons, aNil, aConsE, aNilE, eTup, eLst, eCall, eCall0, eCallK, eCallIo, eRep, ownOf, eSl, pNo, pSo, frE, frIo, eIsi, Res.bind, Res.bindS, Res.noex, rd, rdAll, put, esc, DL.settle, stor, noIo, okB, okA, outOf, outB, small, lstOf, put', tgT, tgAll, tgI, tgN, Tg.put, Tg.putAll, noIoAll, noIoB, setAll, itR, itE, itf, f_add, f_sub, f_subb, f_mul, f_div, f_mod, f_pow, f_lt, f_le, f_gt, f_ge, f_max, f_abs, f_neg, fEq_int, fNe_int, fIs, fIsNot, m1, m2, h1, h2]
    | false => simp [fnD, sSeq, SR.then, sSet, sRet, sIf, sPar, sExpr, sAsg, sAugI, sAugN, sNext, sFor, forGo, tOf, tNo, tAn, tOr', tYs, eIf, eOp2, eOp1, eOpN, eV, eC, eAnd, eOr, eNot, bE, eCh, eComp, okw, imUn, wipeG, back, aCons, aNil, aConsE, aNilE, eTup, eLst, eCall, eCall0, eCallK, eCallIo, eRep, ownOf, eSl, pNo, pSo, frE, frIo, eIsi, Res.bind, Res.bindS, Res.noex, rd, rdAll, put, esc, DL.settle, stor, noIo, okB, okA, outOf, outB, small, lstOf, put', tgT, tgAll, tgI, tgN, Tg.put, Tg.putAll, noIoAll, noIoB, setAll, itR, itE, itf, f_add, f_sub, f_subb, f_mul, f_div, f_mod, f_pow, f_lt, f_le, f_gt, f_ge, f_max, f_abs, f_neg, fEq_int, fNe_int, fIs, fIsNot, m1, m2, h1, h2]
  | false => simp [fnD, sSeq, SR.then, sSet, sRet, sIf, sPar, sExpr, sAsg, sAugI, sAugN, sNext, sFor, forGo, tOf, tNo, tAn, tOr', tYs, eIf, eOp2, eOp1, eOpN, eV, eC, eAnd, eOr, eNot, bE, eCh, eComp, okw, imUn, wipeG, back, aCons, aNil, aConsE, aNilE, eTup, eLst, eCall, eCall0, eCallK, eCallIo, eRep, ownOf, eSl, pNo, pSo, frE, frIo, eIsi, Res.bind, Res.bindS, Res.noex, rd, rdAll, put, esc, DL.settle, stor, noIo, okB, okA, outOf, outB, small, lstOf, put', tgT, tgAll, tgI, tgN, Tg.put, Tg.putAll, noIoAll, noIoB, setAll, itR, itE, itf, f_add, f_sub, f_subb, f_mul, f_div, f_mod, f_pow, f_lt, f_le, f_gt, f_ge, f_max, f_abs, f_neg, fEq_int, fNe_int, fIs, fIsNot, m1, m2, h1]
abbrev lwC : Gm → Res Bool := tOf (eOp2 fNe (eComp [8] (itR (aConsE (eC (.int 2)) (aConsE (eOp2 fAdd (eV 6) (eC (.int 1))) aNilE))) (.nm 8) lwE (eV 8)) (eLst aNilE))
abbrev lwB : Gm → SR := sSet 5 (eOp2 fAdd (eV 5) (eC (.int 1)))
theorem lwB_ok {x0 x1 x2 x3 x4 x6 x7 x8 : B} {x : Int} : lwB [x0, x1, x2, x3, x4, .im (.int x), x6, x7, x8] = .nx [x0, x1, x2, x3, x4, .im (.int (x + 1)), x6, x7, x8] := by
  simp [fnD, sSeq, SR.then, sSet, sRet, sIf, sPar, sExpr, sAsg, sAugI, sAugN, sNext, sFor, forGo, tOf, tNo, tAn, tOr', tYs, eIf, eOp2, eOp1, eOpN, eV, eC, eAnd, eOr, eNot, bE, eCh, eComp, okw, imUn, wipeG, back, aCons, aNil, aConsE, aNilE, eTup, eLst, eCall, eCall0, eCallK, eCallIo, eRep, ownOf, eSl, pNo, pSo, frE, frIo, eIsi, Res.bind, Res.bindS, Res.noex, rd, rdAll, put, esc, DL.settle, stor, noIo, okB, okA, outOf, outB, small, lstOf, put', tgT, tgAll, tgI, tgN, Tg.put, Tg.putAll, noIoAll, noIoB, setAll, itR, itE, itf, f_add, f_sub, f_subb, f_mul, f_div, f_mod, f_pow, f_lt, f_le, f_gt, f_ge, f_max, f_abs, f_neg, fEq_int, fNe_int, fIs, fIsNot]
theorem lwC_ok {x0 x1 x2 x3 x4 x7 : B} {x u : Int} {ds xs : List D} {b : Bool} (hr : rngOf [.int 2, .int (u + 1)] = some ds) (cp : compGo [8] (.nm 8) lwE (eV 8) ds [] [x0, x1, x2, x3, x4, .im (.int x), .im (.int u), x7, .un] = .ok xs [x0, x1, x2, x3, x4, .im (.int x), .im (.int u), x7, .un]) (hn : fNe (.list xs) (.list []) = some (.im (.bool b))) (h8 : B) :
    lwC [x0, x1, x2, x3, x4, .im (.int x), .im (.int u), x7, .un] = .ok b [x0, x1, x2, x3, x4, .im (.int x), .im (.int u), x7, .un] := by
  show tOf (eOp2 fNe (eComp [8] (itR (aConsE (eC (.int 2)) (aConsE (eOp2 fAdd (eV 6) (eC (.int 1))) aNilE))) (.nm 8) lwE (eV 8)) (eLst aNilE)) _ = _
  generalize lwE = le at *
  simp [fnD, sSeq, SR.then, sSet, sRet, sIf, sPar, sExpr, sAsg, sAugI, sAugN, sNext, sFor, forGo, tOf, tNo, tAn, tOr', tYs, eIf, eOp2, eOp1, eOpN, eV, eC, eAnd, eOr, eNot, bE, eCh, eComp, okw, imUn, wipeG, back, aCons, aNil, aConsE, aNilE, eTup, eLst, eCall, eCall0, eCallK, eCallIo, eRep, ownOf, eSl, pNo, pSo, frE, frIo, eIsi, Res.bind, Res.bindS, Res.noex, rd, rdAll, put, esc, DL.settle, stor, noIo, okB, okA, outOf, outB, small, lstOf, put', tgT, tgAll, tgI, tgN, Tg.put, Tg.putAll, noIoAll, noIoB, setAll, itR, itE, itf, f_add, f_sub, f_subb, f_mul, f_div, f_mod, f_pow, f_lt, f_le, f_gt, f_ge, f_max, f_abs, f_neg, fEq_int, fNe_int, fIs, fIsNot, hr, cp, hn]
theorem fin_ok : ∀ u : Nat, u < 8 → 1 ≤ u → ∀ t : Nat, t < 41 → ∃ i : Nat, i < 8 ∧ (∀ j, j < i → bad ((t : Int) - 20 + j) u = true) ∧ bad ((t : Int) - 20 + i) u = false ∧ Int.gcd ((t : Int) - 20 + i) u = 1 := by
  decide +kernel
end K11
/-! ## K11rm.lean -/
set_option Elab.async false
set_option linter.all false
set_option maxRecDepth 100000
set_option maxHeartbeats 8000000
set_option exponentiation.threshold 3000
namespace K11
open PySem PySem.Spec L2 DL Po
theorem ne_nil (l : List Nat) : fNe (.list (l.map fun p : Nat => PyData.int ((p : Int) + 2))) (.list []) = some (.im (.bool (!l.isEmpty))) := by
  have c : ∀ l : List Nat, PyData.canLayAll0 (l.map fun p : Nat => PyData.int ((p : Int) + 2)) = true := by
    intro l
    induction l with
    | nil => rfl
    | cons a l ih => show (true && PyData.canLayAll0 (l.map fun p : Nat => PyData.int ((p : Int) + 2))) = true; rw [ih]; rfl
  have dp : ∀ l : List Nat, PyData.depthAll (l.map fun p : Nat => PyData.int ((p : Int) + 2)) = 0 := by
    intro l
    induction l with
    | nil => rfl
    | cons a l ih => show max 0 (PyData.depthAll (l.map fun p : Nat => PyData.int ((p : Int) + 2))) = 0; rw [ih]; rfl
  have s : shp (.list (l.map fun p : Nat => PyData.int ((p : Int) + 2))) = true := by
    show (PyData.canLayAll0 (l.map fun p : Nat => PyData.int ((p : Int) + 2)) && decide (PyData.depthAll (l.map fun p : Nat => PyData.int ((p : Int) + 2)) + 1 ≤ 64)) = true
    rw [c, dp]; rfl
  have s2 : shp (.list []) = true := rfl
  unfold fNe
  rw [s, s2]
  cases l with
  | nil => rfl
  | cons a l => rfl
theorem lw_c {x0 x1 x2 x3 x4 x7 : B} (x : Int) {u : Nat} (u0 : 1 ≤ u) (u1 : u < 8) : lwC [x0, x1, x2, x3, x4, .im (.int x), .im (.int u), x7, .un] = .ok (bad x u) [x0, x1, x2, x3, x4, .im (.int x), .im (.int u), x7, .un] := by
  have hr : rngOf [.int 2, .int ((u : Int) + 1)] = some ((List.range (u - 1)).map fun p : Nat => PyData.int ((p : Int) + 2)) := by
    have c : (bd62 2 && bd62 ((u : Int) + 1)) = true := by
      simp only [Bool.and_eq_true, bd62, decide_eq_true_eq]
      omega
    simp only [rngOf]
    rw [if_pos c]
    unfold rngD
    rw [show ((u : Int) + 1 - 2).toNat = u - 1 by omega]
    exact congrArg some (List.map_congr_left fun p _ => congrArg PyData.int (by omega))
  have cp := comp_map (vs := [8]) (t := .nm 8) (c := lwE) (e := eV 8) (g := [x0, x1, x2, x3, x4, .im (.int x), .im (.int u), x7, .un]) (en := fun p : Nat => PyData.int ((p : Int) + 2)) (P := fun p => badp x u p) (F := fun p : Nat => PyData.int ((p : Int) + 2)) (List.range (u - 1)) [] (fun p hp => by
    have m : ∀ y : Int, modB y ((p : Int) + 2) = true := fun y => by unfold modB; simp; omega
    exact ⟨[x0, x1, x2, x3, x4, .im (.int x), .im (.int u), x7, .im (.int ((p : Int) + 2))], rfl, lwE_ok (m _) (m _) rfl rfl, fun _ => ⟨.s 8, rfl, rfl⟩, rfl, rfl⟩) (by simp; omega)
  rw [List.nil_append] at cp
  have key : (!((List.range (u - 1)).filter fun p => badp x u p).isEmpty) = bad x u := by
    unfold bad
    generalize List.range (u - 1) = l
    induction l with
    | nil => rfl
    | cons a l ih =>
      rw [List.filter_cons, List.any_cons]
      cases badp x u a with
      | true => rfl
      | false => simpa using ih
  rw [← key]
  exact lwC_ok (h8 := .un) hr cp (ne_nil _)
theorem lw_go {x0 x1 x2 x3 x4 x7 : B} {u : Nat} (u0 : 1 ≤ u) (u1 : u < 8) : ∀ (i n : Nat) (x : Int), i < n → (∀ j : Nat, j < i → bad (x + j) u = true) → bad (x + i) u = false → sWhile lwC lwB n [x0, x1, x2, x3, x4, .im (.int x), .im (.int u), x7, .un] = .nx [x0, x1, x2, x3, x4, .im (.int (x + i)), .im (.int u), x7, .un]
  | i, 0, x, h, _, _ => by omega
  | 0, n + 1, x, _, _, h => by
    unfold sWhile
    rw [lw_c x u0 u1]
    have hb : bad x u = false := by simpa using h
    rw [hb]
    show SR.nx _ = _
    simp
  | i + 1, n + 1, x, hi, ht, h => by
    have hb : bad x u = true := by simpa using ht 0 (by omega)
    have e : ∀ j : Nat, x + 1 + (j : Int) = x + ((j + 1 : Nat) : Int) := fun j => by omega
    have ih := lw_go (x0 := x0) (x1 := x1) (x2 := x2) (x3 := x3) (x4 := x4) (x7 := x7) u0 u1 i n (x + 1) (by omega) (fun j hj => by rw [e]; exact ht (j + 1) (by omega)) (by rw [e]; exact h)
    unfold sWhile
    rw [lw_c x u0 u1, hb]
    simp only [Res.bindS, if_true, lwB_ok]
    rw [ih, e]
theorem lw_end {x0 x1 x2 x3 x4 x7 : B} {x : Int} {u : Nat} (u0 : 1 ≤ u) (u1 : u < 8) (h0 : -20 ≤ x) (h1 : x ≤ 20) : ∃ y : Int, -20 ≤ y ∧ y ≤ 27 ∧ Int.gcd y u = 1 ∧ sWhile lwC lwB 1000 [x0, x1, x2, x3, x4, .im (.int x), .im (.int u), x7, .un] = .nx [x0, x1, x2, x3, x4, .im (.int y), .im (.int u), x7, .un] := by
  obtain ⟨i, hi, ht, hf, hg⟩ := fin_ok u u1 u0 (x + 20).toNat (by omega)
  have e : (((x + 20).toNat : Nat) : Int) - 20 = x := by omega
  rw [e] at hf hg
  exact ⟨x + i, by omega, by omega, hg, lw_go u0 u1 i 1000 x (by omega) (fun j hj => by have := ht j hj; rwa [e] at this) hf⟩
end K11
/-! ## K11rn.lean -/
set_option Elab.async false
set_option linter.all false
set_option maxRecDepth 10000
set_option maxHeartbeats 8000000
set_option exponentiation.threshold 3000
namespace K11
open PySem PySem.Spec L2 DL Po
abbrev lb (po dw lp tw on rf : List B → FR) (wh : Gm → SR) : Gm → SR := (sSeq (sSet 2 (eCall po (aConsE (eV 0) (aConsE (eV 1) aNilE)))) (sSeq (sPar [3, 4] (aCons (eCallIo lp 2 (aConsE (eCallIo dw 2 (aConsE (eC (.int 10)) aNilE)) aNilE)) (aCons (eCallIo lp 2 (aConsE (eCallIo dw 2 (aConsE (eC (.int 9)) aNilE)) aNilE)) aNil))) (sSeq (sPar [5, 6] (aCons (eOp2 fSub (eCallIo dw 2 (aConsE (eC (.int 41)) aNilE)) (eC (.int 20))) (aCons (eOp2 fAdd (eC (.int 1)) (eCallIo dw 2 (aConsE (eC (.int 7)) aNilE))) aNil))) (sSeq wh (sSeq (sIf (tNo (tOf (eCall tw (aConsE (eV 3) (aConsE (eV 4) (aConsE (eV 5) (aConsE (eV 6) aNilE))))))) (sRet (eC (.bool false))) sNext) (sSeq (sIf (tOr' (tNo (tOf (eCall tw (aConsE (eV 4) (aConsE (eV 3) (aConsE (eV 5) (aConsE (eV 6) aNilE))))))) (tNo (tOf (eCall on (aConsE (eV 3) aNilE))))) (sRet (eC (.bool false))) sNext) (sSeq (sSet 7 (eCallIo lp 2 (aConsE (eOp2 fAdd (eC (.int 7)) (eCallIo dw 2 (aConsE (eC (.int 2)) aNilE))) aNilE))) (sSeq (sIf (tNo (tOf (eCall tw (aConsE (eV 7) (aConsE (eCallIo lp 2 (aConsE (eC (.int 7)) aNilE)) (aConsE (eC (.int 1)) (aConsE (eC (.int 2)) aNilE))))))) (sRet (eC (.bool false))) sNext) (sIf (tNo (tOf (eCallIo rf 2 (aConsE (eV 3) aNilE)))) (sRet (eC (.bool false))) sNext)))))))))
theorem lb_ok {po dw lp tw on rf : List B → FR} {wh : Gm → SR} {sc p q gr g2 : D} {l0 l1 l2 l3 l4 l5 l6 l7 l8 l9 l10 : List D} {k a1 a2 x v y d3 : Int} {x2 x3 x4 x5 x6 x7 x8 : B} (f2 : fr x2) (f3 : fr x3) (f4 : fr x4) (f5 : fr x5) (f6 : fr x6) (f7 : fr x7)
    (h0 : po [.im sc, .im (.int k)] = .ok (.mu l0) none) (h1 : dw [.io l0, .im (.int 10)] = .ok (.im (.int a1)) (some l1)) (h2 : lp [.io l1, .im (.int a1)] = .ok (.im p) (some l2)) (h3 : dw [.io l2, .im (.int 9)] = .ok (.im (.int a2)) (some l3)) (h4 : lp [.io l3, .im (.int a2)] = .ok (.im q) (some l4))
    (h5 : dw [.io l4, .im (.int 41)] = .ok (.im (.int x)) (some l5)) (h6 : dw [.io l5, .im (.int 7)] = .ok (.im (.int v)) (some l6)) (hw : wh [.im sc, .im (.int k), .mu l6, .im p, .im q, .im (.int (x - 20)), .im (.int (1 + v)), x7, x8] = .nx [.im sc, .im (.int k), .mu l6, .im p, .im q, .im (.int y), .im (.int (1 + v)), x7, x8])
    (t1 : tw [.im p, .im q, .im (.int y), .im (.int (1 + v))] = .ok (.im (.bool true)) none) (t2 : tw [.im q, .im p, .im (.int y), .im (.int (1 + v))] = .ok (.im (.bool true)) none) (o1 : on [.im p] = .ok (.im (.bool true)) none) (h7 : dw [.io l6, .im (.int 2)] = .ok (.im (.int d3)) (some l7)) (h8 : lp [.io l7, .im (.int (7 + d3))] = .ok (.im gr) (some l8))
    (h9 : lp [.io l8, .im (.int 7)] = .ok (.im g2) (some l9)) (t3 : tw [.im gr, .im g2, .im (.int 1), .im (.int 2)] = .ok (.im (.bool true)) none) (r1 : rf [.io l9, .im p] = .ok (.im (.bool true)) (some l10)) :
    lb po dw lp tw on rf wh [.im sc, .im (.int k), x2, x3, x4, x5, x6, x7, x8] = .nx [.im sc, .im (.int k), .mu l10, .im p, .im q, .im (.int y), .im (.int (1 + v)), .im gr, x8] := by
  unfold fr noIo at *
  simp [fnD, sSeq, SR.then, sSet, sRet, sIf, sPar, sExpr, sAsg, sAugI, sAugN, sNext, sFor, forGo, tOf, tNo, tAn, tOr', tYs, eIf, eOp2, eOp1, eOpN, eV, eC, eAnd, eOr, eNot, bE, eCh, eComp, okw, imUn, wipeG, back, aCons, aNil, aConsE, aNilE, eTup, eLst, eCall, eCall0, eCallK, eCallIo, eRep, ownOf, eSl, pNo, pSo, frE, frIo, eIsi, Res.bind, Res.bindS, Res.noex, rd, rdAll, put, esc, DL.settle, stor, noIo, okB, okA, outOf, outB, small, lstOf, put', tgT, tgAll, tgI, tgN, Tg.put, Tg.putAll, noIoAll, noIoB, setAll, itR, itE, itf, f_add, f_sub, f_subb, f_mul, f_div, f_mod, f_pow, f_lt, f_le, f_gt, f_ge, f_max, f_abs, f_neg, fEq_int, fNe_int, fIs, fIsNot, f2, f3, f4, f5, f6, f7, h0, h1, h2, h3, h4, h5, h6, hw, t1, t2, o1, h7, h8, h9, t3, r1]
end K11
/-! ## K11ro.lean -/
set_option Elab.async false
set_option linter.all false
set_option maxRecDepth 10000
set_option maxHeartbeats 8000000
set_option exponentiation.threshold 3000
namespace K11
open PySem PySem.Spec L2 DL Po
theorem frm (l : List D) : fr (.mu l) := rfl
theorem e_law (sc : D) (k : Int) (ns : List Int) (hsc : sc = .list (ns.map .int)) (kn : Nat) (hk : k = kn) (hk2 : kn < 2) {x2 x3 x4 x5 x6 x7 : B}
    (f2 : fr x2) (f3 : fr x3) (f4 : fr x4) (f5 : fr x5) (f6 : fr x6) (f7 : fr x7) :
    ∃ y2 y3 y4 y5 y6 y7, fr y2 ∧ fr y3 ∧ fr y4 ∧ fr y5 ∧ fr y6 ∧ fr y7 ∧
      lb d__law_pot d__law_draw d__law_poly d__law_two_right d__law_one_right d__law_refusals_right (sWhile lwC lwB 1000) [.im sc, .im (.int k), x2, x3, x4, x5, x6, x7, .un] = .nx [.im sc, .im (.int k), y2, y3, y4, y5, y6, y7, .un] := by
  subst hsc hk
  obtain ⟨l0, P0, h0⟩ := e_pot ns kn hk2
  obtain ⟨l1, v1, P1, a1, b1, h1⟩ := e_draw' l0 P0 10 (by decide) (by decide)
  obtain ⟨l2, p, P2, hp, h2⟩ := e_lpoly P1 (n := v1) a1 (by omega)
  obtain ⟨l3, v2, P3, a2, b2, h3⟩ := e_draw' l2 P2 9 (by decide) (by decide)
  obtain ⟨l4, q, P4, hq, h4⟩ := e_lpoly P3 (n := v2) a2 (by omega)
  obtain ⟨l5, x, P5, a3, b3, h5⟩ := e_draw' l4 P4 41 (by decide) (by decide)
  obtain ⟨l6, v, P6, a4, b4, h6⟩ := e_draw' l5 P5 7 (by decide) (by decide)
  obtain ⟨u, hu⟩ : ∃ u : Nat, 1 + v = (u : Int) := ⟨(1 + v).toNat, by omega⟩
  obtain ⟨y, y0, y1, hg, hw⟩ := lw_end (x0 := .im (.list (ns.map .int))) (x1 := .im (.int kn)) (x2 := .mu l6) (x3 := .im (T p)) (x4 := .im (T q)) (x7 := x7) (x := x - 20) (u := u) (by omega) (by omega) (by omega) (by omega)
  rw [← hu] at hw hg
  obtain ⟨l7, d3, P7, a5, b5, h7⟩ := e_draw' l6 P6 2 (by decide) (by decide)
  obtain ⟨l8, gr, P8, hgr, h8⟩ := e_lpoly P7 (n := 7 + d3) (by omega) (by omega)
  obtain ⟨l9, g2, P9, hg2, h9⟩ := e_lpoly P8 (n := 7) (by decide) (by decide)
  obtain ⟨l10, P10, r1⟩ := e_ref P9 hp
  have by5 : bd 5 y := two_bd (by omega)
  have bv5 : bd 5 (1 + v) := two_bd (by omega)
  have big : ∀ {z : Int}, bd 5 z → bd 70 z := fun h => bmono h (by decide)
  have gd : Gd (y, 1 + v) := ⟨by show 0 < 1 + v; omega, hg, big by5, big bv5⟩
  have c1 : bd 5 (1 : Int) := two_bd (by decide)
  have c2 : bd 5 (2 : Int) := two_bd (by decide)
  have gd2 : Gd (1, 2) := ⟨by decide, by decide, big c1, big c2⟩
  have res := lb_ok (wh := sWhile lwC lwB 1000) (x2 := x2) (x3 := x3) (x4 := x4) (x5 := x5) (x6 := x6) (x7 := x7) (x8 := .un) f2 f3 f4 f5 f6 f7 h0 h1 h2 h3 h4 h5 h6 hw (e_two hp hq by5 bv5 gd) (e_two hq hp by5 bv5 gd) (e_one hp) h7 h8 h9 (e_two hgr hg2 c1 c2 gd2) r1
  exact ⟨_, _, _, _, _, _, frm _, fr_im _, fr_im _, fr_im _, fr_im _, fr_im _, res⟩
theorem two_turns {B1 : Gm → SR} {a c : D} {b : B} {g0 g1 g2 : Gm} (h1 : tgN (.nm 1) (.int 0) g0 = .ok () g1) (h2 : B1 g1 = .nx g2) {g3 g4 : Gm} (h3 : tgN (.nm 1) (.int 1) g2 = .ok () g3) (h4 : B1 g3 = .nx g4) :
    (sSeq (sFor (itR (aConsE (eC (.int 2)) aNilE)) (tgN (.nm 1)) B1) (sRet (eC (.bool true)))) g0 = .rt (.im (.bool true)) g4 := by
  have rg : rngOf [.int 2] = some [.int 0, .int 1] := rfl
  have hi : itR (aConsE (eC (.int 2)) aNilE) g0 = .ok [.int 0, .int 1] g0 := by
    unfold itR aConsE aNilE eC
    simp only [Res.bind, esc, rg]
  refine seq_nx (for_ok hi ?_) rfl
  show ((tgN (.nm 1) (.int 0) g0).bindS fun _ g1 => _) = _
  rw [h1]
  show (match B1 g1 with
    | .nx g2 => forGo (tgN (.nm 1)) B1 [.int 1] g2
    | .ct g2 => forGo (tgN (.nm 1)) B1 [.int 1] g2
    | .bk g2 => .nx g2
    | r => r) = _
  rw [h2]
  show ((tgN (.nm 1) (.int 1) g2).bindS fun _ g1 => _) = _
  rw [h3]
  show (match B1 g3 with
    | .nx g2 => forGo (tgN (.nm 1)) B1 [] g2
    | .ct g2 => forGo (tgN (.nm 1)) B1 [] g2
    | .bk g2 => .nx g2
    | r => r) = _
  rw [h4]
  rfl
theorem law_w {a : D} {g : Gm} (h : b_law [.im a, .un, .un, .un, .un, .un, .un, .un, .un] = .rt (.im (.bool true)) (.im a :: g)) : d_law [.im a] = .ok (.im (.bool true)) none := by
  unfold d_law
  simp [fnD, okA, h, outOf, okB]
theorem law_true (ns : List Int) (hl : ns.length ≤ 63) : ∃ o, d_law [.im (.list (ns.map PySem.PyData.int))] = .ok (.im (.bool true)) o := by
  obtain ⟨y2, y3, y4, y5, y6, y7, g2, g3, g4, g5, g6, g7, e1⟩ := e_law (.list (ns.map .int)) 0 ns rfl 0 rfl (by decide) (x2 := .un) (x3 := .un) (x4 := .un) (x5 := .un) (x6 := .un) (x7 := .un) rfl rfl rfl rfl rfl rfl
  obtain ⟨z2, z3, z4, z5, z6, z7, _, _, _, _, _, _, e2⟩ := e_law (.list (ns.map .int)) 1 ns rfl 1 rfl (by decide) g2 g3 g4 g5 g6 g7
  exact ⟨none, law_w (two_turns (a := .none) (c := .none) (b := .un) rfl e1 rfl e2)⟩
end K11
/-! ## K11_end.lean -/
open PySem PySem.W PyProof.Rows
set_option maxRecDepth 100000 in
set_option maxHeartbeats 0 in
theorem PySem.Challenge.cw_whichpaces_k11_polynomials_reckoned_holds : PySem.Challenge.rw_whichpaces_k11_polynomials_reckoned.Holds := by
  w_on; o_law; k_head; (case hw => w_witness2)
  k_fill
  refine DL.walkG (l := PySem.Challenge.rw_whichpaces_k11_polynomials_reckoned) (n := 63) (k := 10) (x := "script") (sp := fun K mg => DL.spD K mg K11.d_law) rfl (by decide) rfl ⟨⟨rfl, by decide, by decide⟩, rfl⟩ (fun w h Y => PySem.W.kIn_of Y) ?F (fun K mg H a ns hl hS => ?S)
  case S => exact DL.law_end hS (K11.law_true ns hl) fun _ => rfl
  case F =>
    intro w mg fa h KX G hmg
    refine' K11.all_mk KX G hmg (M := K11.gs_mk KX G ?a_PaceError ?a_LimitError ?a_InvalidRatio ?a_InvalidPolynomial ?a_TooMany ?n_abs ?n_all ?n_bool ?n_divmod ?n_enumerate ?n_int ?n_isinstance ?n_len ?n_list ?n_max ?n_range ?n_repr ?n_reversed ?n_sum ?n_tuple ?n_zip ?m_gcd ?kk_MOST_DEGREE ?kk_MOST_SIZE ?x_InvalidRatio ?sa_InvalidRatio ?nv_InvalidRatio ?in_InvalidRatio ?x_InvalidPolynomial ?sa_InvalidPolynomial ?nv_InvalidPolynomial ?in_InvalidPolynomial ?x_TooMany ?sa_TooMany ?nw_TooMany ?nl_TooMany ?in_TooMany ?ga_InvalidRatio ?gg_InvalidRatio ?k_InvalidRatio ?e_InvalidRatio ?t_InvalidRatio ?hd_InvalidRatio ?ga_InvalidPolynomial ?gg_InvalidPolynomial ?k_InvalidPolynomial ?e_InvalidPolynomial ?t_InvalidPolynomial ?hd_InvalidPolynomial ?ga_TooMany ?gg_TooMany ?k_TooMany ?e_TooMany ?t_TooMany ?hd_TooMany ?tI ?lI ?cI ?lT ?tJ ?lJ ?cJ ?ic_InvalidPolynomial ?ha_InvalidPolynomial ?hm_InvalidPolynomial ?ic_InvalidRatio ?ha_InvalidRatio ?hm_InvalidRatio ?ic_TooMany ?ha_TooMany ?hm_TooMany ?hn ?ht ?i_InvalidPolynomial_PaceError ?i_InvalidRatio_PaceError ?s_TooMany_InvalidPolynomial ?s_InvalidRatio_InvalidPolynomial ?s_InvalidPolynomial_InvalidPolynomial ?s_TooMany_InvalidRatio ?s_InvalidRatio_InvalidRatio ?s_InvalidPolynomial_InvalidRatio ?s_TooMany_TooMany ?s_InvalidRatio_TooMany ?s_InvalidPolynomial_TooMany) (R__law_pot := K11.rf_mk KX G ?ra__law_pot ?rl__law_pot ?rc__law_pot ?rk__law_pot fun _ _ _ _ _ _ us hl => match us, hl with | [_, _], _ => rfl) (R__law_draw := K11.rf_mk KX G ?ra__law_draw ?rl__law_draw ?rc__law_draw ?rk__law_draw fun _ _ _ _ _ _ us hl => match us, hl with | [_, _], _ => rfl) (R__law_poly := K11.rf_mk KX G ?ra__law_poly ?rl__law_poly ?rc__law_poly ?rk__law_poly fun _ _ _ _ _ _ us hl => match us, hl with | [_, _], _ => rfl) (R__law_is := K11.rf_mk KX G ?ra__law_is ?rl__law_is ?rc__law_is ?rk__law_is fun _ _ _ _ _ _ us hl => match us, hl with | [_, _], _ => rfl) (R__law_cut := K11.rf_mk KX G ?ra__law_cut ?rl__law_cut ?rc__law_cut ?rk__law_cut fun _ _ _ _ _ _ us hl => match us, hl with | [_], _ => rfl) (R__law_at := K11.rf_mk KX G ?ra__law_at ?rl__law_at ?rc__law_at ?rk__law_at fun _ _ _ _ _ _ us hl => match us, hl with | [_, _], _ => rfl) (R__law_sum := K11.rf_mk KX G ?ra__law_sum ?rl__law_sum ?rc__law_sum ?rk__law_sum fun _ _ _ _ _ _ us hl => match us, hl with | [_, _, _], _ => rfl) (R_trimmed := K11.rf_mk KX G ?ra_trimmed ?rl_trimmed ?rc_trimmed ?rk_trimmed fun _ _ _ _ _ _ us hl => match us, hl with | [_], _ => rfl) (R_added := K11.rf_mk KX G ?ra_added ?rl_added ?rc_added ?rk_added fun _ _ _ _ _ _ us hl => match us, hl with | [_, _], _ => rfl) (R_is_integer := K11.rf_mk KX G ?ra_is_integer ?rl_is_integer ?rc_is_integer ?rk_is_integer fun _ _ _ _ _ _ us hl => match us, hl with | [_], _ => rfl) (R_is_polynomial := K11.rf_mk KX G ?ra_is_polynomial ?rl_is_polynomial ?rc_is_polynomial ?rk_is_polynomial fun _ _ _ _ _ _ us hl => match us, hl with | [_], _ => rfl) (R_want_polynomial := K11.rf_mk KX G ?ra_want_polynomial ?rl_want_polynomial ?rc_want_polynomial ?rk_want_polynomial fun _ _ _ _ _ _ us hl => match us, hl with | [_], _ => rfl) (R_poly_plus := K11.rf_mk KX G ?ra_poly_plus ?rl_poly_plus ?rc_poly_plus ?rk_poly_plus fun _ _ _ _ _ _ us hl => match us, hl with | [_, _], _ => rfl) (R_scaled := K11.rf_mk KX G ?ra_scaled ?rl_scaled ?rc_scaled ?rk_scaled fun _ _ _ _ _ _ us hl => match us, hl with | [_, _], _ => rfl) (R_subtracted := K11.rf_mk KX G ?ra_subtracted ?rl_subtracted ?rc_subtracted ?rk_subtracted fun _ _ _ _ _ _ us hl => match us, hl with | [_, _], _ => rfl) (R_poly_minus := K11.rf_mk KX G ?ra_poly_minus ?rl_poly_minus ?rc_poly_minus ?rk_poly_minus fun _ _ _ _ _ _ us hl => match us, hl with | [_, _], _ => rfl) (R__law_product := K11.rf_mk KX G ?ra__law_product ?rl__law_product ?rc__law_product ?rk__law_product fun _ _ _ _ _ _ us hl => match us, hl with | [_, _], _ => rfl) (R_multiplied := K11.rf_mk KX G ?ra_multiplied ?rl_multiplied ?rc_multiplied ?rk_multiplied fun _ _ _ _ _ _ us hl => match us, hl with | [_, _], _ => rfl) (R_want_at_most := K11.rf_mk KX G ?ra_want_at_most ?rl_want_at_most ?rc_want_at_most ?rk_want_at_most fun _ _ _ _ _ _ us hl => match us, hl with | [_, _, _], _ => rfl) (R_poly_times := K11.rf_mk KX G ?ra_poly_times ?rl_poly_times ?rc_poly_times ?rk_poly_times fun _ _ _ _ _ _ us hl => match us, hl with | [_, _], _ => rfl) (R_slope_of := K11.rf_mk KX G ?ra_slope_of ?rl_slope_of ?rc_slope_of ?rk_slope_of fun _ _ _ _ _ _ us hl => match us, hl with | [_], _ => rfl) (R_poly_slope := K11.rf_mk KX G ?ra_poly_slope ?rl_poly_slope ?rc_poly_slope ?rk_poly_slope fun _ _ _ _ _ _ us hl => match us, hl with | [_], _ => rfl) (R_is_ratio := K11.rf_mk KX G ?ra_is_ratio ?rl_is_ratio ?rc_is_ratio ?rk_is_ratio fun _ _ _ _ _ _ us hl => match us, hl with | [_], _ => rfl) (R_want_ratio := K11.rf_mk KX G ?ra_want_ratio ?rl_want_ratio ?rc_want_ratio ?rk_want_ratio fun _ _ _ _ _ _ us hl => match us, hl with | [_], _ => rfl) (R_bare_ratio := K11.rf_mk KX G ?ra_bare_ratio ?rl_bare_ratio ?rc_bare_ratio ?rk_bare_ratio fun _ _ _ _ _ _ us hl => match us, hl with | [_, _], _ => rfl) (R_worth_of := K11.rf_mk KX G ?ra_worth_of ?rl_worth_of ?rc_worth_of ?rk_worth_of fun _ _ _ _ _ _ us hl => match us, hl with | [_, _, _], _ => rfl) (R_poly_worth := K11.rf_mk KX G ?ra_poly_worth ?rl_poly_worth ?rc_poly_worth ?rk_poly_worth fun _ _ _ _ _ _ us hl => match us, hl with | [_, _], _ => rfl) (R__law_told := K11.rf_mk KX G ?ra__law_told ?rl__law_told ?rc__law_told ?rk__law_told fun _ _ _ _ _ _ us hl => match us, hl with | [_, _, _], _ => rfl) (R__law_raised := K11.rf_mk KX G ?ra__law_raised ?rl__law_raised ?rc__law_raised ?rk__law_raised fun _ _ _ _ _ _ us hl => match us, hl with | [_, _, _], _ => rfl) (R__law_power := K11.rf_mk KX G ?ra__law_power ?rl__law_power ?rc__law_power ?rk__law_power fun _ _ _ _ _ _ us hl => match us, hl with | [_, _], _ => rfl) (R__law_worth := K11.rf_mk KX G ?ra__law_worth ?rl__law_worth ?rc__law_worth ?rk__law_worth fun _ _ _ _ _ _ us hl => match us, hl with | [_, _, _], _ => rfl) (R__law_two_right := K11.rf_mk KX G ?ra__law_two_right ?rl__law_two_right ?rc__law_two_right ?rk__law_two_right fun _ _ _ _ _ _ us hl => match us, hl with | [_, _, _, _], _ => rfl) (R__law_one_right := K11.rf_mk KX G ?ra__law_one_right ?rl__law_one_right ?rc__law_one_right ?rk__law_one_right fun _ _ _ _ _ _ us hl => match us, hl with | [_], _ => rfl) (R__law_odd := K11.rf_mk KX G ?ra__law_odd ?rl__law_odd ?rc__law_odd ?rk__law_odd fun _ _ _ _ _ _ us hl => match us, hl with | [], _ => rfl) (R__law_refusals_right := K11.rf_mk KX G ?ra__law_refusals_right ?rl__law_refusals_right ?rc__law_refusals_right ?rk__law_refusals_right fun _ _ _ _ _ _ us hl => match us, hl with | [_, _], _ => rfl) (R_law := K11.rf_mk KX G ?ra_law ?rl_law ?rc_law ?rk_law fun _ _ _ _ _ _ us hl => match us, hl with | [_], _ => rfl)
    (case a_PaceError => first | k_is | k_exc | rfl)
    (case a_LimitError => first | k_is | k_exc | rfl)
    (case a_InvalidRatio => first | k_is | k_exc | rfl)
    (case a_InvalidPolynomial => first | k_is | k_exc | rfl)
    (case a_TooMany => first | k_is | k_exc | rfl)
    (case n_abs => first | k_is | k_exc | rfl)
    (case n_all => first | k_is | k_exc | rfl)
    (case n_bool => first | k_is | k_exc | rfl)
    (case n_divmod => first | k_is | k_exc | rfl)
    (case n_enumerate => first | k_is | k_exc | rfl)
    (case n_int => first | k_is | k_exc | rfl)
    (case n_isinstance => first | k_is | k_exc | rfl)
    (case n_len => first | k_is | k_exc | rfl)
    (case n_list => first | k_is | k_exc | rfl)
    (case n_max => first | k_is | k_exc | rfl)
    (case n_range => first | k_is | k_exc | rfl)
    (case n_repr => first | k_is | k_exc | rfl)
    (case n_reversed => first | k_is | k_exc | rfl)
    (case n_sum => first | k_is | k_exc | rfl)
    (case n_tuple => first | k_is | k_exc | rfl)
    (case n_zip => first | k_is | k_exc | rfl)
    (case m_gcd => first | k_is | k_exc | rfl)
    (case kk_MOST_DEGREE => first | k_is | k_exc | rfl)
    (case kk_MOST_SIZE => first | k_is | k_exc | rfl)
    (case x_InvalidRatio => first | k_is | k_exc | rfl)
    (case sa_InvalidRatio => first | k_is | k_exc | rfl)
    (case nv_InvalidRatio => first | k_is | k_exc | rfl)
    (case in_InvalidRatio => first | k_is | k_exc | rfl)
    (case x_InvalidPolynomial => first | k_is | k_exc | rfl)
    (case sa_InvalidPolynomial => first | k_is | k_exc | rfl)
    (case nv_InvalidPolynomial => first | k_is | k_exc | rfl)
    (case in_InvalidPolynomial => first | k_is | k_exc | rfl)
    (case x_TooMany => first | k_is | k_exc | rfl)
    (case sa_TooMany => first | k_is | k_exc | rfl)
    (case nw_TooMany => first | k_is | k_exc | rfl)
    (case nl_TooMany => first | k_is | k_exc | rfl)
    (case in_TooMany => first | k_is | k_exc | rfl)
    (case ga_InvalidRatio => first | k_is | k_exc | rfl)
    (case gg_InvalidRatio => first | k_is | k_exc | rfl)
    (case k_InvalidRatio => first | k_is | k_exc | rfl)
    (case e_InvalidRatio => first | k_is | k_exc | rfl)
    (case t_InvalidRatio => first | k_is | k_exc | rfl)
    (case hd_InvalidRatio => first | k_is | k_exc | rfl)
    (case ga_InvalidPolynomial => first | k_is | k_exc | rfl)
    (case gg_InvalidPolynomial => first | k_is | k_exc | rfl)
    (case k_InvalidPolynomial => first | k_is | k_exc | rfl)
    (case e_InvalidPolynomial => first | k_is | k_exc | rfl)
    (case t_InvalidPolynomial => first | k_is | k_exc | rfl)
    (case hd_InvalidPolynomial => first | k_is | k_exc | rfl)
    (case ga_TooMany => first | k_is | k_exc | rfl)
    (case gg_TooMany => first | k_is | k_exc | rfl)
    (case k_TooMany => first | k_is | k_exc | rfl)
    (case e_TooMany => first | k_is | k_exc | rfl)
    (case t_TooMany => first | k_is | k_exc | rfl)
    (case hd_TooMany => first | k_is | k_exc | rfl)
    (case tI => first | k_is | k_exc | rfl)
    (case lI => first | k_is | k_exc | rfl)
    (case cI => first | k_is | k_exc | rfl)
    (case lT => first | k_is | k_exc | rfl)
    (case tJ => first | k_is | k_exc | rfl)
    (case lJ => first | k_is | k_exc | rfl)
    (case cJ => first | k_is | k_exc | rfl)
    (case ic_InvalidPolynomial => first | k_is | k_exc | rfl)
    (case ha_InvalidPolynomial => first | k_is | k_exc | rfl)
    (case hm_InvalidPolynomial => first | k_is | k_exc | rfl)
    (case ic_InvalidRatio => first | k_is | k_exc | rfl)
    (case ha_InvalidRatio => first | k_is | k_exc | rfl)
    (case hm_InvalidRatio => first | k_is | k_exc | rfl)
    (case ic_TooMany => first | k_is | k_exc | rfl)
    (case ha_TooMany => first | k_is | k_exc | rfl)
    (case hm_TooMany => first | k_is | k_exc | rfl)
    (case hn => first | k_is | k_exc | rfl)
    (case ht => first | k_is | k_exc | rfl)
    (case i_InvalidPolynomial_PaceError => first | k_is | k_exc | rfl)
    (case i_InvalidRatio_PaceError => first | k_is | k_exc | rfl)
    (case s_TooMany_InvalidPolynomial => first | k_is | k_exc | rfl)
    (case s_InvalidRatio_InvalidPolynomial => first | k_is | k_exc | rfl)
    (case s_InvalidPolynomial_InvalidPolynomial => first | k_is | k_exc | rfl)
    (case s_TooMany_InvalidRatio => first | k_is | k_exc | rfl)
    (case s_InvalidRatio_InvalidRatio => first | k_is | k_exc | rfl)
    (case s_InvalidPolynomial_InvalidRatio => first | k_is | k_exc | rfl)
    (case s_TooMany_TooMany => first | k_is | k_exc | rfl)
    (case s_InvalidRatio_TooMany => first | k_is | k_exc | rfl)
    (case s_InvalidPolynomial_TooMany => first | k_is | k_exc | rfl)
    (case ra__law_pot => k_is); (case rl__law_pot => k_is); (case rc__law_pot => k_is); (case rk__law_pot => k_is)
    (case ra__law_draw => k_is); (case rl__law_draw => k_is); (case rc__law_draw => k_is); (case rk__law_draw => k_is)
    (case ra__law_poly => k_is); (case rl__law_poly => k_is); (case rc__law_poly => k_is); (case rk__law_poly => k_is)
    (case ra__law_is => k_is); (case rl__law_is => k_is); (case rc__law_is => k_is); (case rk__law_is => k_is)
    (case ra__law_cut => k_is); (case rl__law_cut => k_is); (case rc__law_cut => k_is); (case rk__law_cut => k_is)
    (case ra__law_at => k_is); (case rl__law_at => k_is); (case rc__law_at => k_is); (case rk__law_at => k_is)
    (case ra__law_sum => k_is); (case rl__law_sum => k_is); (case rc__law_sum => k_is); (case rk__law_sum => k_is)
    (case ra_trimmed => k_is); (case rl_trimmed => k_is); (case rc_trimmed => k_is); (case rk_trimmed => k_is)
    (case ra_added => k_is); (case rl_added => k_is); (case rc_added => k_is); (case rk_added => k_is)
    (case ra_is_integer => k_is); (case rl_is_integer => k_is); (case rc_is_integer => k_is); (case rk_is_integer => k_is)
    (case ra_is_polynomial => k_is); (case rl_is_polynomial => k_is); (case rc_is_polynomial => k_is); (case rk_is_polynomial => k_is)
    (case ra_want_polynomial => k_is); (case rl_want_polynomial => k_is); (case rc_want_polynomial => k_is); (case rk_want_polynomial => k_is)
    (case ra_poly_plus => k_is); (case rl_poly_plus => k_is); (case rc_poly_plus => k_is); (case rk_poly_plus => k_is)
    (case ra_scaled => k_is); (case rl_scaled => k_is); (case rc_scaled => k_is); (case rk_scaled => k_is)
    (case ra_subtracted => k_is); (case rl_subtracted => k_is); (case rc_subtracted => k_is); (case rk_subtracted => k_is)
    (case ra_poly_minus => k_is); (case rl_poly_minus => k_is); (case rc_poly_minus => k_is); (case rk_poly_minus => k_is)
    (case ra__law_product => k_is); (case rl__law_product => k_is); (case rc__law_product => k_is); (case rk__law_product => k_is)
    (case ra_multiplied => k_is); (case rl_multiplied => k_is); (case rc_multiplied => k_is); (case rk_multiplied => k_is)
    (case ra_want_at_most => k_is); (case rl_want_at_most => k_is); (case rc_want_at_most => k_is); (case rk_want_at_most => k_is)
    (case ra_poly_times => k_is); (case rl_poly_times => k_is); (case rc_poly_times => k_is); (case rk_poly_times => k_is)
    (case ra_slope_of => k_is); (case rl_slope_of => k_is); (case rc_slope_of => k_is); (case rk_slope_of => k_is)
    (case ra_poly_slope => k_is); (case rl_poly_slope => k_is); (case rc_poly_slope => k_is); (case rk_poly_slope => k_is)
    (case ra_is_ratio => k_is); (case rl_is_ratio => k_is); (case rc_is_ratio => k_is); (case rk_is_ratio => k_is)
    (case ra_want_ratio => k_is); (case rl_want_ratio => k_is); (case rc_want_ratio => k_is); (case rk_want_ratio => k_is)
    (case ra_bare_ratio => k_is); (case rl_bare_ratio => k_is); (case rc_bare_ratio => k_is); (case rk_bare_ratio => k_is)
    (case ra_worth_of => k_is); (case rl_worth_of => k_is); (case rc_worth_of => k_is); (case rk_worth_of => k_is)
    (case ra_poly_worth => k_is); (case rl_poly_worth => k_is); (case rc_poly_worth => k_is); (case rk_poly_worth => k_is)
    (case ra__law_told => k_is); (case rl__law_told => k_is); (case rc__law_told => k_is); (case rk__law_told => k_is)
    (case ra__law_raised => k_is); (case rl__law_raised => k_is); (case rc__law_raised => k_is); (case rk__law_raised => k_is)
    (case ra__law_power => k_is); (case rl__law_power => k_is); (case rc__law_power => k_is); (case rk__law_power => k_is)
    (case ra__law_worth => k_is); (case rl__law_worth => k_is); (case rc__law_worth => k_is); (case rk__law_worth => k_is)
    (case ra__law_two_right => k_is); (case rl__law_two_right => k_is); (case rc__law_two_right => k_is); (case rk__law_two_right => k_is)
    (case ra__law_one_right => k_is); (case rl__law_one_right => k_is); (case rc__law_one_right => k_is); (case rk__law_one_right => k_is)
    (case ra__law_odd => k_is); (case rl__law_odd => k_is); (case rc__law_odd => k_is); (case rk__law_odd => k_is)
    (case ra__law_refusals_right => k_is); (case rl__law_refusals_right => k_is); (case rc__law_refusals_right => k_is); (case rk__law_refusals_right => k_is)
    (case ra_law => k_is); (case rl_law => k_is); (case rc_law => k_is); (case rk_law => k_is)
