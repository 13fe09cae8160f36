import PyProof.Rows.All
import Wide.All
import OpenK.AllK
import Wide.FinOn
import HandS.ForMost
import HandS.More
import HandS.Codes
import HandS.Star
import HandS.TupAny
import HandS.IsInst
import HandS.StrMore
import HandS.Defaults
import HandS.Walk
import PyProof.Draws
import HandS.HeadHook1
import HandS.HeadHook2
import HandS.HeadHook3
import HandS.Words
import KE.KDictKeyed
import KE.KeyNested
import PyProof.NeKinds
import PySem.Challenge.RW_replinput_k34_whole_differences_judged
import PyProof.Rows.SeqMore
import KE.KStateDown
import HandS.Head0
import HandS.Head1
import HandS.Head2
import HandS.HeadEnd
set_option Elab.async false
set_option linter.all false
set_option maxRecDepth 100000
set_option maxHeartbeats 1000000
namespace Rp
noncomputable section
open PySem L2 SX
/-! ### quick forms for the kernel -/
def cnd {α : Sort _} (b : Bool) (x y : α) : α := @Bool.rec (fun _ => α) y x b
theorem cnd_eq {α : Type _} (b : Bool) (x y : α) : cnd b x y = cond b x y := by cases b <;> rfl
/-! ### plain data -/
inductive D where
  | non | bl (b : Bool) | int (i : Int) | str (s : List Nat) | tup (xs : List D) | tupx (xs : List D) | lst (xs : List D) | lstx (xs : List D) | st (lv gl fr ph tk : D) | dic (kvs : List (List Nat × D))

/-- the fields of a State -/
def flds (l g f p t : V) : List (Str × V) := [("levels", l), ("goal", g), ("frames", f), ("phase", p), ("token", t)]
def okS (s : List Nat) : Bool := s.all (· < 0x110000) && Nat.ble s.length 4096
/-- what may stand within data -/
def dat1 : D → Bool
  | .st .. => false
  | .dic _ => false
  | .tupx _ => false
  | .lstx _ => false
  | .lst _ => false
  | _ => true
/-- what may be compared -/
def datE : D → Bool
  | .lst _ => true
  | d => dat1 d
theorem datE_of {d : D} (h : dat1 d = true) : datE d = true := by cases d <;> first | exact h | rfl
/-- a dict with text keys that stands -/
def DicAt (H : Hp) (a : Addr) (kvs : List (Str × V)) : Prop := H a = some (.dK (kvs.map fun p => (Sum.inr p.1, p.2)))
structure Cw where
  C : Addr
  K : PySem.W.Frag
  w : World
mutual
def Rep (c : Cw) (H : Hp) : D → V → Prop
  | .non, v => v = .non
  | .bl b, v => v = .bl b
  | .int i, v => v = .int i
  | .str s, v => v = .str (S s) ∧ okS s = true
  | .tup ds, v => ∃ a vs, v = .ref a ∧ SqT c.K H a vs ∧ RepL c H ds vs ∧ ds.all dat1 = true
  | .tupx ds, v => ∃ a vs, v = .ref a ∧ SqT c.K H a vs ∧ RepL c H ds vs
  | .lst ds, v => ∃ a vs, v = .ref a ∧ H a = some (.lst vs) ∧ RepL c H ds vs ∧ ds.all dat1 = true
  | .lstx ds, v => ∃ a vs, v = .ref a ∧ H a = some (.lst vs) ∧ RepL c H ds vs
  | .st l g f p t, v => ∃ a dx vl vg vf vp vt, v = .ref a ∧ H a = some (.ins c.C dx (flds vl vg vf vp vt)) ∧ Rep c H l vl ∧ Rep c H g vg ∧ Rep c H f vf ∧ Rep c H p vp ∧ Rep c H t vt
  | .dic kvs, v => ∃ a ws, v = .ref a ∧ DicAt H a ws ∧ RepK c H kvs ws
def RepL (c : Cw) (H : Hp) : List D → List V → Prop
  | [], vs => vs = []
  | d :: ds, vs => ∃ v r, vs = v :: r ∧ Rep c H d v ∧ RepL c H ds r
def RepK (c : Cw) (H : Hp) : List (List Nat × D) → List (Str × V) → Prop
  | [], vs => vs = []
  | (k, d) :: ds, vs => ∃ v r, vs = (S k, v) :: r ∧ Rep c H d v ∧ RepK c H ds r
end
theorem SqT.same {K : PySem.W.Frag} {H H' : Hp} {a : Addr} {xs : List V} (e : Same H H') (h : SqT K H a xs) : SqT K H' a xs := by
  rcases h with (h | ⟨o, h⟩) | h
  · exact .inl (.inl (e _ _ h))
  · exact .inl (.inr ⟨o, e _ _ h⟩)
  · exact .inr h
mutual
theorem Rep.same {c : Cw} {H H' : Hp} (e : Same H H') : ∀ (d : D) {v : V}, Rep c H d v → Rep c H' d v
  | .non, v, h => h
  | .bl b, v, h => h
  | .int i, v, h => h
  | .str s, v, h => h
  | .tup ds, v, h => by
    obtain ⟨a, vs, h1, h2, h3, h4⟩ := h
    exact ⟨a, vs, h1, SqT.same e h2, RepL.same e ds h3, h4⟩
  | .tupx ds, v, h => by
    obtain ⟨a, vs, h1, h2, h3⟩ := h
    exact ⟨a, vs, h1, SqT.same e h2, RepL.same e ds h3⟩
  | .lst ds, v, h => by
    obtain ⟨a, vs, h1, h2, h3, h4⟩ := h
    exact ⟨a, vs, h1, e _ _ h2, RepL.same e ds h3, h4⟩
  | .lstx ds, v, h => by
    obtain ⟨a, vs, h1, h2, h3⟩ := h
    exact ⟨a, vs, h1, e _ _ h2, RepL.same e ds h3⟩
  | .st l g f p t, v, h => by
    obtain ⟨a, dx, vl, vg, vf, vp, vt, h1, h2, h3, h4, h5, h6, h7⟩ := h
    exact ⟨a, dx, vl, vg, vf, vp, vt, h1, e _ _ h2, Rep.same e l h3, Rep.same e g h4, Rep.same e f h5, Rep.same e p h6, Rep.same e t h7⟩
  | .dic kvs, v, h => by
    obtain ⟨a, vs, h1, h2, h3⟩ := h
    exact ⟨a, vs, h1, e _ _ h2, RepK.same e kvs h3⟩
theorem RepL.same {c : Cw} {H H' : Hp} (e : Same H H') : ∀ (d : List D) {v : List V}, RepL c H d v → RepL c H' d v
  | [], v, h => h
  | d :: ds, v, h => by
    obtain ⟨x, r, h1, h2, h3⟩ := h
    exact ⟨x, r, h1, Rep.same e d h2, RepL.same e ds h3⟩
theorem RepK.same {c : Cw} {H H' : Hp} (e : Same H H') : ∀ (d : List (List Nat × D)) {v : List (Str × V)}, RepK c H d v → RepK c H' d v
  | [], v, h => h
  | (k, d) :: ds, v, h => by
    obtain ⟨x, r, h1, h2, h3⟩ := h
    exact ⟨x, r, h1, Rep.same e d h2, RepK.same e ds h3⟩
end
/-! ### lists of data -/
section
variable {c : Cw} {H : Hp}
theorem RepL.length : ∀ {ds : List D} {vs : List V}, RepL c H ds vs → vs.length = ds.length
  | [], _, h => by rw [show _ = _ from h]; rfl
  | d :: ds, _, h => by
    obtain ⟨x, r, h1, h2, h3⟩ := h
    rw [h1, List.length_cons, List.length_cons, RepL.length h3]
theorem RepL.get : ∀ {ds : List D} {vs : List V} {i : Nat} {d : D}, RepL c H ds vs → ds[i]? = some d → ∃ v, vs[i]? = some v ∧ Rep c H d v
  | [], _, i, d, h, e => by simp at e
  | x :: ds, _, 0, d, h, e => by
    obtain ⟨v, r, h1, h2, h3⟩ := h
    simp at e
    exact ⟨v, by rw [h1]; rfl, e ▸ h2⟩
  | x :: ds, _, i + 1, d, h, e => by
    obtain ⟨v, r, h1, h2, h3⟩ := h
    obtain ⟨v2, e2, r2⟩ := RepL.get (i := i) h3 (by simpa using e)
    exact ⟨v2, by rw [h1]; simpa using e2, r2⟩
theorem RepL.append : ∀ {ds es : List D} {vs ws : List V}, RepL c H ds vs → RepL c H es ws → RepL c H (ds ++ es) (vs ++ ws)
  | [], _, _, _, h, g => by rw [show _ = _ from h]; exact g
  | x :: ds, _, _, _, h, g => by
    obtain ⟨v, r, h1, h2, h3⟩ := h
    subst h1
    exact ⟨v, _, rfl, h2, RepL.append h3 g⟩
theorem RepL.take : ∀ (n : Nat) {ds : List D} {vs : List V}, RepL c H ds vs → RepL c H (ds.take n) (vs.take n)
  | 0, ds, vs, h => by rw [List.take_zero, List.take_zero]; rfl
  | n + 1, [], _, h => by rw [show _ = _ from h]; rfl
  | n + 1, x :: ds, _, h => by
    obtain ⟨v, r, h1, h2, h3⟩ := h
    subst h1
    exact ⟨v, _, rfl, h2, RepL.take n h3⟩
theorem RepL.drop : ∀ (n : Nat) {ds : List D} {vs : List V}, RepL c H ds vs → RepL c H (ds.drop n) (vs.drop n)
  | 0, ds, vs, h => h
  | n + 1, [], _, h => by rw [show _ = _ from h]; rfl
  | n + 1, x :: ds, _, h => by
    obtain ⟨v, r, h1, h2, h3⟩ := h
    subst h1
    exact RepL.drop n h3
end
/-! ### equality of data -/
def toPyS (s : List Nat) : PyData := .str (S s)
mutual
def toPy : D → PyData
  | .non => .none
  | .bl b => .bool b
  | .int i => .int i
  | .str s => .str (S s)
  | .tup ds => .tuple (toPyL ds)
  | .tupx _ => .dict []
  | .lstx _ => .dict []
  | .lst ds => .list (toPyL ds)
  | .st .. => .dict []
  | .dic _ => .dict []
def toPyL : List D → List PyData
  | [] => []
  | d :: ds => toPy d :: toPyL ds
end
mutual
theorem Rep.dp {c : Cw} {H : Hp} : ∀ (d : D) {v : V}, datE d = true → Rep c H d v → Dp c.K H v (toPy d)
  | .non, v, _, h => by rw [show v = _ from h]; exact .non
  | .bl b, v, _, h => by rw [show v = _ from h]; exact .bl b
  | .int i, v, _, h => by rw [show v = _ from h]; exact .int i
  | .str s, v, _, h => by rw [show v = _ from h.1]; exact .str _
  | .tup ds, v, _, h => by
    obtain ⟨a, vs, h1, h2, h3, h4⟩ := h
    subst h1
    exact .tup h2 (RepL.dp ds h4 h3)
  | .lst ds, v, _, h => by
    obtain ⟨a, vs, h1, h2, h3, h4⟩ := h
    subst h1
    exact .lst (SqL.of h2) (RepL.dp ds h4 h3)
  | .tupx _, v, e, _ => by cases e
  | .lstx _, v, e, _ => by cases e
  | .st .., v, e, _ => by cases e
  | .dic _, v, e, _ => by cases e
theorem RepL.dp {c : Cw} {H : Hp} : ∀ (d : List D) {v : List V}, d.all dat1 = true → RepL c H d v → DpAll c.K H v (toPyL d)
  | [], v, _, h => by rw [show v = _ from h]; exact .nil
  | d :: ds, v, e, h => by
    obtain ⟨x, r, h1, h2, h3⟩ := h
    subst h1
    have e2 : (dat1 d && ds.all dat1) = true := e
    obtain ⟨e3, e4⟩ := Bool.and_eq_true_iff.mp e2
    exact .cons (Rep.dp d (datE_of e3) h2) (RepL.dp ds e4 h3)
end
theorem okS_str {s : List Nat} (h : okS s = true) : PyData.strOk (S s) = true := by
  have h1 := (Bool.and_eq_true_iff.mp h).1
  show s.toArray.all _ = true
  rw [← Array.all_toList]
  exact h1
mutual
theorem Rep.can {c : Cw} {H : Hp} : ∀ (d : D) {v : V}, datE d = true → Rep c H d v → (toPy d).canLay0 = true
  | .non, v, _, h => by simp only [toPy, PyData.canLay0]
  | .bl b, v, _, h => by simp only [toPy, PyData.canLay0]
  | .int i, v, _, h => by simp only [toPy, PyData.canLay0]
  | .str s, v, _, h => by
    simp only [toPy, PyData.canLay0]
    exact okS_str h.2
  | .tup ds, v, _, h => by
    obtain ⟨a, vs, h1, h2, h3, h4⟩ := h
    simp only [toPy, PyData.canLay0]
    exact RepL.can ds h4 h3
  | .lst ds, v, _, h => by
    obtain ⟨a, vs, h1, h2, h3, h4⟩ := h
    simp only [toPy, PyData.canLay0]
    exact RepL.can ds h4 h3
  | .tupx _, v, e, _ => by cases e
  | .lstx _, v, e, _ => by cases e
  | .st .., v, e, _ => by cases e
  | .dic _, v, e, _ => by cases e
theorem RepL.can {c : Cw} {H : Hp} : ∀ (d : List D) {v : List V}, d.all dat1 = true → RepL c H d v → PyData.canLayAll0 (toPyL d) = true
  | [], v, _, h => by simp only [toPyL, PyData.canLayAll0]
  | d :: ds, v, e, h => by
    obtain ⟨x, r, h1, h2, h3⟩ := h
    have e2 : (dat1 d && ds.all dat1) = true := e
    obtain ⟨e3, e4⟩ := Bool.and_eq_true_iff.mp e2
    simp only [toPyL, PyData.canLayAll0, Bool.and_eq_true]
    exact ⟨Rep.can d (datE_of e3) h2, RepL.can ds e4 h3⟩
end
/-- equal lists of codes -/
def beqL (l : List Nat) : List Nat → Bool := @List.rec Nat (fun _ => List Nat → Bool) (fun m => @List.rec Nat (fun _ => Bool) true (fun _ _ _ => false) m)
  (fun a _ ih m => @List.rec Nat (fun _ => Bool) false (fun b m' _ => @Bool.rec (fun _ => Bool) false (ih m') (Nat.beq a b)) m) l
theorem beqL_eq : ∀ a b : List Nat, beqL a b = (a == b)
  | [], [] => rfl
  | [], b :: m => rfl
  | a :: l, [] => rfl
  | a :: l, b :: m => by
    rw [List.cons_beq_cons]
    show cnd (Nat.beq a b) (beqL l m) false = _
    rw [beqL_eq l m]
    have e : Nat.beq a b = (a == b) := by rw [Bool.eq_iff_iff, Nat.beq_eq, beq_iff_eq]
    rw [e]
    cases (a == b) <;> rfl
def beqI (i j : Int) : Bool := @Int.rec (fun _ => Bool) (fun a => @Int.rec (fun _ => Bool) (fun b => Nat.beq a b) (fun _ => false) j) (fun a => @Int.rec (fun _ => Bool) (fun _ => false) (fun b => Nat.beq a b) j) i
theorem beqI_eq (i j : Int) : beqI i j = (i == j) := by
  rw [Bool.eq_iff_iff, beq_iff_eq]
  cases i with
  | ofNat a =>
    cases j with
    | ofNat b => show Nat.beq a b = true ↔ _; rw [Nat.beq_eq]; exact ⟨fun h => congrArg _ h, fun h => Int.ofNat.inj h⟩
    | negSucc b => exact ⟨fun h => Bool.noConfusion h, fun h => Int.noConfusion h⟩
  | negSucc a =>
    cases j with
    | ofNat b => exact ⟨fun h => Bool.noConfusion h, fun h => Int.noConfusion h⟩
    | negSucc b => show Nat.beq a b = true ↔ _; rw [Nat.beq_eq]; exact ⟨fun h => congrArg _ h, fun h => Int.negSucc.inj h⟩
theorem cnd01 (a : Bool) : (cnd a (1 : Int) 0) = (if a then 1 else 0) := by cases a <;> rfl
mutual
def eqD : D → D → Bool
  | .non, e => (match e with
    | .non => true
    | _ => false)
  | .bl a, e => (match e with
    | .bl b => a == b
    | .int j => beqI (cnd a 1 0) j
    | _ => false)
  | .int i, e => (match e with
    | .int j => beqI i j
    | .bl b => beqI i (cnd b 1 0)
    | _ => false)
  | .str a, e => (match e with
    | .str b => beqL a b
    | _ => false)
  | .tup xs, e => (match e with
    | .tup ys => eqDs xs ys
    | _ => false)
  | .lst xs, e => (match e with
    | .lst ys => eqDs xs ys
    | _ => false)
  | .tupx _, _ => false
  | .lstx _, _ => false
  | .st .., _ => false
  | .dic _, _ => false
def eqDs : List D → List D → Bool
  | [], ys => (match ys with
    | [] => true
    | _ => false)
  | x :: xs, ys => (match ys with
    | y :: zs => cnd (eqD x y) (eqDs xs zs) false
    | [] => false)
end
theorem S_beq' (a b : List Nat) : (S a == S b) = beqL a b := by rw [S_beq, beqL_eq]
mutual
theorem eqD_py : ∀ d e : D, eqD d e = PyData.eqv (toPy d) (toPy e)
  | .non, e => by cases e <;> simp only [eqD, toPy, PyData.eqv, beqI_eq, cnd01]
  | .bl a, e => by cases e <;> simp only [eqD, toPy, PyData.eqv, beqI_eq, cnd01]
  | .int a, e => by cases e <;> simp only [eqD, toPy, PyData.eqv, beqI_eq, cnd01]
  | .str a, e => by cases e <;> simp only [eqD, toPy, PyData.eqv, S_beq']
  | .tup a, e => by
    cases e <;> simp only [eqD, toPy, PyData.eqv, beqI_eq, cnd01]
    exact eqDs_py _ _
  | .lst a, e => by
    cases e <;> simp only [eqD, toPy, PyData.eqv, beqI_eq, cnd01]
    exact eqDs_py _ _
  | .tupx a, e => by cases e <;> simp only [eqD, toPy, PyData.eqv, beqI_eq, cnd01]
  | .lstx a, e => by cases e <;> simp only [eqD, toPy, PyData.eqv, beqI_eq, cnd01]
  | .st .., e => by cases e <;> simp only [eqD, toPy, PyData.eqv, beqI_eq, cnd01]
  | .dic _, e => by cases e <;> simp only [eqD, toPy, PyData.eqv, beqI_eq, cnd01]
theorem eqDs_py : ∀ d e : List D, eqDs d e = PyData.eqvAll (toPyL d) (toPyL e)
  | [], e => by cases e <;> simp only [eqDs, toPyL, PyData.eqvAll]
  | x :: xs, e => by
    cases e with
    | nil => simp only [eqDs, toPyL, PyData.eqvAll]
    | cons y ys =>
      simp only [eqDs, toPyL, PyData.eqvAll]
      rw [← eqD_py x y, ← eqDs_py xs ys]
      cases eqD x y <;> rfl
end
mutual
/-- no deeper than n -/
def dpLe : D → Nat → Bool
  | .tup ds, n => (match n with
    | 0 => false
    | m + 1 => dpLeL ds m)
  | .lst ds, n => (match n with
    | 0 => false
    | m + 1 => dpLeL ds m)
  | .tupx _, _ => false
  | .lstx _, _ => false
  | .st .., _ => false
  | .dic _, _ => false
  | _, _ => true
def dpLeL : List D → Nat → Bool
  | [], _ => true
  | d :: ds, n => cnd (dpLe d n) (dpLeL ds n) false
end
mutual
theorem dpLe_py : ∀ (d : D) (n : Nat), dpLe d n = true → (toPy d).depth ≤ n
  | .non, n, _ => by simp only [toPy, PyData.depth]; omega
  | .bl _, n, _ => by simp only [toPy, PyData.depth]; omega
  | .int _, n, _ => by simp only [toPy, PyData.depth]; omega
  | .str _, n, _ => by simp only [toPy, PyData.depth]; omega
  | .tup ds, n, h => by
    cases n with
    | zero => simp [dpLe] at h
    | succ m =>
      simp only [dpLe] at h
      simp only [toPy, PyData.depth]
      have := dpLeL_py ds m h
      omega
  | .lst ds, n, h => by
    cases n with
    | zero => simp [dpLe] at h
    | succ m =>
      simp only [dpLe] at h
      simp only [toPy, PyData.depth]
      have := dpLeL_py ds m h
      omega
  | .tupx _, n, h => by simp [dpLe] at h
  | .lstx _, n, h => by simp [dpLe] at h
  | .st .., n, h => by simp [dpLe] at h
  | .dic _, n, h => by simp [dpLe] at h
theorem dpLeL_py : ∀ (d : List D) (n : Nat), dpLeL d n = true → PyData.depthAll (toPyL d) ≤ n
  | [], n, _ => by simp only [toPyL, PyData.depthAll]; omega
  | d :: ds, n, h => by
    simp only [dpLeL] at h
    have h1 : dpLe d n = true := by
      cases q : dpLe d n with
      | true => rfl
      | false => rw [q] at h; exact absurd h Bool.false_ne_true
    rw [h1] at h
    simp only [toPyL, PyData.depthAll]
    have a := dpLe_py d n h1
    have b := dpLeL_py ds n h
    omega
end
end
end Rp
set_option Elab.async false
set_option linter.all false
set_option maxRecDepth 100000
set_option maxHeartbeats 1000000
namespace Rp
noncomputable section
open PySem PySem.Spec PyProof.Rows L2 SX
/-! ### slots of data -/
abbrev Rho := List (Option D)
abbrev RE := Rho → Option D
abbrev RT := Rho → Option Bool
abbrev RA := Rho → Option (List D)
abbrev cw (C : Addr) (X : Cx) : Cw := ⟨C, X.K, X.w⟩
def SRep (c : Cw) (H : Hp) (σ : L2.St) (ρ : Rho) : Prop := σ.length = ρ.length ∧ ∀ (i : Nat) (d : D), ρ[i]? = some (some d) → ∃ v, σ[i]? = some (some v) ∧ Rep c H d v
theorem SRep.same {c : Cw} {H H' : Hp} {σ : L2.St} {ρ : Rho} (e : Same H H') (h : SRep c H σ ρ) : SRep c H' σ ρ :=
  ⟨h.1, fun i d q => let ⟨v, a, b⟩ := h.2 i d q; ⟨v, a, b.same e⟩⟩
theorem SRep.set {c : Cw} {H : Hp} {σ : L2.St} {ρ : Rho} {d : D} {v : V} (i : Nat) (h : SRep c H σ ρ) (r : Rep c H d v) : SRep c H (σ.set i (some v)) (ρ.set i (some d)) := by
  refine ⟨by simpa using h.1, fun j e q => ?_⟩
  by_cases hj : j = i
  · subst hj
    have hl : j < ρ.length := by
      have := (List.getElem?_eq_some_iff.mp q).1
      simpa using this
    rw [List.getElem?_set_self hl] at q
    cases q
    exact ⟨v, List.getElem?_set_self (by rw [h.1]; exact hl), r⟩
  · rw [List.getElem?_set_ne (Ne.symm hj)] at q
    obtain ⟨v2, a, b⟩ := h.2 j e q
    exact ⟨v2, by rw [List.getElem?_set_ne (Ne.symm hj)]; exact a, b⟩
/-- slots forgotten -/
def forget (ρ : Rho) : List Nat → Rho
  | [] => ρ
  | i :: r => forget (ρ.set i none) r
/-- what is wanted of every value that is d, in every heap that has more -/
def Wt (c : Cw) (H : Hp) (d : D) (Q : VK) : Prop := ∀ v H', Same H H' → Rep c H' d v → Q v H'
theorem Wt.mono {c : Cw} {H H' : Hp} {d : D} {Q : VK} (e : Same H H') (h : Wt c H d Q) : Wt c H' d Q := fun v H2 e2 r => h v H2 (e.trans e2) r
def PX (C : Addr) (X : Cx) (e : Expr) (f : RE) : Prop :=
  ∃ t, PE X e t ∧ ∀ σ H ρ d (Q : VK), SRep (cw C X) H σ ρ → f ρ = some d → Wt (cw C X) H d Q → t σ H Q
def TX (C : Addr) (X : Cx) (e : Expr) (f : RT) : Prop :=
  ∃ t, PT X e t ∧ ∀ σ H ρ b (Q : Bool → Hp → Prop), SRep (cw C X) H σ ρ → f ρ = some b → (∀ H', Same H H' → Q b H') → t σ H Q
def WX (C : Addr) (X : Cx) (e : Expr) (f : RT) : Prop :=
  ∃ t, PW X e t ∧ ∀ σ H ρ b (Q : Bool → Hp → Prop), SRep (cw C X) H σ ρ → f ρ = some b → (∀ H', Same H H' → Q b H') → t σ H Q
def AX (C : Addr) (X : Cx) (es : List Expr) (f : RA) : Prop :=
  ∃ t, PA X es t ∧ ∀ σ H ρ ds (Q : List V → Hp → Prop), SRep (cw C X) H σ ρ → f ρ = some ds → (∀ vs H', Same H H' → RepL (cw C X) H' ds vs → Q vs H') → t σ H Q
section
variable {C : Addr} {X : Cx}
/-! ### names, constants -/
def getR (ρ : Rho) : Nat → Option D := @List.rec (Option D) (fun _ => Nat → Option D) (fun _ => none) (fun x _ ih n => @Nat.rec (fun _ => Option D) x (fun k _ => ih k) n) ρ
theorem getR_some : ∀ {ρ : Rho} {i : Nat} {d : D}, getR ρ i = some d → ρ[i]? = some (some d)
  | [], _, _, h => by cases h
  | x :: _, 0, _, h => by rw [show x = _ from h]; rfl
  | _ :: r, n + 1, _, h => by simpa using getR_some (ρ := r) (i := n) h
def eVar (i : Nat) : RE := fun ρ => getR ρ i
def eC (d : D) : RE := fun _ => some d
theorem px_var {i : Nat} {x : Str} {pos : Pos} (hN : X.N[i]? = some x := by rfl) (hv : Vis X.env.scope x := by first | exact Or.inl rfl | exact Or.inr (Or.inl rfl) | exact Or.inr (Or.inr rfl)) (hd : (x == ("__debug__" : Str)) = false := by decide)
    (hcd : (x == ("__classdict__" : Str)) = false := by decide) : PX C X (.Name x pos) (eVar i) := by
  refine ⟨_, pe_var hN hv hd hcd, fun σ H ρ d Q h e q => ?_⟩
  obtain ⟨v, a, b⟩ := h.2 i d (getR_some e)
  exact ⟨v, a, q v H (Same.refl H) b⟩
theorem px_int {i j pos} : PX C X (.Constant (.int i) j pos) (eC (.int i)) :=
  ⟨_, pe_int, fun σ H ρ d Q h e q => by cases e; exact q _ H (Same.refl H) rfl⟩
theorem px_bl {i j pos} : PX C X (.Constant (.bool i) j pos) (eC (.bl i)) :=
  ⟨_, pe_bl, fun σ H ρ d Q h e q => by cases e; exact q _ H (Same.refl H) rfl⟩
theorem px_non {j pos} : PX C X (.Constant .none j pos) (eC .non) :=
  ⟨_, pe_non, fun σ H ρ d Q h e q => by cases e; exact q _ H (Same.refl H) rfl⟩
theorem px_str {x : Str} {s : List Nat} {j pos} (hx : x = S s) (ok : okS s = true) : PX C X (.Constant (.str x) j pos) (eC (.str s)) :=
  ⟨_, pe_str, fun σ H ρ d Q h e q => by cases e; subst hx; exact q _ H (Same.refl H) ⟨rfl, ok⟩⟩
/-- a module's constant -/
structure GlD (c : Cw) (mg : Str → Option Value) (x : Str) (d : D) : Prop where
  ex : ∃ u v, mg x = some u ∧ RelV v u ∧ ∀ H, Rep c H d v
theorem px_glob {x : Str} {d : D} {pos : Pos} (g : GlD (cw C X) X.mg x d) (hg : Gl X x := by rfl) (hd : (x == ("__debug__" : Str)) = false := by decide) : PX C X (.Name x pos) (eC d) := by
  obtain ⟨u, v, a, b, r⟩ := g.ex
  exact ⟨_, pe_glob hg a b hd, fun σ H ρ d Q h e q => by cases e; exact q _ H (Same.refl H) (r H)⟩
/-! ### operators -/
/-- a two-place operation keeps to F on data -/
def OpD (C : Addr) (X : Cx) (f : Value → Value → Sem Value) (F : D → D → Option D) : Prop :=
  ∃ r, OpR X f r ∧ ∀ H x y vx vy d Q, Rep (cw C X) H x vx → Rep (cw C X) H y vy → F x y = some d → Wt (cw C X) H d Q → r vx vy H Q
def o2 (F : D → D → Option D) (f g : RE) : RE := fun ρ => match f ρ with
  | some x => (match g ρ with
    | some y => F x y
    | none => none)
  | none => none
theorem o2_some {F : D → D → Option D} {f g : RE} {ρ : Rho} {d : D} (h : o2 F f g ρ = some d) : ∃ x y, f ρ = some x ∧ g ρ = some y ∧ F x y = some d := by
  unfold o2 at h
  cases e : f ρ with
  | none => rw [e] at h; cases h
  | some x =>
    rw [e] at h
    cases e2 : g ρ with
    | none => rw [e2] at h; cases h
    | some y => rw [e2] at h; exact ⟨x, y, rfl, rfl, h⟩
theorem rd2 {f g : RE} {F : D → D → Option D} {r : R2} (hr : ∀ H x y vx vy d Q, Rep (cw C X) H x vx → Rep (cw C X) H y vy → F x y = some d → Wt (cw C X) H d Q → r vx vy H Q) {ta tb : TE}
    (ra : ∀ σ H ρ d (Q : VK), SRep (cw C X) H σ ρ → f ρ = some d → Wt (cw C X) H d Q → ta σ H Q) (rb : ∀ σ H ρ d (Q : VK), SRep (cw C X) H σ ρ → g ρ = some d → Wt (cw C X) H d Q → tb σ H Q)
    {σ : L2.St} {H : Hp} {ρ : Rho} {d : D} {Q : VK} (h : SRep (cw C X) H σ ρ) (e : o2 F f g ρ = some d) (q : Wt (cw C X) H d Q) : tOp r ta tb σ H Q := by
  obtain ⟨x, y, e1, e2, e3⟩ := o2_some e
  refine ra σ H ρ x _ h e1 fun vx H1 s1 r1 => ?_
  refine rb σ H1 ρ y _ (h.same s1) e2 fun vy H2 s2 r2 => ?_
  exact hr H2 x y vx vy d Q (r1.same s2) r2 e3 (q.mono (s1.trans s2))
theorem px_op {op : Operator} {F : D → D → Option D} {a b : Expr} {f g : RE} {pos : Pos} (ho : OpD C X (binaryOp op) F) (ha : PX C X a f) (hb : PX C X b g) : PX C X (.BinOp a op b pos) (o2 F f g) := by
  obtain ⟨r, o, hr⟩ := ho
  obtain ⟨ta, pa, ra⟩ := ha
  obtain ⟨tb, pb, rb⟩ := hb
  exact ⟨_, pe_op o pa pb, fun σ H ρ d Q h e q => rd2 hr ra rb h e q⟩
theorem px_cmp {op : CmpOp} {F : D → D → Option D} {a b : Expr} {f g : RE} {pos : Pos} (ho : OpD C X (compareOp op) F) (ha : PX C X a f) (hb : PX C X b g) (hm : behindInMarks op b = false) : PX C X (.Compare a [op] [b] pos) (o2 F f g) := by
  obtain ⟨r, o, hr⟩ := ho
  obtain ⟨ta, pa, ra⟩ := ha
  obtain ⟨tb, pb, rb⟩ := hb
  exact ⟨_, pe_cmpR o pa pb hm, fun σ H ρ d Q h e q => rd2 hr ra rb h e q⟩
/-! ### tests -/
def asB (f : RE) : RT := fun ρ => match f ρ with
  | some (.bl b) => some b
  | _ => none
theorem asB_some {f : RE} {ρ : Rho} {b : Bool} (h : asB f ρ = some b) : f ρ = some (.bl b) := by
  unfold asB at h
  split at h
  · rename_i e
    cases h
    exact e
  · cases h
theorem tx_cmp {op : CmpOp} {F : D → D → Option D} {a b : Expr} {f g : RE} {pos : Pos} (ho : OpD C X (compareOp op) F) (ha : PX C X a f) (hb : PX C X b g) (hm : behindInMarks op b = false) : TX C X (.Compare a [op] [b] pos) (asB (o2 F f g)) := by
  obtain ⟨r, o, hr⟩ := ho
  obtain ⟨ta, pa, ra⟩ := ha
  obtain ⟨tb, pb, rb⟩ := hb
  refine ⟨_, pt_cmpR o pa pb hm, fun σ H ρ d Q h e q => ?_⟩
  exact rd2 (C := C) (X := X) hr ra rb h (asB_some e) fun v H' s r => ⟨d, r, q H' s⟩
theorem tx_val {e : Expr} {f : RE} (h : PX C X e f) (he : ∀ whole, isTrue e X.env whole = (do let v ← whole; standAt e.pos; holding [v] (truthy v)) := by intro _; rfl) : TX C X e (asB f) := by
  obtain ⟨t, p, r⟩ := h
  refine ⟨_, pt_val p he, fun σ H ρ d Q h e q => ?_⟩
  exact r σ H ρ _ _ h (asB_some e) fun v H' s rr => ⟨d, rr, q H' s⟩
theorem WX.tx {e : Expr} {f : RT} (h : WX C X e f) : TX C X e f := let ⟨t, p, r⟩ := h; ⟨t, p.pt, r⟩
def tNotE (f : RT) : RT := fun ρ => match f ρ with
  | some b => some (!b)
  | none => none
def tAndE (f g : RT) : RT := fun ρ => match f ρ with
  | some true => g ρ
  | some false => some false
  | none => none
def tOrE (f g : RT) : RT := fun ρ => match f ρ with
  | some true => some true
  | some false => g ρ
  | none => none
theorem tx_not {a : Expr} {f : RT} {pos : Pos} (h : TX C X a f) : TX C X (.UnaryOp .Not a pos) (tNotE f) := by
  obtain ⟨t, p, r⟩ := h
  refine ⟨_, pt_not p, fun σ H ρ d Q h e q => ?_⟩
  unfold tNotE at e
  split at e
  · rename_i b e1
    cases e
    exact r σ H ρ b _ h e1 q
  · cases e
theorem wx_and1 {a : Expr} {f : RT} {pos : Pos} (h : TX C X a f) : WX C X (.BoolOp .And [a] pos) f := let ⟨t, p, r⟩ := h; ⟨t, pw_and1 p, r⟩
theorem wx_or1 {a : Expr} {f : RT} {pos : Pos} (h : TX C X a f) : WX C X (.BoolOp .Or [a] pos) f := let ⟨t, p, r⟩ := h; ⟨t, pw_or1 p, r⟩
theorem wx_and {a b : Expr} {rest : List Expr} {f g : RT} {pos : Pos} (ha : TX C X a f) (hb : WX C X (.BoolOp .And (b :: rest) pos) g) : WX C X (.BoolOp .And (a :: b :: rest) pos) (tAndE f g) := by
  obtain ⟨ta, pa, ra⟩ := ha
  obtain ⟨tb, pb, rb⟩ := hb
  refine ⟨_, pw_and pa pb, fun σ H ρ d Q h e q => ?_⟩
  unfold tAndE at e
  split at e
  · rename_i e1
    refine ra σ H ρ true _ h e1 fun H1 s1 => ?_
    rw [if_pos rfl]
    exact rb σ H1 ρ d _ (h.same s1) e fun H2 s2 => q H2 (s1.trans s2)
  · rename_i e1
    cases e
    refine ra σ H ρ false _ h e1 fun H1 s1 => ?_
    rw [if_neg Bool.false_ne_true]
    exact q H1 s1
  · cases e
theorem wx_or {a b : Expr} {rest : List Expr} {f g : RT} {pos : Pos} (ha : TX C X a f) (hb : WX C X (.BoolOp .Or (b :: rest) pos) g) : WX C X (.BoolOp .Or (a :: b :: rest) pos) (tOrE f g) := by
  obtain ⟨ta, pa, ra⟩ := ha
  obtain ⟨tb, pb, rb⟩ := hb
  refine ⟨_, pw_or pa pb, fun σ H ρ d Q h e q => ?_⟩
  unfold tOrE at e
  split at e
  · rename_i e1
    cases e
    refine ra σ H ρ true _ h e1 fun H1 s1 => ?_
    rw [if_pos rfl]
    exact q H1 s1
  · rename_i e1
    refine ra σ H ρ false _ h e1 fun H1 s1 => ?_
    rw [if_neg Bool.false_ne_true]
    exact rb σ H1 ρ d _ (h.same s1) e fun H2 s2 => q H2 (s1.trans s2)
  · cases e
/-! ### and, or, not as values (bools) -/
def asV (t : RT) : RE := fun ρ => match t ρ with
  | some b => some (.bl b)
  | none => none
theorem px_one {a : Expr} {op} {f : RE} {pos : Pos} (h : PX C X a f) : PX C X (.BoolOp op [a] pos) f := let ⟨t, p, r⟩ := h; ⟨t, pe_one p, r⟩
theorem px_not {a : Expr} {f : RE} {pos : Pos} (h : PX C X a f) : PX C X (.UnaryOp .Not a pos) (asV (tNotE (asB f))) := by
  obtain ⟨t, p, r⟩ := h
  refine ⟨_, pe_not p, fun σ H ρ d Q h e q => ?_⟩
  unfold asV tNotE at e
  cases e1 : asB f ρ with
  | none => rw [e1] at e; cases e
  | some b =>
    rw [e1] at e
    cases e
    exact r σ H ρ _ _ h (asB_some e1) fun v H' s rr => ⟨b, rr, q _ H' s rfl⟩
/-- the last may be any value -/
def andE (f g : RE) : RE := fun ρ => match f ρ with
  | some (.bl true) => g ρ
  | some (.bl false) => some (.bl false)
  | _ => none
def orE (f g : RE) : RE := fun ρ => match f ρ with
  | some (.bl true) => some (.bl true)
  | some (.bl false) => g ρ
  | _ => none
theorem px_and {a b : Expr} {rest : List Expr} {f g : RE} {pos : Pos} (ha : PX C X a f) (hb : PX C X (.BoolOp .And (b :: rest) pos) g) : PX C X (.BoolOp .And (a :: b :: rest) pos) (andE f g) := by
  obtain ⟨ta, pa, ra⟩ := ha
  obtain ⟨tb, pb, rb⟩ := hb
  refine ⟨_, pe_and pa pb, fun σ H ρ d Q h e q => ?_⟩
  unfold andE at e
  split at e
  · rename_i e1
    refine ra σ H ρ _ _ h e1 fun v H1 s1 r1 => ⟨true, r1, ?_⟩
    rw [if_pos rfl]
    exact rb σ H1 ρ d _ (h.same s1) e (q.mono s1)
  · rename_i e1
    cases e
    refine ra σ H ρ _ _ h e1 fun v H1 s1 r1 => ⟨false, r1, ?_⟩
    rw [if_neg Bool.false_ne_true]
    exact q _ H1 s1 rfl
  · cases e
theorem px_or {a b : Expr} {rest : List Expr} {f g : RE} {pos : Pos} (ha : PX C X a f) (hb : PX C X (.BoolOp .Or (b :: rest) pos) g) : PX C X (.BoolOp .Or (a :: b :: rest) pos) (orE f g) := by
  obtain ⟨ta, pa, ra⟩ := ha
  obtain ⟨tb, pb, rb⟩ := hb
  refine ⟨_, pe_or pa pb, fun σ H ρ d Q h e q => ?_⟩
  unfold orE at e
  split at e
  · rename_i e1
    cases e
    refine ra σ H ρ _ _ h e1 fun v H1 s1 r1 => ⟨true, r1, ?_⟩
    rw [if_pos rfl]
    exact q _ H1 s1 rfl
  · rename_i e1
    refine ra σ H ρ _ _ h e1 fun v H1 s1 r1 => ⟨false, r1, ?_⟩
    rw [if_neg Bool.false_ne_true]
    exact rb σ H1 ρ d _ (h.same s1) e (q.mono s1)
  · cases e
def ifE (t : RT) (f g : RE) : RE := fun ρ => match t ρ with
  | some true => f ρ
  | some false => g ρ
  | none => none
theorem px_ifExp {c a b : Expr} {t : RT} {f g : RE} {pos : Pos} (hc : TX C X c t) (ha : PX C X a f) (hb : PX C X b g) : PX C X (.IfExp c a b pos) (ifE t f g) := by
  obtain ⟨tc, pc, rc⟩ := hc
  obtain ⟨ta, pa, ra⟩ := ha
  obtain ⟨tb, pb, rb⟩ := hb
  refine ⟨_, pe_ifExp pc pa pb, fun σ H ρ d Q h e q => ?_⟩
  unfold ifE at e
  split at e
  · rename_i e1
    refine rc σ H ρ true _ h e1 fun H1 s1 => ?_
    rw [if_pos rfl]
    exact ra σ H1 ρ d _ (h.same s1) e (q.mono s1)
  · rename_i e1
    refine rc σ H ρ false _ h e1 fun H1 s1 => ?_
    rw [if_neg Bool.false_ne_true]
    exact rb σ H1 ρ d _ (h.same s1) e (q.mono s1)
  · cases e
/-! ### argument lists, displays -/
def aNil : RA := fun _ => some []
def aCons (f : RE) (g : RA) : RA := fun ρ => match f ρ with
  | some d => (match g ρ with
    | some ds => some (d :: ds)
    | none => none)
  | none => none
def aStar (f : RE) (g : RA) : RA := fun ρ => match f ρ with
  | some (.tup xs) => (match g ρ with
    | some ds => some (xs ++ ds)
    | none => none)
  | _ => none
theorem ax_nil : AX C X [] aNil := ⟨_, pa_nil, fun σ H ρ ds Q h e q => by cases e; exact q [] H (Same.refl H) rfl⟩
theorem ax_cons {e : Expr} {es : List Expr} {f : RE} {g : RA} (ha : PX C X e f) (hr : AX C X es g) (hs : starEach (e :: es) X.env = (false, eval e X.env) :: starEach es X.env := by rfl) : AX C X (e :: es) (aCons f g) := by
  obtain ⟨ta, pa, ra⟩ := ha
  obtain ⟨tb, pb, rb⟩ := hr
  refine ⟨_, pa_cons pa pb hs, fun σ H ρ ds Q h e q => ?_⟩
  unfold aCons at e
  cases e1 : f ρ with
  | none => rw [e1] at e; cases e
  | some d =>
    rw [e1] at e
    cases e2 : g ρ with
    | none => rw [e2] at e; cases e
    | some es =>
      rw [e2] at e
      cases e
      refine ra σ H ρ d _ h e1 fun v H1 s1 r1 => ?_
      refine rb σ H1 ρ es _ (h.same s1) e2 fun vs H2 s2 r2 => ?_
      exact q _ H2 (s1.trans s2) ⟨v, vs, rfl, r1.same s2, r2⟩
theorem ax_star {e : Expr} {es : List Expr} {f : RE} {g : RA} {p : Pos} (ha : PX C X e f) (hr : AX C X es g) (hs : starEach (.Starred e p :: es) X.env = (true, eval e X.env) :: starEach es X.env := by rfl) : AX C X (.Starred e p :: es) (aStar f g) := by
  obtain ⟨ta, pa, ra⟩ := ha
  obtain ⟨tb, pb, rb⟩ := hr
  refine ⟨_, StX.pa_star pa pb hs, fun σ H ρ ds Q h e q => ?_⟩
  unfold aStar at e
  split at e
  · rename_i xs e1
    cases e2 : g ρ with
    | none => rw [e2] at e; cases e
    | some es =>
      rw [e2] at e
      cases e
      refine ra σ H ρ _ _ h e1 fun v H1 s1 r1 => ?_
      obtain ⟨a, vs, h1, h2, h3, h4⟩ := r1
      refine ⟨a, vs, h1, .inl h2, rb σ H1 ρ es _ (h.same s1) e2 fun ws H2 s2 r2 => ?_⟩
      exact q _ H2 (s1.trans s2) ((h3.same s2).append r2)
  · cases e
theorem small4 {n : Nat} (h : Nat.ble n 4096 = true) : n ≤ sizeLine := Nat.le_trans (Nat.le_of_ble_eq_true h) (by rw [sizeLine_eq]; decide)
theorem same_new {H : Hp} {p : Addr} {o : HO} (h : H p = none) : Same H (upd H p o) := fun b u e => by rw [upd_ne (ne_of_none e h)]; exact e
/-- a new tuple | list of these -/
def mkTup (ds : List D) : Option D := cnd (Nat.ble ds.length 4096) (cnd (ds.all dat1) (some (.tup ds)) (some (.tupx ds))) none
def mkLst (ds : List D) : Option D := cnd (Nat.ble ds.length 4096) (cnd (ds.all dat1) (some (.lst ds)) none) none
/-- a new list of anything -/
def mkLstX (ds : List D) : Option D := cnd (Nat.ble ds.length 4096) (some (.lstx ds)) none
def eA (m : List D → Option D) (f : RA) : RE := fun ρ => match f ρ with
  | some ds => m ds
  | none => none
theorem eA_some {m : List D → Option D} {f : RA} {ρ : Rho} {d : D} (h : eA m f ρ = some d) : ∃ ds, f ρ = some ds ∧ m ds = some d := by
  unfold eA at h
  cases e : f ρ with
  | none => rw [e] at h; cases h
  | some ds => rw [e] at h; exact ⟨ds, rfl, h⟩
theorem cond_some {b : Bool} {α : Type} {x : Option α} {d : α} (h : cnd b x none = some d) : b = true ∧ x = some d := by
  cases b with
  | true => exact ⟨rfl, h⟩
  | false => cases h
theorem mkTup_rep {c : Cw} {H : Hp} {ds : List D} {vs : List V} {d : D} (e : mkTup ds = some d) (r : RepL c H ds vs) : vs.length ≤ sizeLine ∧ ∀ p, H p = none → Rep c (upd H p (.tup vs)) d (.ref p) := by
  obtain ⟨e1, e2⟩ := cond_some e
  refine ⟨by rw [r.length]; exact small4 e1, fun p hp => ?_⟩
  have r2 := r.same (same_new (o := .tup vs) hp)
  cases q : ds.all dat1 with
  | true =>
    rw [q] at e2
    cases e2
    exact ⟨p, vs, rfl, SqT.of upd_same, r2, q⟩
  | false =>
    rw [q] at e2
    cases e2
    exact ⟨p, vs, rfl, SqT.of upd_same, r2⟩
theorem mkLst_rep {c : Cw} {H : Hp} {ds : List D} {vs : List V} {d : D} (e : mkLst ds = some d) (r : RepL c H ds vs) : vs.length ≤ sizeLine ∧ ∀ p, H p = none → Rep c (upd H p (.lst vs)) d (.ref p) := by
  obtain ⟨e1, e2⟩ := cond_some e
  obtain ⟨e3, e4⟩ := cond_some e2
  cases e4
  exact ⟨by rw [r.length]; exact small4 e1, fun p hp => ⟨p, vs, rfl, upd_same, r.same (same_new hp), e3⟩⟩
theorem px_tup {es : List Expr} {f : RA} {x1} {pos : Pos} (h : AX C X es f) : PX C X (.Tuple es x1 pos) (eA mkTup f) := by
  obtain ⟨t, p, r⟩ := h
  refine ⟨_, pe_tup p, fun σ H ρ d Q h e q => ?_⟩
  obtain ⟨ds, e1, e2⟩ := eA_some e
  refine r σ H ρ ds _ h e1 fun vs H1 s1 r1 => ?_
  obtain ⟨a, b⟩ := mkTup_rep e2 r1
  exact ⟨a, fun p hp => q _ _ (s1.trans (same_new hp)) (b p hp)⟩
theorem px_lst {es : List Expr} {f : RA} {pos : Pos} (h : AX C X es f) : PX C X (.List es pos) (eA mkLst f) := by
  obtain ⟨t, p, r⟩ := h
  refine ⟨_, pe_lst p, fun σ H ρ d Q h e q => ?_⟩
  obtain ⟨ds, e1, e2⟩ := eA_some e
  refine r σ H ρ ds _ h e1 fun vs H1 s1 r1 => ?_
  obtain ⟨a, b⟩ := mkLst_rep e2 r1
  exact ⟨a, fun p hp => q _ _ (s1.trans (same_new hp)) (b p hp)⟩
theorem px_lstX {es : List Expr} {f : RA} {pos : Pos} (h : AX C X es f) : PX C X (.List es pos) (eA mkLstX f) := by
  obtain ⟨t, p, r⟩ := h
  refine ⟨_, pe_lst p, fun σ H ρ d Q h e q => ?_⟩
  obtain ⟨ds, e1, e2⟩ := eA_some e
  refine r σ H ρ ds _ h e1 fun vs H1 s1 r1 => ?_
  obtain ⟨e3, e4⟩ := cond_some e2
  cases e4
  exact ⟨by rw [r1.length]; exact small4 e3, fun p hp => q _ _ (s1.trans (same_new hp)) ⟨p, vs, rfl, upd_same, r1.same (same_new hp)⟩⟩
/-! ### the fields of a State -/
inductive Fld where
  | lv | gl | fr | ph | tk
def fldOf : Fld → D → Option D
  | .lv, .st l _ _ _ _ => some l
  | .gl, .st _ g _ _ _ => some g
  | .fr, .st _ _ f _ _ => some f
  | .ph, .st _ _ _ p _ => some p
  | .tk, .st _ _ _ _ t => some t
  | _, _ => none
def fldName : Fld → Str
  | .lv => "levels"
  | .gl => "goal"
  | .fr => "frames"
  | .ph => "phase"
  | .tk => "token"
def e1 (F : D → Option D) (f : RE) : RE := fun ρ => match f ρ with
  | some x => F x
  | none => none
theorem e1_some {F : D → Option D} {f : RE} {ρ : Rho} {d : D} (h : e1 F f ρ = some d) : ∃ x, f ρ = some x ∧ F x = some d := by
  unfold e1 at h
  cases e : f ρ with
  | none => rw [e] at h; cases h
  | some ds => rw [e] at h; exact ⟨ds, rfl, h⟩
theorem flds_look (k : Fld) (l g f p t : V) : (flds l g f p t).lookup (fldName k) = some (match k with | .lv => l | .gl => g | .fr => f | .ph => p | .tk => t) := by
  cases k <;> rfl
/-- what a State's class must have -/
structure ClsS (K : PySem.W.Frag) (C : Addr) : Prop where
  cl : Cls K C
  no : ∀ k : Fld, NoAttr K C (fldName k)
theorem px_fld {e : Expr} {f : RE} {pos : Pos} (k : Fld) {n : Str} (T : ClsS X.K C) (he : PX C X e f) (hn : n = fldName k := by rfl) (hb : attributeBase e n X.env (eval e X.env) = eval e X.env := by rfl) : PX C X (.Attribute e n pos) (e1 (fldOf k) f) := by
  obtain ⟨t, p, r⟩ := he
  refine ⟨_, pe_fld p hb, fun σ H ρ d Q h e q => ?_⟩
  obtain ⟨x, ea, eb⟩ := e1_some e
  refine r σ H ρ x _ h ea fun v H1 s1 r1 => ?_
  subst hn
  cases x with
  | st l g f p t =>
    obtain ⟨a, dx, vl, vg, vf, vp, vt, h1, h2, h3, h4, h5, h6, h7⟩ := r1
    refine ⟨a, C, dx, _, _, h1, h2, T.cl, T.no k, flds_look k _ _ _ _ _, q _ H1 s1 ?_⟩
    cases k <;> (cases eb; assumption)
  | _ => cases k <;> cases eb
end
end
end Rp
set_option Elab.async false
set_option linter.all false
set_option maxRecDepth 100000
set_option maxHeartbeats 1000000
namespace Rp
noncomputable section
open PySem PySem.Spec PyProof.Rows L2 SX
/-! ### operators on data -/
theorem okS_len {s : List Nat} (h : okS s = true) : s.length ≤ 4096 := Nat.le_of_ble_eq_true (Bool.and_eq_true_iff.mp h).2
theorem okS_line {s : List Nat} (h : okS s = true) : (S s).length ≤ sizeLine := by rw [S_len]; exact Nat.le_trans (okS_len h) (by rw [sizeLine_eq]; decide)
theorem okS_app {a b : List Nat} (ha : okS a = true) (hb : okS b = true) (h : Nat.ble (a.length + b.length) 4096 = true) : okS (a ++ b) = true := by
  have h1 := (Bool.and_eq_true_iff.mp ha).1
  have h2 := (Bool.and_eq_true_iff.mp hb).1
  unfold okS
  rw [List.all_append, h1, h2, List.length_append, h]
  rfl
section
variable {C : Addr} {X : Cx}
def dAdd : D → D → Option D
  | .int i, e => (match e with
    | .int j => some (.int (i + j))
    | _ => none)
  | .str a, e => (match e with
    | .str b => cnd (Nat.ble (a.length + b.length) 4096) (some (.str (a ++ b))) none
    | _ => none)
  | .lst a, e => (match e with
    | .lst b => mkLst (a ++ b)
    | _ => none)
  | .tup a, e => (match e with
    | .tup b => cnd (Nat.ble (a.length + b.length) 4096) (some (.tup (a ++ b))) none
    | _ => none)
  | _, _ => none
theorem RepL.nil_iff {c : Cw} {H : Hp} {ds : List D} {vs : List V} (r : RepL c H ds vs) : vs = [] ↔ ds = [] := by
  rw [← List.length_eq_zero_iff, ← List.length_eq_zero_iff, r.length]
theorem op_dAdd : OpD C X (binaryOp .Add) dAdd := by
  refine ⟨_, op_add.or (op_add_str.or (op_cat.or op_catA)), fun H x y vx vy d Q rx ry e q => ?_⟩
  cases x with
  | int i =>
    cases y with
    | int j => cases e; exact .inl ⟨i, j, rx, ry, q _ H (Same.refl H) rfl⟩
    | _ => cases e
  | str a =>
    cases y with
    | str b =>
      obtain ⟨e1, e2⟩ := cond_some e
      cases e2
      refine .inr (.inl ⟨S a, S b, rx.1, ry.1, ?_, ?_⟩)
      · rw [S_len, S_len]
        exact small4 e1
      · rw [S_cat]
        exact q _ H (Same.refl H) ⟨rfl, okS_app rx.2 ry.2 e1⟩
    | _ => cases e
  | lst a =>
    cases y with
    | lst b =>
      obtain ⟨p, vs, h1, h2, h3, h4⟩ := rx
      obtain ⟨p', vs', h1', h2', h3', h4'⟩ := ry
      obtain ⟨z1, z2⟩ := mkLst_rep (c := cw C X) (H := H) e (h3.append h3')
      rw [List.length_append] at z1
      exact .inr (.inr (.inl ⟨p, p', vs, vs', h1, h1', h2, h2', z1, fun l hl => q _ _ (same_new hl) (z2 l hl)⟩))
    | _ => cases e
  | tup a =>
    cases y with
    | tup b =>
      obtain ⟨e1, e2⟩ := cond_some e
      cases e2
      obtain ⟨p, vs, h1, h2, h3, h4⟩ := rx
      obtain ⟨p', vs', h1', h2', h3', h4'⟩ := ry
      have hd : (a ++ b).all dat1 = true := by rw [List.all_append, h4, h4']; rfl
      refine .inr (.inr (.inr ⟨p, p', vs, vs', h1, h1', h2, h2', ?_, fun z => ?_, fun z z' => ?_, fun z z' l hl => ?_⟩))
      · rw [h3.length, h3'.length]
        exact small4 e1
      · have : a = [] := h3.nil_iff.mp z
        subst this
        exact q _ H (Same.refl H) ⟨p', vs', rfl, h2', h3', hd⟩
      · have : b = [] := h3'.nil_iff.mp z'
        subst this
        refine q _ H (Same.refl H) ⟨p, vs, rfl, h2, ?_, hd⟩
        rw [List.append_nil]
        exact h3
      · exact q _ _ (same_new hl) ⟨l, _, rfl, SqT.of upd_same, (h3.append h3').same (same_new hl), hd⟩
    | _ => cases e
  | _ => cases e
def dInt2 (F : Int → Int → D) : D → D → Option D
  | .int i, e => (match e with
    | .int j => some (F i j)
    | _ => none)
  | _, _ => none
theorem int2 {f : Value → Value → Sem Value} {F : Int → Int → D} {G : Int → Int → V} (o : OpR X f (rI0 G)) (h : ∀ c H i j, Rep c H (F i j) (G i j)) : OpD C X f (dInt2 F) := by
  refine ⟨_, o, fun H x y vx vy d Q rx ry e q => ?_⟩
  cases x with
  | int i =>
    cases y with
    | int j => cases e; exact ⟨i, j, rx, ry, q _ H (Same.refl H) (h _ _ _ _)⟩
    | _ => cases e
  | _ => cases e
def dSub := dInt2 fun i j => .int (i - j)
theorem op_dSub : OpD C X (binaryOp .Sub) dSub := int2 op_sub fun _ _ _ _ => rfl
def iLt (i j : Int) : Bool := @Int.rec (fun _ => Bool) (fun a => @Int.rec (fun _ => Bool) (fun b => Nat.ble (Nat.succ a) b) (fun _ => false) j) (fun a => @Int.rec (fun _ => Bool) (fun _ => true) (fun b => Nat.ble (Nat.succ b) a) j) i
def iLe (i j : Int) : Bool := @Int.rec (fun _ => Bool) (fun a => @Int.rec (fun _ => Bool) (fun b => Nat.ble a b) (fun _ => false) j) (fun a => @Int.rec (fun _ => Bool) (fun _ => true) (fun b => Nat.ble b a) j) i
theorem iLt_eq (i j : Int) : iLt i j = decide (i < j) := by
  rw [Bool.eq_iff_iff, decide_eq_true_iff]
  cases i with
  | ofNat a =>
    cases j with
    | ofNat b => show Nat.ble (a + 1) b = true ↔ _; rw [Nat.ble_eq]; show a + 1 ≤ b ↔ (a : Int) < (b : Int); omega
    | negSucc b => exact ⟨fun h => Bool.noConfusion h, fun h => by have : (0 : Int) ≤ Int.ofNat a := Int.natCast_nonneg a; omega⟩
  | negSucc a =>
    cases j with
    | ofNat b => exact ⟨fun _ => by have : (0 : Int) ≤ Int.ofNat b := Int.natCast_nonneg b; omega, fun _ => rfl⟩
    | negSucc b => show Nat.ble (b + 1) a = true ↔ _; rw [Nat.ble_eq]; omega
theorem iLe_eq (i j : Int) : iLe i j = decide (i ≤ j) := by
  rw [Bool.eq_iff_iff, decide_eq_true_iff]
  cases i with
  | ofNat a =>
    cases j with
    | ofNat b => show Nat.ble a b = true ↔ _; rw [Nat.ble_eq]; show a ≤ b ↔ (a : Int) ≤ (b : Int); omega
    | negSucc b => exact ⟨fun h => Bool.noConfusion h, fun h => by have : (0 : Int) ≤ Int.ofNat a := Int.natCast_nonneg a; omega⟩
  | negSucc a =>
    cases j with
    | ofNat b => exact ⟨fun _ => by have : (0 : Int) ≤ Int.ofNat b := Int.natCast_nonneg b; omega, fun _ => rfl⟩
    | negSucc b => show Nat.ble b a = true ↔ _; rw [Nat.ble_eq]; omega
def dLt := dInt2 fun i j => .bl (iLt i j)
def dLe := dInt2 fun i j => .bl (iLe i j)
def dGt := dInt2 fun i j => .bl (iLt j i)
def dGe := dInt2 fun i j => .bl (iLe j i)
theorem op_dLt : OpD C X (compareOp .Lt) dLt := int2 op_lt fun _ _ i j => congrArg V.bl (iLt_eq _ _).symm
theorem op_dLe : OpD C X (compareOp .LtE) dLe := int2 op_le fun _ _ i j => congrArg V.bl (iLe_eq _ _).symm
theorem op_dGt : OpD C X (compareOp .Gt) dGt := int2 op_gt fun _ _ i j => congrArg V.bl (iLt_eq _ _).symm
theorem op_dGe : OpD C X (compareOp .GtE) dGe := int2 op_ge fun _ _ i j => congrArg V.bl (iLe_eq _ _).symm
/-! ### == -/
def isSc : D → Bool
  | .str _ => true
  | .int _ => true
  | .bl _ => true
  | .non => true
  | _ => false
/-- the right side is shallow -/
def sh8 (e : D) : Bool := cnd (isSc e) true (dpLe e 12)
def dEqB (x y : D) : Option Bool := cnd (datE x) (cnd (datE y) (cnd (sh8 y) (some (eqD x y)) none) none) none
def oB : Option Bool → Option D
  | some b => some (.bl b)
  | none => none
def oN : Option Bool → Option D
  | some b => some (.bl (!b))
  | none => none
def dEq (x y : D) : Option D := oB (dEqB x y)
def dNe (x y : D) : Option D := oN (dEqB x y)
theorem sh8_py {e : D} (h : sh8 e = true) : (toPy e).depth ≤ 12 := by
  unfold sh8 at h
  cases e with
  | str _ => simp only [toPy, PyData.depth]; omega
  | int _ => simp only [toPy, PyData.depth]; omega
  | bl _ => simp only [toPy, PyData.depth]; omega
  | non => simp only [toPy, PyData.depth]; omega
  | _ => exact dpLe_py _ _ h
theorem dEqB_some {x y : D} {b : Bool} (h : dEqB x y = some b) : datE x = true ∧ datE y = true ∧ (toPy y).depth ≤ 12 ∧ b = PyData.eqv (toPy x) (toPy y) := by
  obtain ⟨h1, h⟩ := cond_some h
  obtain ⟨h2, h⟩ := cond_some h
  obtain ⟨h3, h⟩ := cond_some h
  cases h
  exact ⟨h1, h2, sh8_py h3, eqD_py _ _⟩
def rEqM (K : PySem.W.Frag) : R2 := fun x y H Q => ∃ d e, Dp K H x d ∧ Dp K H y e ∧ d.canLay0 = true ∧ e.canLay0 = true ∧ e.depth ≤ 12 ∧ Q (.bl (PyData.eqv d e)) H
def rNeM (K : PySem.W.Frag) : R2 := fun x y H Q => ∃ d e, Dp K H x d ∧ Dp K H y e ∧ d.canLay0 = true ∧ e.canLay0 = true ∧ e.depth ≤ 12 ∧ Q (.bl (!PyData.eqv d e)) H
theorem op_eqM (hu : X.A.units + 64 < cLine) : OpR X (compareOp .Eq) (rEqM X.K) := by
  intro pins s σ H x y v u Q I rx ry h
  obtain ⟨d, e, h1, h2, h3, h4, h5, q⟩ := h
  obtain ⟨as, r1⟩ := Dp.reads I d _ _ h1 rx
  obtain ⟨bs, r2⟩ := Dp.reads I e _ _ h2 ry
  exact SeqAt.compareEq_reads r1 r2 h3 h4 (by omega) ⟨.bl _, H, I, rfl, q⟩
theorem op_neM (hu : X.A.units + 64 < cLine) : OpR X (compareOp .NotEq) (rNeM X.K) := by
  intro pins s σ H x y v u Q I rx ry h
  obtain ⟨d, e, h1, h2, h3, h4, h5, q⟩ := h
  obtain ⟨as, r1⟩ := Dp.reads I d _ _ h1 rx
  obtain ⟨bs, r2⟩ := Dp.reads I e _ _ h2 ry
  exact SeqAt.compareNe_reads r1 r2 h3 h4 (by omega) ⟨.bl _, H, I, rfl, q⟩
theorem op_dEq (hu : X.A.units + 64 < cLine) : OpD C X (compareOp .Eq) dEq := by
  refine ⟨_, op_eqM hu, fun H x y vx vy d Q rx ry e q => ?_⟩
  unfold dEq at e
  cases e2 : dEqB x y with
  | none => rw [e2] at e; cases e
  | some b =>
    rw [e2] at e
    cases e
    obtain ⟨h1, h2, h3, h4⟩ := dEqB_some e2
    exact ⟨toPy x, toPy y, rx.dp _ h1, ry.dp _ h2, Rep.can _ h1 rx, Rep.can _ h2 ry, h3, by rw [← h4]; exact q _ H (Same.refl H) rfl⟩
theorem op_dNe (hu : X.A.units + 64 < cLine) : OpD C X (compareOp .NotEq) dNe := by
  refine ⟨_, op_neM hu, fun H x y vx vy d Q rx ry e q => ?_⟩
  unfold dNe at e
  cases e2 : dEqB x y with
  | none => rw [e2] at e; cases e
  | some b =>
    rw [e2] at e
    cases e
    obtain ⟨h1, h2, h3, h4⟩ := dEqB_some e2
    exact ⟨toPy x, toPy y, rx.dp _ h1, ry.dp _ h2, Rep.can _ h1 rx, Rep.can _ h2 ry, h3, by rw [← h4]; exact q _ H (Same.refl H) rfl⟩
/-! ### in -/
def memN (c : Nat) (l : List Nat) : Bool := @List.rec Nat (fun _ => Bool) false (fun a _ ih => @Bool.rec (fun _ => Bool) ih true (Nat.beq c a)) l
theorem memN_eq (c : Nat) : ∀ l : List Nat, memN c l = decide (c ∈ l)
  | [] => by simp [memN]
  | a :: l => by
    show cnd (Nat.beq c a) true (memN c l) = _
    rw [memN_eq c l]
    cases h : Nat.beq c a with
    | true =>
      have : c = a := Nat.eq_of_beq_eq_true h
      subst this
      simp [cnd]
    | false =>
      have : c ≠ a := Nat.ne_of_beq_eq_false h
      simp [this, cnd]
/-- x among flat things -/
def memD (x : D) : List D → Option Bool
  | [] => some false
  | y :: l => cnd (isSc y) (match memD x l with
    | some b => some (cnd (eqD y x) true b)
    | none => none) none
def dInB : D → D → Option Bool
  | .str s, .str t => (match s with
    | [c] => some (memN c t)
    | _ => none)
  | x, .tup l => cnd (isSc x) (memD x l) none
  | x, .lst l => cnd (isSc x) (memD x l) none
  | _, _ => none
def dIn (x y : D) : Option D := oB (dInB x y)
def dNotIn (x y : D) : Option D := oN (dInB x y)
theorem isSc_flat {c : Cw} {H : Hp} {d : D} {v : V} (h : isSc d = true) (r : Rep c H d v) : flatV v = true := by
  cases d with
  | str _ => rw [r.1]; rfl
  | int _ => rw [show v = _ from r]; rfl
  | bl _ => rw [show v = _ from r]; rfl
  | non => rw [show v = _ from r]; rfl
  | _ => cases h
theorem eqD_eqV {c : Cw} {H : Hp} {d e : D} {v u : V} (h : isSc d = true) (h' : isSc e = true) (r : Rep c H d v) (r' : Rep c H e u) : eqV v u = eqD d e := by
  cases d with
  | str a =>
    rw [r.1]
    cases e with
    | str b =>
      rw [r'.1]
      simp only [eqD, eqV, beqI_eq, cnd01]
      exact S_beq' a b
    | int _ => rw [show u = _ from r']; simp only [eqD, eqV, beqI_eq, cnd01]
    | bl _ => rw [show u = _ from r']; simp only [eqD, eqV, beqI_eq, cnd01]
    | non => rw [show u = _ from r']; simp only [eqD, eqV, beqI_eq, cnd01]
    | _ => cases h'
  | int a =>
    rw [show v = _ from r]
    cases e with
    | str b => rw [r'.1]; simp only [eqD, eqV, beqI_eq, cnd01]
    | int _ => rw [show u = _ from r']; simp only [eqD, eqV, beqI_eq, cnd01]
    | bl _ => rw [show u = _ from r']; simp only [eqD, eqV, beqI_eq, cnd01]
    | non => rw [show u = _ from r']; simp only [eqD, eqV, beqI_eq, cnd01]
    | _ => cases h'
  | bl a =>
    rw [show v = _ from r]
    cases e with
    | str b => rw [r'.1]; simp only [eqD, eqV, beqI_eq, cnd01]
    | int _ => rw [show u = _ from r']; simp only [eqD, eqV, beqI_eq, cnd01]
    | bl _ => rw [show u = _ from r']; simp only [eqD, eqV, beqI_eq, cnd01]
    | non => rw [show u = _ from r']; simp only [eqD, eqV, beqI_eq, cnd01]
    | _ => cases h'
  | non =>
    rw [show v = _ from r]
    cases e with
    | str b => rw [r'.1]; simp only [eqD, eqV, beqI_eq, cnd01]
    | int _ => rw [show u = _ from r']; simp only [eqD, eqV, beqI_eq, cnd01]
    | bl _ => rw [show u = _ from r']; simp only [eqD, eqV, beqI_eq, cnd01]
    | non => rw [show u = _ from r']; simp only [eqD, eqV, beqI_eq, cnd01]
    | _ => cases h'
  | _ => cases h
theorem memD_ok {c : Cw} {H : Hp} {x : D} {vx : V} (hx : isSc x = true) (rx : Rep c H x vx) : ∀ {l : List D} {vs : List V} {b : Bool}, RepL c H l vs → memD x l = some b → vs.all flatV = true ∧ inV vx vs = b
  | [], _, b, r, e => by
    rw [show _ = _ from r]
    cases e
    exact ⟨rfl, rfl⟩
  | y :: l, _, b, r, e => by
    obtain ⟨v, r2, h1, h2, h3⟩ := r
    subst h1
    obtain ⟨e1, e2⟩ := cond_some e
    cases e3 : memD x l with
    | none => rw [e3] at e2; cases e2
    | some b2 =>
      rw [e3] at e2
      cases e2
      obtain ⟨a, b⟩ := memD_ok hx rx h3 e3
      refine ⟨?_, ?_⟩
      · rw [List.all_cons, a, isSc_flat e1 h2]
        rfl
      · show (eqV v vx || inV vx r2) = _
        rw [b, eqD_eqV e1 hx h2 rx]
        cases eqD y x <;> rfl
theorem one_S (c : Nat) (a : List Nat) : (!(Builtin.Str.occurrences (S a) (S [c]) 0 (S a).length 1).isEmpty) = memN c a := by rw [memN_eq]; exact in_one a c
def rInM (K : PySem.W.Frag) (neg : Bool) : R2 := fun x y H Q => (∃ i j, x = .str i ∧ y = .str j ∧ Q (.bl (if neg then !(!(Builtin.Str.occurrences j i 0 j.length 1).isEmpty) else !(Builtin.Str.occurrences j i 0 j.length 1).isEmpty)) H) ∨ rIn K neg x y H Q
theorem op_inM : OpR X (compareOp .In) (rInM X.K false) := OpR.or op_in_str op_in_seq
theorem op_notInM : OpR X (compareOp .NotIn) (rInM X.K true) := OpR.or L2.op_notin_str op_notIn_seq
theorem inM_ok {neg : Bool} {H : Hp} {x y : D} {vx vy : V} {b : Bool} {Q : VK} (rx : Rep (cw C X) H x vx) (ry : Rep (cw C X) H y vy) (e : dInB x y = some b) (q : Q (.bl (if neg then !b else b)) H) : rInM X.K neg vx vy H Q := by
  have seq : ∀ {l : List D}, (∃ a vs, vy = .ref a ∧ (SqL X.K H a vs ∨ SqT X.K H a vs) ∧ RepL (cw C X) H l vs) → cnd (isSc x) (memD x l) none = some b → rInM X.K neg vx vy H Q := by
    rintro l ⟨a, vs, h1, h2, h3⟩ e
    obtain ⟨e1, e2⟩ := cond_some e
    obtain ⟨z1, z2⟩ := memD_ok e1 rx h3 e2
    exact .inr ⟨a, vs, h1, h2, isSc_flat e1 rx, z1, by rw [z2]; exact q⟩
  cases y with
  | tup l =>
    obtain ⟨a, vs, h1, h2, h3, h4⟩ := ry
    exact seq ⟨a, vs, h1, .inr h2, h3⟩ (by cases x <;> exact e)
  | lst l =>
    obtain ⟨a, vs, h1, h2, h3, h4⟩ := ry
    exact seq ⟨a, vs, h1, .inl (SqL.of h2), h3⟩ (by cases x <;> exact e)
  | str t =>
    cases x with
    | str s =>
      cases s with
      | nil => cases e
      | cons c r =>
        cases r with
        | nil =>
          have e' : some (memN c t) = some b := e
          cases e'
          exact .inl ⟨S [c], S t, rx.1, ry.1, by rw [one_S]; exact q⟩
        | cons _ _ => cases e
    | _ => cases e
  | _ => cases x <;> cases e
theorem op_dIn : OpD C X (compareOp .In) dIn := by
  refine ⟨_, op_inM, fun H x y vx vy d Q rx ry e q => ?_⟩
  unfold dIn at e
  cases e2 : dInB x y with
  | none => rw [e2] at e; cases e
  | some b => rw [e2] at e; cases e; exact inM_ok (C := C) rx ry e2 (q _ H (Same.refl H) rfl)
theorem op_dNotIn : OpD C X (compareOp .NotIn) dNotIn := by
  refine ⟨_, op_notInM, fun H x y vx vy d Q rx ry e q => ?_⟩
  unfold dNotIn at e
  cases e2 : dInB x y with
  | none => rw [e2] at e; cases e
  | some b => rw [e2] at e; cases e; exact inM_ok (C := C) rx ry e2 (q _ H (Same.refl H) rfl)
/-! ### is None -/
def isNon : D → Bool
  | .non => true
  | _ => false
theorem isNon_ok {c : Cw} {H : Hp} {d : D} {v : V} (r : Rep c H d v) : decide (v = .non) = isNon d := by
  cases d with
  | non => rw [show v = _ from r]; rfl
  | bl _ => rw [show v = _ from r]; rfl
  | int _ => rw [show v = _ from r]; rfl
  | str _ => rw [r.1]; rfl
  | tup _ => obtain ⟨a, vs, h, _⟩ := r; rw [h]; rfl
  | tupx _ => obtain ⟨a, vs, h, _⟩ := r; rw [h]; rfl
  | lst _ => obtain ⟨a, vs, h, _⟩ := r; rw [h]; rfl
  | lstx _ => obtain ⟨a, vs, h, _⟩ := r; rw [h]; rfl
  | dic _ => obtain ⟨a, vs, h, _⟩ := r; rw [h]; rfl
  | st _ _ _ _ _ => obtain ⟨a, _, _, _, _, _, _, h, _⟩ := r; rw [h]; rfl
def dIs (x y : D) : Option D := cnd (isNon y) (some (.bl (isNon x))) none
def dIsNot (x y : D) : Option D := cnd (isNon y) (some (.bl (!isNon x))) none
theorem op_dIs : OpD C X (compareOp .Is) dIs := by
  refine ⟨_, op_isN, fun H x y vx vy d Q rx ry e q => ?_⟩
  obtain ⟨e1, e2⟩ := cond_some e
  cases e2
  exact ⟨of_decide_eq_true (by rw [isNon_ok ry]; exact e1), by rw [isNon_ok rx]; exact q _ H (Same.refl H) rfl⟩
theorem op_dIsNot : OpD C X (compareOp .IsNot) dIsNot := by
  refine ⟨_, op_notN, fun H x y vx vy d Q rx ry e q => ?_⟩
  obtain ⟨e1, e2⟩ := cond_some e
  cases e2
  exact ⟨of_decide_eq_true (by rw [isNon_ok ry]; exact e1), by rw [isNon_ok rx]; exact q _ H (Same.refl H) rfl⟩
/-! ### * of a text, a list by a number -/
def repN {α : Type} (xs : List α) (n : Nat) : List α := @Nat.rec (fun _ => List α) [] (fun _ ih => xs ++ ih) n
def dMul : D → D → Option D
  | .str a, e => (match e with
    | .int k => (match k with
      | .ofNat n => cnd (Nat.ble (a.length * n) 4096) (cnd (Nat.ble n 4096) (some (.str (repN a n))) none) none
      | .negSucc n => cnd (Nat.ble n 4096) (some (.str [])) none)
    | _ => none)
  | .lst a, e => (match e with
    | .int k => (match k with
      | .ofNat n => cnd (Nat.ble (a.length * n) 4096) (cnd (Nat.ble n 4096) (some (.lst (repN a n))) none) none
      | .negSucc n => none)
    | _ => none)
  | _, _ => none
end
end
end Rp
set_option Elab.async false
set_option linter.all false
set_option maxRecDepth 100000
set_option maxHeartbeats 1000000
namespace Rp
noncomputable section
open PySem PySem.Spec PyProof.Rows L2 SX
section
variable {C : Addr} {X : Cx}
/-! ### a text, a list by a number -/
theorem repN_len {α : Type} (xs : List α) : ∀ n, (repN xs n).length = n * xs.length
  | 0 => by show ([] : List α).length = _; simp
  | n + 1 => by
    rw [show repN xs (n + 1) = xs ++ repN xs n from rfl, List.length_append, repN_len xs n, Nat.succ_mul]
    omega
theorem repN_all {α : Type} (p : α → Bool) (xs : List α) (h : xs.all p = true) : ∀ n, (repN xs n).all p = true
  | 0 => rfl
  | n + 1 => by rw [show repN xs (n + 1) = xs ++ repN xs n from rfl, List.all_append, h, repN_all p xs h n]; rfl
theorem repN_flat {α : Type} (xs : List α) : ∀ n, repN xs n = (List.replicate n xs).flatten
  | 0 => rfl
  | n + 1 => by rw [show repN xs (n + 1) = xs ++ repN xs n from rfl, repN_flat xs n, List.replicate_succ, List.flatten_cons]
theorem foldS (s : List Nat) : ∀ (n : Nat) (acc : List Nat), (List.replicate n s.toArray).foldl (· ++ ·) acc.toArray = (acc ++ repN s n).toArray
  | 0, acc => by show _ = (acc ++ ([] : List Nat)).toArray; simp
  | n + 1, acc => by
    rw [List.replicate_succ, List.foldl_cons, List.append_toArray, foldS s n (acc ++ s), List.append_assoc]
    rfl
def rMulS : R2 := fun x y H Q => ∃ z k, x = .str (S z) ∧ y = .int k ∧ z.length * k.toNat ≤ 4096 ∧ k.natAbs ≤ 4097 ∧ Q (.str (S (repN z k.toNat))) H
theorem op_mulS : OpR X (binaryOp .Mult) rMulS := by
  intro pins s σ H x y v u Q I rx ry h
  obtain ⟨z, k, rfl, rfl, h1, h2, q⟩ := h
  obtain ⟨t, rfl⟩ := rx
  obtain ⟨t', rfl⟩ := ry
  have hsz := sizeLine_eq
  have hl : (S z).length = z.length := S_len z
  by_cases hk : k < 1
  · have e0 : k.toNat = 0 := by omega
    rw [e0] at q
    exact PySem.P.mul_str_none hk (by omega) ⟨.str _, H, I.tok _, ⟨_, rfl⟩, q⟩
  · have r0 : (decide (k < -(2 ^ 63 : Int)) || decide (k ≥ 2 ^ 63)) = false := by
      rw [decide_eq_false (by omega), decide_eq_false (by omega)]
      rfl
    refine PySem.P.mul_str r0 (fun _ _ => ?_) (fun _ _ => ?_) ?_
    · rw [hl]
      have a1 : (z.length : Int) ≤ 4096 := by
        have : 1 ≤ k.toNat := by omega
        have := Nat.le_mul_of_pos_right z.length this
        omega
      have a2 : (2 ^ 63 - 1) / k ≥ 4096 := by
        have : k ≤ 4097 := by omega
        have p : (0 : Int) < k := by omega
        rw [ge_iff_le, Int.le_ediv_iff_mul_le p]
        omega
      omega
    · unfold Builtin.Str.tooLong
      rw [hl]
      exact decide_eq_false (by omega)
    · rw [if_neg hk]
      by_cases h1k : (k == 1 || (S z).length == 0) = true
      · rw [if_pos h1k]
        have e : repN z k.toNat = z := by
          rcases Bool.or_eq_true_iff.mp h1k with a | a
          · have : k = 1 := beq_iff_eq.mp a
            subst this
            exact List.append_nil z
          · have : z.length = 0 := by rw [← hl]; exact beq_iff_eq.mp a
            have : z = [] := List.length_eq_zero_iff.mp this
            subst this
            have : ∀ n, repN ([] : List Nat) n = [] := fun n => by
              induction n with
              | zero => rfl
              | succ n ih => exact ih
            exact this _
        rw [e] at q
        exact ⟨.str _, H, I, ⟨_, rfl⟩, q⟩
      · rw [if_neg h1k]
        have e : (⟨(List.replicate k.toNat (S z).cps).foldl (· ++ ·) #[]⟩ : Str) = S (repN z k.toNat) := by
          have := foldS z k.toNat []
          exact congrArg Str.mk this
        rw [e]
        refine ⟨?_, .str _, H, I.tok _, ⟨_, rfl⟩, q⟩
        rw [S_len, repN_len, Nat.mul_comm]
        omega
theorem RepL.rep {c : Cw} {H : Hp} {ds : List D} {vs : List V} (r : RepL c H ds vs) : ∀ n, RepL c H (repN ds n) (repN vs n)
  | 0 => rfl
  | n + 1 => RepL.append r (RepL.rep r n)
theorem op_dMul : OpD C X (binaryOp .Mult) dMul := by
  refine ⟨_, op_mulS.or op_rep, fun H x y vx vy d Q rx ry e q => ?_⟩
  cases x with
  | str a =>
    cases y with
    | int k =>
      cases k with
      | ofNat n =>
        obtain ⟨e1, e2⟩ := cond_some e
        obtain ⟨e3, e4⟩ := cond_some e2
        cases e4
        have h1 := Nat.le_of_ble_eq_true e1
        have h2 := Nat.le_of_ble_eq_true e3
        refine .inl ⟨a, Int.ofNat n, rx.1, ry, h1, by show n ≤ 4097; omega, q _ H (Same.refl H) ⟨rfl, ?_⟩⟩
        unfold okS
        rw [repN_all _ _ (Bool.and_eq_true_iff.mp rx.2).1, repN_len, Nat.mul_comm, e1]
        rfl
      | negSucc n =>
        obtain ⟨e1, e2⟩ := cond_some e
        cases e2
        have h1 := Nat.le_of_ble_eq_true e1
        refine .inl ⟨a, Int.negSucc n, rx.1, ry, by show a.length * 0 ≤ 4096; omega, by show n + 1 ≤ 4097; omega, q _ H (Same.refl H) ⟨rfl, rfl⟩⟩
    | _ => cases e
  | lst a =>
    cases y with
    | int k =>
      cases k with
      | ofNat n =>
        obtain ⟨e1, e2⟩ := cond_some e
        obtain ⟨e3, e4⟩ := cond_some e2
        cases e4
        have h1 := Nat.le_of_ble_eq_true e1
        have h2 := Nat.le_of_ble_eq_true e3
        obtain ⟨p, vs, r1, r2, r3, r4⟩ := rx
        refine .inr ⟨p, Int.ofNat n, vs, r1, ry, r2, by show -(2 ^ 63) ≤ (n : Int); omega, by show (n : Int) < 2 ^ 63; omega, ?_, fun l hl => ?_⟩
        · rw [r3.length]
          show a.length * n ≤ _
          rw [sizeLine_eq]
          omega
        · refine q _ _ (same_new hl) ⟨l, _, rfl, upd_same, ?_, repN_all _ _ r4 n⟩
          have := (r3.rep n).same (same_new (o := .lst (List.replicate (Int.ofNat n).toNat vs).flatten) hl)
          rw [repN_flat vs] at this
          exact this
      | negSucc n => cases e
    | _ => cases e
  | _ => cases e
/-! ### items -/
def atD {α : Type} (l : List α) : Nat → Option α := @List.rec α (fun _ => Nat → Option α) (fun _ => none) (fun x _ ih n => @Nat.rec (fun _ => Option α) (some x) (fun k _ => ih k) n) l
theorem atD_eq {α : Type} : ∀ (l : List α) (n : Nat), atD l n = l[n]?
  | [], _ => rfl
  | x :: _, 0 => rfl
  | _ :: r, n + 1 => by
    show atD r n = _
    rw [atD_eq r n]
    simp
/-- xs[i], i of any sign -/
def ixD {α : Type} (l : List α) : Int → Option α
  | .ofNat n => atD l n
  | .negSucc n => cnd (Nat.ble (n + 1) l.length) (atD l (l.length - (n + 1))) none
theorem ixD_atI {α : Type} {l : List α} {i : Int} {d : α} (h : ixD l i = some d) : atI l i = some d := by
  unfold atI ixN
  cases i with
  | ofNat n =>
    have h1 : l[n]? = some d := by rw [← atD_eq]; exact h
    have h2 := (List.getElem?_eq_some_iff.mp h1).1
    have a : (0 : Int) ≤ Int.ofNat n := Int.natCast_nonneg n
    have b : (Int.ofNat n) < (l.length : Int) := by show (n : Int) < _; omega
    rw [if_pos a, if_pos b]
    exact h1
  | negSucc n =>
    obtain ⟨e1, e2⟩ := cond_some h
    have h0 := Nat.le_of_ble_eq_true e1
    have h1 : l[l.length - (n + 1)]? = some d := by rw [← atD_eq]; exact e2
    have a : ¬ (0 : Int) ≤ Int.negSucc n := by omega
    have b : -(l.length : Int) ≤ Int.negSucc n := by omega
    rw [if_neg a, if_pos b]
    show l[(Int.negSucc n + (l.length : Int)).toNat]? = some d
    rw [show (Int.negSucc n + (l.length : Int)).toNat = l.length - (n + 1) by omega]
    exact h1
theorem atI_rep {c : Cw} {H : Hp} {ds : List D} {vs : List V} {i : Int} {d : D} (r : RepL c H ds vs) (h : atI ds i = some d) : ∃ v, atI vs i = some v ∧ Rep c H d v := by
  unfold atI at h ⊢
  rw [r.length]
  cases e : ixN ds.length i with
  | none => rw [e] at h; cases h
  | some j => rw [e] at h; exact r.get h
def dIx : D → D → Option D
  | .tup l, .int i => ixD l i
  | .tupx l, .int i => ixD l i
  | .lst l, .int i => ixD l i
  | .lstx l, .int i => ixD l i
  | .str s, .int i => (match ixD s i with
    | some c => some (.str [c])
    | none => none)
  | _, _ => none
theorem okS_one {s : List Nat} {c : Nat} (h : okS s = true) (hc : c ∈ s) : okS [c] = true := by
  have h1 := List.all_eq_true.mp (Bool.and_eq_true_iff.mp h).1 c hc
  unfold okS
  rw [List.all_cons, h1]
  rfl
theorem atI_mem {α : Type} {l : List α} {i : Int} {d : α} (h : atI l i = some d) : d ∈ l := by
  unfold atI at h
  cases e : ixN l.length i with
  | none => rw [e] at h; cases h
  | some j => rw [e] at h; exact List.mem_of_getElem? h
theorem px_ix {a b : Expr} {f g : RE} {pos : Pos} (ha : PX C X a f) (hb : PX C X b g) (hs : PlainIx b := by exact fun _ _ => rfl) : PX C X (.Subscript a b pos) (o2 dIx f g) := by
  obtain ⟨ta, pa, ra⟩ := ha
  obtain ⟨tb, pb, rb⟩ := hb
  refine ⟨_, pe_ix ix_seq pa pb hs, fun σ H ρ d Q h e q => ?_⟩
  refine rd2 (C := C) (X := X) (fun H x y vx vy d Q rx ry e q => ?_) ra rb h e q
  have seq : ∀ {l : List D} {i : Int}, vy = .int i → ixD l i = some d → (∃ p vs, vx = .ref p ∧ RepL (cw C X) H l vs ∧ (SqT X.K H p vs ∨ SqL X.K H p vs)) → rIx X.K vx vy H Q := by
    rintro l i e1 e2 ⟨p, vs, h1, h2, h3⟩
    obtain ⟨v, z1, z2⟩ := atI_rep h2 (ixD_atI e2)
    rcases h3 with h3 | h3
    · exact .inr (.inl ⟨p, vs, i, v, h1, e1, h3, z1, q _ H (Same.refl H) z2⟩)
    · exact .inl ⟨p, vs, i, v, h1, e1, h3, z1, q _ H (Same.refl H) z2⟩
  cases x with
  | tup l =>
    cases y with
    | int i => obtain ⟨p, vs, h1, h2, h3, h4⟩ := rx; exact seq ry e ⟨p, vs, h1, h3, .inl h2⟩
    | _ => cases e
  | tupx l =>
    cases y with
    | int i => obtain ⟨p, vs, h1, h2, h3⟩ := rx; exact seq ry e ⟨p, vs, h1, h3, .inl h2⟩
    | _ => cases e
  | lst l =>
    cases y with
    | int i => obtain ⟨p, vs, h1, h2, h3, h4⟩ := rx; exact seq ry e ⟨p, vs, h1, h3, .inr (SqL.of h2)⟩
    | _ => cases e
  | lstx l =>
    cases y with
    | int i => obtain ⟨p, vs, h1, h2, h3⟩ := rx; exact seq ry e ⟨p, vs, h1, h3, .inr (SqL.of h2)⟩
    | _ => cases e
  | str s =>
    cases y with
    | int i =>
      have e' : (match ixD s i with
        | some c => some (D.str [c])
        | none => none) = some d := e
      cases e2 : ixD s i with
      | none => rw [e2] at e'; cases e'
      | some c =>
        rw [e2] at e'
        cases e'
        have e3 := ixD_atI e2
        exact .inr (.inr ⟨S s, i, c, rx.1, ry, okS_line rx.2, e3, q _ H (Same.refl H) ⟨rfl, okS_one rx.2 (atI_mem e3)⟩⟩)
    | _ => cases e
  | _ => cases e
/-! ### slices -/
def clampI (n : Nat) : Int → Nat
  | .ofNat m => cnd (Nat.ble n m) n m
  | .negSucc m => n - (m + 1)
def lo0 (n d : Nat) : Option Int → Nat
  | none => d
  | some i => clampI n i
theorem lo0_eq (n d : Nat) (o : Option Int) : lo0 n d o = HT.sIx n d o := by
  cases o with
  | none => rfl
  | some v =>
    show clampI n v = if v < 0 then (v + (n : Int)).toNat else min v.toNat n
    cases v with
    | ofNat m =>
      rw [if_neg (by have : (0 : Int) ≤ Int.ofNat m := Int.natCast_nonneg m; omega)]
      show cnd (Nat.ble n m) n m = min m n
      cases h : Nat.ble n m with
      | true =>
        have := Nat.le_of_ble_eq_true h
        show n = _
        omega
      | false =>
        have : ¬ n ≤ m := fun z => by rw [Nat.ble_eq_true_of_le z] at h; cases h
        show m = _
        omega
    | negSucc m =>
      rw [if_pos (by omega)]
      show n - (m + 1) = _
      omega
def takeD {α : Type} (n : Nat) (l : List α) : List α := @List.rec α (fun _ => Nat → List α) (fun _ => []) (fun x _ ih n => @Nat.rec (fun _ => List α) [] (fun k _ => x :: ih k) n) l n
def dropD {α : Type} (n : Nat) : List α → List α := @Nat.rec (fun _ => List α → List α) (fun l => l) (fun _ ih l => @List.rec α (fun _ => List α) [] (fun _ r _ => ih r) l) n
theorem takeD_eq {α : Type} : ∀ (n : Nat) (l : List α), takeD n l = l.take n
  | 0, l => by cases l <;> rfl
  | n + 1, [] => rfl
  | n + 1, x :: r => by show x :: takeD n r = _; rw [takeD_eq n r]; rfl
theorem dropD_eq {α : Type} : ∀ (n : Nat) (l : List α), dropD n l = l.drop n
  | 0, l => by cases l <;> rfl
  | n + 1, [] => rfl
  | n + 1, x :: r => by show dropD n r = _; rw [dropD_eq n r]; rfl
def cutD {α : Type} (l : List α) (lo hi : Option Int) : List α := takeD (lo0 l.length l.length hi - lo0 l.length 0 lo) (dropD (lo0 l.length 0 lo) l)
theorem cutD_eq {α : Type} (l : List α) (lo hi : Option Int) : cutD l lo hi = (l.drop (HT.sIx l.length 0 lo)).take (HT.sIx l.length l.length hi - HT.sIx l.length 0 lo) := by
  unfold cutD
  rw [takeD_eq, dropD_eq, lo0_eq, lo0_eq]
theorem cutD_rep {c : Cw} {H : Hp} {ds : List D} {vs : List V} (lo hi : Option Int) (r : RepL c H ds vs) : RepL c H (cutD ds lo hi) (cutV vs lo hi) := by
  rw [cutD_eq]
  unfold cutV
  rw [r.length]
  exact (r.drop _).take _
theorem all_cut {α : Type} {p : α → Bool} {l : List α} (lo hi : Option Int) (h : l.all p = true) : (cutD l lo hi).all p = true := by
  rw [cutD_eq, List.all_eq_true]
  exact fun x hx => List.all_eq_true.mp h x (List.mem_of_mem_drop (List.mem_of_mem_take hx))
theorem cut_len {α : Type} (l : List α) (lo hi : Option Int) : (cutD l lo hi).length ≤ l.length := by
  rw [cutD_eq, List.length_take, List.length_drop]
  omega
def dSl (x : D) (lo hi : Option Int) : Option D := match x with
  | .tup l => some (.tup (cutD l lo hi))
  | .lst l => some (.lst (cutD l lo hi))
  | .str s => some (.str (cutD s lo hi))
  | _ => none
abbrev RP := Rho → Option (Option Int)
def pNo : RP := fun _ => some none
def pSome (f : RE) : RP := fun ρ => match f ρ with
  | some (.int i) => some (some i)
  | _ => none
def OX (C : Addr) (X : Cx) (e : Option Expr) (f : RP) : Prop :=
  ∃ t, PO X e t ∧ ∀ σ H ρ o (Q : Option Int → Hp → Prop), SRep (cw C X) H σ ρ → f ρ = some o → (∀ H', Same H H' → Q o H') → t σ H Q
theorem ox_none : OX C X none pNo := ⟨_, po_none, fun σ H ρ o Q h e q => by cases e; exact q H (Same.refl H)⟩
theorem ox_some {e : Expr} {f : RE} (h : PX C X e f) : OX C X (some e) (pSome f) := by
  obtain ⟨t, p, r⟩ := h
  refine ⟨_, po_some p, fun σ H ρ o Q h e q => ?_⟩
  unfold pSome at e
  split at e
  · rename_i i e1
    cases e
    exact r σ H ρ _ _ h e1 fun v H1 s1 r1 => ⟨i, r1, q H1 s1⟩
  · cases e
def eSl (f : RE) (lo hi : RP) : RE := fun ρ => match f ρ with
  | some x => (match lo ρ with
    | some l => (match hi ρ with
      | some h => dSl x l h
      | none => none)
    | none => none)
  | none => none
theorem cutS_S (s : List Nat) (lo hi : Option Int) : cutS (S s) lo hi = S (cutD s lo hi) := by
  rw [cutD_eq]
  unfold cutS
  rw [S_len]
theorem px_sl {e : Expr} {lo hi : Option Expr} {f : RE} {fl fh : RP} {p2 pos : Pos} (he : PX C X e f) (hl : OX C X lo fl) (hh : OX C X hi fh) : PX C X (.Subscript e (.Slice lo hi none p2) pos) (eSl f fl fh) := by
  obtain ⟨ta, pa, ra⟩ := he
  obtain ⟨tl, pl, rl⟩ := hl
  obtain ⟨th, ph, rh⟩ := hh
  refine ⟨_, pe_slice (sl_tupA.or (SlR.or sl_list sl_str)) pa pl ph, fun σ H ρ d Q h e q => ?_⟩
  unfold eSl at e
  cases e1 : f ρ with
  | none => rw [e1] at e; cases e
  | some x =>
    rw [e1] at e
    cases e2 : fl ρ with
    | none => rw [e2] at e; cases e
    | some l =>
      rw [e2] at e
      cases e3 : fh ρ with
      | none => rw [e3] at e; cases e
      | some u =>
        rw [e3] at e
        refine ra σ H ρ x _ h e1 fun v H1 s1 r1 => ?_
        refine rl σ H1 ρ l _ (h.same s1) e2 fun H2 s2 => ?_
        refine rh σ H2 ρ u _ (h.same (s1.trans s2)) e3 fun H3 s3 => ?_
        have r3 := r1.same (s2.trans s3)
        have q3 := q.mono (s1.trans (s2.trans s3))
        cases x with
        | tup ds =>
          cases e
          obtain ⟨a, vs, z1, z2, z3, z4⟩ := r3
          refine .inl ⟨a, vs, z1, z2, fun ⟨w1, w2⟩ => q3 _ H3 (Same.refl H3) ⟨a, vs, rfl, z2, ?_, all_cut l u z4⟩, fun _ p hp => q3 _ _ (same_new hp) ⟨p, _, rfl, SqT.of upd_same, (cutD_rep l u z3).same (same_new hp), all_cut l u z4⟩⟩
          rw [cutD_eq, ← z3.length, w1, w2, List.drop_zero, Nat.sub_zero, z3.length, List.take_length]
          exact z3
        | lst ds =>
          cases e
          obtain ⟨a, vs, z1, z2, z3, z4⟩ := r3
          exact .inr (.inl ⟨a, vs, z1, SqL.of z2, fun p hp => q3 _ _ (same_new hp) ⟨p, _, rfl, upd_same, (cutD_rep l u z3).same (same_new hp), all_cut l u z4⟩⟩)
        | str s =>
          cases e
          refine .inr (.inr ⟨S s, r3.1, okS_line r3.2, ?_⟩)
          rw [cutS_S]
          refine q3 _ H3 (Same.refl H3) ⟨rfl, ?_⟩
          have h1 := (Bool.and_eq_true_iff.mp r3.2).1
          have h2 := okS_len r3.2
          have h3 := cut_len s l u
          unfold okS
          rw [all_cut l u h1, Nat.ble_eq_true_of_le (by omega)]
          rfl
        | _ => cases e
/-! ### built-in functions -/
/-- a built-in's call keeps to F -/
def CalD (C : Addr) (X : Cx) (f : Value) (F : List D → Option D) : Prop :=
  ∃ r, CallR X f r ∧ ∀ H ds vs d Q, RepL (cw C X) H ds vs → F ds = some d → Wt (cw C X) H d Q → r vs H Q
theorem px_callB {id : String} {F : List D → Option D} {x : Str} {p pos : Pos} {e : Expr} {es : List Expr} {f : RA} (hc : CalD C X (.builtin id) F) (hg : Gl X x) (hm : X.mg x = none) (hv : bootBuiltins x = some (.builtin id)) (ha : AX C X (e :: es) f)
    (hn : x ≠ "__name__" := by decide) (hd : (x == ("__debug__" : Str)) = false := by decide) (he : starEach (e :: es) X.env = (false, eval e X.env) :: starEach es X.env := by rfl) (hpl : (backTo pos (starEach es X.env)).any (·.1) = false := by rfl) :
    PX C X (.Call (.Name x p) (e :: es) [] pos) (eA F f) := by
  obtain ⟨r, o, hr⟩ := hc
  obtain ⟨t, pa, ra⟩ := ha
  refine ⟨_, pe_callB o hg hm hv pa hn hd he hpl, fun σ H ρ d Q h e q => ?_⟩
  obtain ⟨ds, e1, e2⟩ := eA_some e
  exact ra σ H ρ ds _ h e1 fun vs H1 s1 r1 => hr H1 ds vs d Q r1 e2 (q.mono s1)
theorem px_callTy {id : String} {F : List D → Option D} {x : Str} {p pos : Pos} {e : Expr} {es : List Expr} {f : RA} (hc : CalD C X (.type id) F) (hg : Gl X x) (hm : X.mg x = none) (hv : bootBuiltins x = some (.type id)) (ha : AX C X (e :: es) f)
    (hn : x ≠ "__name__" := by decide) (hd : (x == ("__debug__" : Str)) = false := by decide) (he : starEach (e :: es) X.env = (false, eval e X.env) :: starEach es X.env := by rfl) (hpl : (backTo pos (starEach es X.env)).any (·.1) = false := by rfl) :
    PX C X (.Call (.Name x p) (e :: es) [] pos) (eA F f) := by
  obtain ⟨r, o, hr⟩ := hc
  obtain ⟨t, pa, ra⟩ := ha
  refine ⟨_, pe_callTy o hg hm hv pa hn hd he hpl, fun σ H ρ d Q h e q => ?_⟩
  obtain ⟨ds, e1, e2⟩ := eA_some e
  exact ra σ H ρ ds _ h e1 fun vs H1 s1 r1 => hr H1 ds vs d Q r1 e2 (q.mono s1)
theorem RepL.one {c : Cw} {H : Hp} {d : D} {vs : List V} (r : RepL c H [d] vs) : ∃ v, vs = [v] ∧ Rep c H d v := by
  obtain ⟨v, r2, h1, h2, h3⟩ := r
  rw [show r2 = [] from h3] at h1
  exact ⟨v, h1, h2⟩
theorem RepL.two {c : Cw} {H : Hp} {d e : D} {vs : List V} (r : RepL c H [d, e] vs) : ∃ v u, vs = [v, u] ∧ Rep c H d v ∧ Rep c H e u := by
  obtain ⟨v, r2, h1, h2, h3⟩ := r
  obtain ⟨u, h4, h5⟩ := RepL.one h3
  rw [h4] at h1
  exact ⟨v, u, h1, h2, h5⟩
/-- a function of one, two, three arguments -/
def f1 (F : D → Option D) : List D → Option D
  | [x] => F x
  | _ => none
def f2 (F : D → D → Option D) : List D → Option D
  | [x, y] => F x y
  | _ => none
def f3 (F : D → D → D → Option D) : List D → Option D
  | [x, y, z] => F x y z
  | _ => none
theorem f1_some {F : D → Option D} {ds : List D} {d : D} (h : f1 F ds = some d) : ∃ x, ds = [x] ∧ F x = some d := by
  cases ds with
  | nil => cases h
  | cons x r =>
    cases r with
    | nil => exact ⟨x, rfl, h⟩
    | cons _ _ => cases h
theorem f2_some {F : D → D → Option D} {ds : List D} {d : D} (h : f2 F ds = some d) : ∃ x y, ds = [x, y] ∧ F x y = some d := by
  cases ds with
  | nil => cases h
  | cons x r =>
    cases r with
    | nil => cases h
    | cons y r =>
      cases r with
      | nil => exact ⟨x, y, rfl, h⟩
      | cons _ _ => cases h
theorem f3_some {F : D → D → D → Option D} {ds : List D} {d : D} (h : f3 F ds = some d) : ∃ x y z, ds = [x, y, z] ∧ F x y z = some d := by
  cases ds with
  | nil => cases h
  | cons x r =>
    cases r with
    | nil => cases h
    | cons y r =>
      cases r with
      | nil => cases h
      | cons z r =>
        cases r with
        | nil => exact ⟨x, y, z, rfl, h⟩
        | cons _ _ => cases h
def len1 : D → Option D
  | .str s => some (.int (Int.ofNat s.length))
  | .tup s => some (.int (Int.ofNat s.length))
  | .lst s => some (.int (Int.ofNat s.length))
  | .lstx s => some (.int (Int.ofNat s.length))
  | _ => none
theorem cl_len : CalD C X (.builtin "len") (f1 len1) := by
  refine ⟨_, call_len, fun H ds vs d Q r e q => ?_⟩
  obtain ⟨x, rfl, e⟩ := f1_some e
  obtain ⟨v, rfl, h⟩ := r.one
  cases x with
  | str s =>
    cases e
    obtain rfl := h.1
    exact ⟨_, s.length, rfl, ⟨okS_line h.2, (S_len s).symm⟩, q _ H (Same.refl H) rfl⟩
  | tup s =>
    cases e
    obtain ⟨a, ws, h1, h2, h3, h4⟩ := h
    subst h1
    exact ⟨_, s.length, rfl, .inr ⟨ws, h2, h3.length.symm⟩, q _ H (Same.refl H) rfl⟩
  | lst s =>
    cases e
    obtain ⟨a, ws, h1, h2, h3, h4⟩ := h
    subst h1
    exact ⟨_, s.length, rfl, .inl ⟨ws, SqL.of h2, h3.length.symm⟩, q _ H (Same.refl H) rfl⟩
  | lstx s =>
    cases e
    obtain ⟨a, ws, h1, h2, h3⟩ := h
    subst h1
    exact ⟨_, s.length, rfl, .inl ⟨ws, SqL.of h2, h3.length.symm⟩, q _ H (Same.refl H) rfl⟩
  | _ => cases e
def int1 : D → Option D
  | .bl b => some (.int (cond b 1 0))
  | .int i => some (.int i)
  | _ => none
theorem cl_int : CalD C X (.type "int") (f1 int1) := by
  refine ⟨_, call_int1, fun H ds vs d Q r e q => ?_⟩
  obtain ⟨x, rfl, e⟩ := f1_some e
  obtain ⟨v, rfl, h⟩ := r.one
  cases x with
  | bl b =>
    cases e
    obtain rfl : v = .bl b := h
    refine .inr ⟨b, rfl, ?_⟩
    cases b <;> exact q _ H (Same.refl H) rfl
  | int i =>
    cases e
    obtain rfl : v = .int i := h
    exact .inl ⟨i, rfl, q _ H (Same.refl H) rfl⟩
  | _ => cases e
def max2 : D → D → Option D := dInt2 fun i j => .int (cnd (iLt i j) j i)
theorem dInt2_some {F : Int → Int → D} {x y d : D} (h : dInt2 F x y = some d) : ∃ i j, x = .int i ∧ y = .int j ∧ d = F i j := by
  cases x with
  | int i =>
    cases y with
    | int j => cases h; exact ⟨i, j, rfl, rfl, rfl⟩
    | _ => cases h
  | _ => cases h
theorem cl_max (hc : X.calm = true) : CalD C X (.builtin "max") (f2 max2) := by
  refine ⟨_, call_max2 hc, fun H ds vs d Q r e q => ?_⟩
  obtain ⟨x, y, rfl, e⟩ := f2_some e
  obtain ⟨i, j, rfl, rfl, rfl⟩ := dInt2_some e
  obtain ⟨v, u, rfl, h1, h2⟩ := r.two
  obtain rfl : v = .int i := h1
  obtain rfl : u = .int j := h2
  refine ⟨i, j, rfl, ?_⟩
  have z := q (.int (cnd (iLt i j) j i)) H (Same.refl H) rfl
  rw [iLt_eq] at z
  by_cases h : i < j
  · rw [decide_eq_true h] at z
    rw [if_pos (show j > i from h)]
    exact z
  · rw [decide_eq_false h] at z
    rw [if_neg (show ¬ j > i from h)]
    exact z
def bl1 : D → Option Bool
  | .bl b => some b
  | _ => none
def blsOf : List D → Option (List Bool)
  | [] => some []
  | x :: r => (match bl1 x with
    | some b => (match blsOf r with
      | some l => some (b :: l)
      | none => none)
    | none => none)
theorem blsOf_rep {c : Cw} {H : Hp} : ∀ {ds : List D} {bs : List Bool} {vs : List V}, blsOf ds = some bs → RepL c H ds vs → vs = bs.map V.bl
  | [], _, _, e, r => by cases e; exact r
  | x :: ds, bs, vs, e, r => by
    obtain ⟨v, r2, h1, h2, h3⟩ := r
    have e' : (match bl1 x with
      | some b => (match blsOf ds with
        | some l => some (b :: l)
        | none => none)
      | none => none) = some bs := e
    cases e1 : bl1 x with
    | none => rw [e1] at e'; cases e'
    | some b =>
      rw [e1] at e'
      cases e2 : blsOf ds with
      | none => rw [e2] at e'; cases e'
      | some l =>
        rw [e2] at e'
        cases e'
        have hx : x = .bl b := by
          cases x with
          | bl b' => cases e1; rfl
          | _ => cases e1
        subst hx
        rw [h1, show v = _ from h2, blsOf_rep e2 h3]
        rfl
def blF (F : List Bool → Bool) : D → Option D
  | .lst l => (match blsOf l with
    | some bs => some (.bl (F bs))
    | none => none)
  | _ => none
theorem blF_some {F : List Bool → Bool} {x d : D} (h : blF F x = some d) : ∃ l bs, x = .lst l ∧ blsOf l = some bs ∧ d = .bl (F bs) := by
  cases x with
  | lst l =>
    have e' : (match blsOf l with
      | some bs => some (D.bl (F bs))
      | none => none) = some d := h
    cases e2 : blsOf l with
    | none => rw [e2] at e'; cases e'
    | some bs =>
      rw [e2] at e'
      cases e'
      exact ⟨l, bs, rfl, e2, rfl⟩
  | _ => cases h
def any1 : D → Option D := blF fun bs => bs.any id
def all1 : D → Option D := blF fun bs => bs.all id
theorem cl_any (hc : X.calm = true) : CalD C X (.builtin "any") (f1 any1) := by
  refine ⟨_, cr_any hc, fun H ds vs d Q r e q => ?_⟩
  obtain ⟨x, rfl, e⟩ := f1_some e
  obtain ⟨v, rfl, h⟩ := r.one
  obtain ⟨l, bs, rfl, e2, rfl⟩ := blF_some e
  obtain ⟨a, ws, h1, h2, h3, h4⟩ := h
  subst h1
  exact ⟨a, bs, rfl, by rw [← blsOf_rep e2 h3]; exact SqL.of h2, q _ H (Same.refl H) rfl⟩
theorem cl_all (hc : X.calm = true) : CalD C X (.builtin "all") (f1 all1) := by
  refine ⟨_, cr_all hc, fun H ds vs d Q r e q => ?_⟩
  obtain ⟨x, rfl, e⟩ := f1_some e
  obtain ⟨v, rfl, h⟩ := r.one
  obtain ⟨l, bs, rfl, e2, rfl⟩ := blF_some e
  obtain ⟨a, ws, h1, h2, h3, h4⟩ := h
  subst h1
  exact ⟨a, bs, rfl, by rw [← blsOf_rep e2 h3]; exact SqL.of h2, q _ H (Same.refl H) rfl⟩
end
end
end Rp
set_option Elab.async false
set_option linter.all false
set_option maxRecDepth 100000
set_option maxHeartbeats 1000000
namespace Rp
noncomputable section
open PySem PySem.Spec PyProof.Rows L2 SX
/-! ### defs of the text, called -/
/-- a def's promise by data -/
def spM (c : Cw) (m : List D → Option D) : Sp := fun vs H Q _ => ∃ ds d, RepL c H ds vs ∧ m ds = some d ∧ Wt c H d Q
structure FnC (P : Program) (w : World) (K : PySem.W.Frag) (mg : Str → Option Value) (base : Heap) (C : Addr) (k : Nat) (x : Str) (m : List D → Option D) : Prop where
  ex : ∃ f, FnR P w K mg base L2.CX0 k f (spM ⟨C, K, w⟩ m) ∧ mg x = some (.ref f) ∧ PySem.W.keepIn K (.ref f) = true
structure MtC (P : Program) (w : World) (K : PySem.W.Frag) (mg : Str → Option Value) (base : Heap) (C : Addr) (k : Nat) (x : Str) (m : List D → Option D) : Prop where
  ex : ∃ f, Meth K C x f ∧ FnR P w K mg base L2.CX0 k f (spM ⟨C, K, w⟩ m)
/-- what State's __init__ promises: dv its defaults -/
def spI (C : Addr) (dv : List V) : Sp := fun vs H Q _ => ∃ x dx vl vg vf vp vt, vs ++ dv.drop (vs.length - 1) = [.ref x, vl, vg, vf, vp, vt] ∧ H x = some (.ins C dx []) ∧ Q .non (upd H x (.ins C dx (flds vl vg vf vp vt)))
structure MkC (P : Program) (w : World) (K : PySem.W.Frag) (mg : Str → Option Value) (base : Heap) (C : Addr) (k : Nat) (x : Str) (dd : List D) : Prop where
  ex : ∃ f dv, Mk K C f ∧ FnR P w K mg base L2.CX0 k f (spI C dv) ∧ mg x = some (.ref C) ∧ ∀ H, RepL ⟨C, K, w⟩ H dd dv
section
variable {C : Addr} {X : Cx}
abbrev FnX (C : Addr) (X : Cx) (k : Nat) (x : Str) (m : List D → Option D) : Prop := FnC X.prog X.w X.K X.mg X.base C k x m
abbrev MtX (C : Addr) (X : Cx) (k : Nat) (x : Str) (m : List D → Option D) : Prop := MtC X.prog X.w X.K X.mg X.base C k x m
abbrev MkX (C : Addr) (X : Cx) (k : Nat) (x : Str) (dd : List D) : Prop := MkC X.prog X.w X.K X.mg X.base C k x dd
theorem px_call {k j : Nat} {x : Str} {m : List D → Option D} {p pos : Pos} {e : Expr} {es : List Expr} {f : RA} (F : FnX C X k x m) (hr : Room j X.A) (hk : k ≤ j) (ha : AX C X (e :: es) f) (hg : Gl X x := by rfl)
    (hd : (x == ("__debug__" : Str)) = false := by decide) (he : starEach (e :: es) X.env = (false, eval e X.env) :: starEach es X.env := by rfl) (hpl : (backTo pos (starEach es X.env)).any (·.1) = false := by rfl) :
    PX C X (.Call (.Name x p) (e :: es) [] pos) (eA m f) := by
  obtain ⟨fa, F, hm, kp⟩ := F.ex
  obtain ⟨t, pa, ra⟩ := ha
  refine ⟨fun σ H Q => t σ H fun vs H1 => spM (cw C X) m vs H1 Q E0, ⟨fun pins s σ H Q I h => ?_⟩, fun σ H ρ d Q h e q => ?_⟩
  · refine wpAny_Call_Name_kw (ld_glob I hg hm ?_ hd)
    refine PySem.W.callWith_K (h₀ := X.base) I.ok.mod.kin kp (thn (pa.run pos pins s σ H _ I h) fun us s1 ⟨vs, H1, I1, r, q⟩ => ⟨I1.kIn, ?_⟩) he hpl
    exact wpAny_call (run_fnR F (hr.mono hk) pass0 I1 r q)
  · obtain ⟨ds, e1, e2⟩ := eA_some e
    exact ra σ H ρ ds _ h e1 fun vs H1 s1 r1 => ⟨ds, d, r1, e2, q.mono s1⟩
theorem px_call0 {k j : Nat} {x : Str} {m : List D → Option D} {p pos : Pos} (F : FnX C X k x m) (hr : Room j X.A) (hk : k ≤ j) (hg : Gl X x := by rfl)
    (hd : (x == ("__debug__" : Str)) = false := by decide) : PX C X (.Call (.Name x p) [] [] pos) (eA m aNil) := by
  obtain ⟨fa, F, hm, kp⟩ := F.ex
  refine ⟨fun σ H Q => spM (cw C X) m [] H Q E0, ⟨fun pins s σ H Q I h => ?_⟩, fun σ H ρ d Q h e q => ?_⟩
  · refine wpAny_Call_Name_kw (ld_glob I hg hm ?_ hd)
    exact PySem.W.callWith_K0 I.kIn kp (wpAny_call (run_fnR (us := []) F (hr.mono hk) pass0 I .nil h))
  · exact ⟨[], d, rfl, e, q⟩
/-- o.m(..), o a State -/
def eM (m : List D → Option D) (fo : RE) (fa : RA) : RE := fun ρ => match fo ρ with
  | some (.st l g f p t) => (match fa ρ with
    | some ds => m (.st l g f p t :: ds)
    | none => none)
  | _ => none
theorem flds_no (m : Str) (h : ([("levels" : Str), "goal", "frames", "phase", "token"] : List Str).contains m = false) (l g f p t : V) : (flds l g f p t).lookup m = none := by
  simp only [List.contains_cons, Bool.or_eq_false_iff, List.contains_nil] at h
  obtain ⟨h1, h2, h3, h4, h5, _⟩ := h
  unfold flds
  simp only [List.lookup, h1, h2, h3, h4, h5]
theorem px_meth {k j : Nat} {m : Str} {M : List D → Option D} {o e : Expr} {es : List Expr} {fo : RE} {fa : RA} {apos pos : Pos} {pl : Sem Bool} (F : MtX C X k m M) (T : ClsS X.K C) (hr : Room j X.A) (hk : k ≤ j) (ho : PX C X o fo) (ha : AX C X (e :: es) fa)
    (hm : ([("levels" : Str), "goal", "frames", "phase", "token"] : List Str).contains m = false := by decide +kernel)
    (hst : starEach (e :: es) X.env = (false, eval e X.env) :: starEach es X.env := by rfl) (hpl : (backTo pos (starEach es X.env)).any (·.1) = false := by rfl)
    (ht : eval (.Call (.Attribute o m apos) (e :: es) [] pos) X.env = (do
      let ov ← eval o X.env
      standAt apos.atName
      let (f, first) ← holding [ov] (getMethod ov m pl)
      callWith pos f first (backTo pos (starEach (e :: es) X.env)) (backToKw pos (keywordEach [] X.env))) := by rfl) :
    PX C X (.Call (.Attribute o m apos) (e :: es) [] pos) (eM M fo fa) := by
  obtain ⟨f, me, F⟩ := F.ex
  obtain ⟨to, po, ro⟩ := ho
  obtain ⟨t, pa, ra⟩ := ha
  refine ⟨_, pe_methR (pl := pl) (E := E0) po T.cl me F (hr.mono hk) pass0 pa hst hpl ht, fun σ H ρ d Q h e q => ?_⟩
  unfold eM at e
  split at e
  · rename_i l g fr p tk e1
    cases e2 : fa ρ with
    | none => rw [e2] at e; cases e
    | some ds =>
      rw [e2] at e
      refine ro σ H ρ _ _ h e1 fun v H1 s1 r1 => ?_
      obtain ⟨a, dx, vl, vg, vf, vp, vt, h1, h2, h3⟩ := id r1
      refine ⟨a, dx, _, h1, h2, flds_no m hm _ _ _ _ _, ra σ H1 ρ ds _ (h.same s1) e2 fun vs H2 s2 r2 => ?_⟩
      subst h1
      exact ⟨_ :: ds, d, ⟨_, vs, rfl, r1.same s2, r2⟩, e, q.mono (s1.trans s2)⟩
  · cases e
theorem px_meth0 {k j : Nat} {m : Str} {M : List D → Option D} {o : Expr} {fo : RE} {apos pos : Pos} {pl : Sem Bool} (F : MtX C X k m M) (T : ClsS X.K C) (hr : Room j X.A) (hk : k ≤ j) (ho : PX C X o fo)
    (hm : ([("levels" : Str), "goal", "frames", "phase", "token"] : List Str).contains m = false := by decide +kernel)
    (ht : eval (.Call (.Attribute o m apos) [] [] pos) X.env = (do
      let ov ← eval o X.env
      standAt apos.atName
      let (f, first) ← holding [ov] (getMethod ov m pl)
      callWith pos f first (backTo pos (starEach [] X.env)) (backToKw pos (keywordEach [] X.env))) := by rfl) :
    PX C X (.Call (.Attribute o m apos) [] [] pos) (eM M fo aNil) := by
  obtain ⟨f, me, F⟩ := F.ex
  obtain ⟨to, po, ro⟩ := ho
  refine ⟨fun σ H Q => to σ H fun x H1 => ∃ a dx fs, x = .ref a ∧ H1 a = some (.ins C dx fs) ∧ fs.lookup m = none ∧ spM (cw C X) M [x] H1 Q E0, ⟨fun pins s σ H Q I h => ?_⟩, fun σ H ρ d Q h e q => ?_⟩
  · refine PySem.W.methodCall_KW (pl := pl) (thn (po.run pins s σ H _ I h) fun u s1 ⟨x, H1, I1, rx, a, dx, fs, ex, ea, l, q⟩ => ?_) ht
    subst ex
    obtain rfl : u = Value.ref a := rx
    refine getmeth_ok I1 ea T.cl me l ?_
    exact PySem.W.callWith_K0 (first := [.ref a]) I1.kIn me.kp (wpAny_call (run_fnR (us := [.ref a]) (vs := [.ref a]) F (hr.mono hk) pass0 I1 (.cons rfl .nil) q))
  · unfold eM at e
    split at e
    · rename_i l g fr p tk e1
      refine ro σ H ρ _ _ h e1 fun v H1 s1 r1 => ?_
      obtain ⟨a, dx, vl, vg, vf, vp, vt, h1, h2, h3⟩ := id r1
      exact ⟨a, dx, _, h1, h2, flds_no m hm _ _ _ _ _, [.st l g fr p tk], d, ⟨v, [], rfl, r1, rfl⟩, e, q.mono s1⟩
    · cases e
/-- a new State -/
def mkSt (dd : List D) (ds : List D) : Option D := match ds ++ dropD ds.length dd with
  | [l, g, f, p, t] => some (.st l g f p t)
  | _ => none
theorem mkSt_ok {dd ds : List D} {d : D} {c : Cw} {H1 : Hp} {dv vs : List V} {Q : VK} {C : Addr} (hC : c.C = C) (e : mkSt dd ds = some d) (r : RepL c H1 ds vs) (rd : ∀ H, RepL c H dd dv) (q : Wt c H1 d Q) {x dx : Addr} (hx : H1 x = none) (hdx : H1 dx = none) (ne : dx ≠ x) :
    spI C dv (.ref x :: vs) (upd (upd H1 dx (.own x)) x (.ins C dx [])) (fun v H2 => v = .non ∧ Q (.ref x) H2) E0 := by
  subst hC
  have r2 : RepL c H1 (ds ++ dropD ds.length dd) (vs ++ dv.drop vs.length) := by
    rw [dropD_eq, r.length]
    exact r.append ((rd H1).drop _)
  unfold mkSt at e
  generalize ds ++ dropD ds.length dd = all at e r2
  match all, e, r2 with
  | [l, g, f, p, t], e, r2 =>
    cases e
    obtain ⟨vl, w1, z1, a1, r3⟩ := r2
    obtain ⟨vg, w2, z2, a2, r4⟩ := r3
    obtain ⟨vf, w3, z3, a3, r5⟩ := r4
    obtain ⟨vp, w4, z4, a4, r6⟩ := r5
    obtain ⟨vt, w5, z5, a5, r7⟩ := r6
    have z6 : w5 = [] := r7
    subst z6 z5 z4 z3 z2
    refine ⟨x, dx, vl, vg, vf, vp, vt, by rw [List.length_cons, Nat.add_sub_cancel, List.cons_append, z1], upd_same, rfl, ?_⟩
    have sm : Same H1 (upd (upd (upd H1 dx (.own x)) x (.ins c.C dx [])) x (.ins c.C dx (flds vl vg vf vp vt))) := fun b u eb => by
      rw [upd_ne (ne_of_none eb hx), upd_ne (ne_of_none eb hx), upd_ne (ne_of_none eb hdx)]
      exact eb
    exact q _ _ sm ⟨x, dx, vl, vg, vf, vp, vt, rfl, upd_same, a1.same sm, a2.same sm, a3.same sm, a4.same sm, a5.same sm⟩
theorem px_make {k j : Nat} {x : Str} {dd : List D} {p pos : Pos} {e : Expr} {es : List Expr} {f : RA} (F : MkX C X k x dd) (hr : Room j X.A) (hk : k + 1 ≤ j) (ha : AX C X (e :: es) f) (hg : Gl X x := by rfl)
    (hd : (x == ("__debug__" : Str)) = false := by decide) (he : starEach (e :: es) X.env = (false, eval e X.env) :: starEach es X.env := by rfl) (hpl : (backTo pos (starEach es X.env)).any (·.1) = false := by rfl) :
    PX C X (.Call (.Name x p) (e :: es) [] pos) (eA (mkSt dd) f) := by
  obtain ⟨fa, dv, M, F, hm, rd⟩ := F.ex
  obtain ⟨t, pa, ra⟩ := ha
  refine ⟨_, StX.pe_makeR (E := E0) M F (hr.mono hk) hg hm pass0 pa hd he hpl, fun σ H ρ d Q h e q => ?_⟩
  obtain ⟨ds, e1, e2⟩ := eA_some e
  exact ra σ H ρ ds _ h e1 fun vs H1 s1 r1 x dx hx hdx ne => mkSt_ok (c := cw C X) rfl e2 r1 rd (q.mono s1) hx hdx ne
theorem px_make0 {k j : Nat} {x : Str} {dd : List D} {p pos : Pos} (F : MkX C X k x dd) (hr : Room j X.A) (hk : k + 1 ≤ j) (hg : Gl X x := by rfl) (hd : (x == ("__debug__" : Str)) = false := by decide) :
    PX C X (.Call (.Name x p) [] [] pos) (eA (mkSt dd) aNil) := by
  obtain ⟨fa, dv, M, F, hm, rd⟩ := F.ex
  refine ⟨fun σ H Q => ∀ x dx, H x = none → H dx = none → dx ≠ x → spI C dv [.ref x] (upd (upd H dx (.own x)) x (.ins C dx [])) (fun v H2 => v = .non ∧ Q (.ref x) H2) E0, ⟨fun pins s σ H Q I h => ?_⟩, fun σ H ρ d Q h e q => ?_⟩
  · refine wpAny_Call_Name_kw (ld_glob I hg hm ?_ hd)
    exact PySem.W.callWith_K0 I.kIn M.kp (StX.run_makeR (us := []) M F (hr.mono hk) pass0 I .nil h)
  · exact fun x dx hx hdx ne => mkSt_ok (c := cw C X) rfl e (show RepL (cw C X) H [] [] from rfl) rd q hx hdx ne
end
/-! ### statements -/
inductive R where
  | nx (ρ : Rho) | rt (d : D) | bk (ρ : Rho) | ct (ρ : Rho)
abbrev RS := Rho → Option R
def Aft (c : Cw) (H : Hp) (D : Ends) : R → Prop
  | .nx ρ => ∀ σ' H', Same H H' → SRep c H' σ' ρ → D.nx σ' H'
  | .rt d => Wt c H d D.rt
  | .bk ρ => ∀ σ' H', Same H H' → SRep c H' σ' ρ → D.bk σ' H'
  | .ct ρ => ∀ σ' H', Same H H' → SRep c H' σ' ρ → D.ct σ' H'
theorem Aft.mono {c : Cw} {H H' : Hp} {D : Ends} {r : R} (e : Same H H') (h : Aft c H D r) : Aft c H' D r := by
  cases r with
  | nx ρ => exact fun σ H2 s => h σ H2 (e.trans s)
  | rt d => exact Wt.mono e h
  | bk ρ => exact fun σ H2 s => h σ H2 (e.trans s)
  | ct ρ => exact fun σ H2 s => h σ H2 (e.trans s)
def SX (C : Addr) (X : Cx) (st : Stmt) (f : RS) : Prop :=
  ∃ t, PS X st t ∧ ∀ σ H ρ r (D : Ends), SRep (cw C X) H σ ρ → f ρ = some r → Aft (cw C X) H D r → t D σ H
def BX (C : Addr) (X : Cx) (st : List Stmt) (f : RS) : Prop :=
  ∃ t, PSs X st t ∧ ∀ σ H ρ r (D : Ends), SRep (cw C X) H σ ρ → f ρ = some r → Aft (cw C X) H D r → t D σ H
section
variable {C : Addr} {X : Cx}
def sNx : RS := fun ρ => some (.nx ρ)
def sSeq (f g : RS) : RS := fun ρ => match f ρ with
  | some (.nx ρ') => g ρ'
  | r => r
theorem bx_nil : BX C X [] sNx := ⟨_, pss_nil, fun σ H ρ r D h e q => by cases e; exact q σ H (Same.refl H) h⟩
theorem bx_one {st : Stmt} {f : RS} (h : SX C X st f) : BX C X [st] f := by
  obtain ⟨t, p, r⟩ := h
  exact ⟨_, pss_one p, r⟩
theorem bx_cons {st : Stmt} {rest : List Stmt} {f g : RS} (h1 : SX C X st f) (h2 : BX C X rest g) : BX C X (st :: rest) (sSeq f g) := by
  obtain ⟨t, p, r1⟩ := h1
  obtain ⟨u, p2, r2⟩ := h2
  refine ⟨_, pss_cons p p2, fun σ H ρ r D h e q => ?_⟩
  unfold sSeq at e
  cases e1 : f ρ with
  | none => rw [e1] at e; cases e
  | some a =>
    rw [e1] at e
    refine r1 σ H ρ a _ h e1 ?_
    cases a with
    | nx ρ' => exact fun σ' H' s h' => r2 σ' H' ρ' r D h' e (q.mono s)
    | rt d => cases e; exact q
    | bk ρ' => cases e; exact q
    | ct ρ' => cases e; exact q
def sRet (f : RE) : RS := fun ρ => match f ρ with
  | some d => some (.rt d)
  | none => none
theorem sx_ret {e : Expr} {f : RE} {pos : Pos} (h : PX C X e f) : SX C X (.Return (some e) pos) (sRet f) := by
  obtain ⟨t, p, r⟩ := h
  refine ⟨_, ps_ret p, fun σ H ρ a D h e q => ?_⟩
  unfold sRet at e
  cases e1 : f ρ with
  | none => rw [e1] at e; cases e
  | some d => rw [e1] at e; cases e; exact r σ H ρ d _ h e1 q
def sIf (t : RT) (f g : RS) : RS := fun ρ => match t ρ with
  | some true => f ρ
  | some false => g ρ
  | none => none
theorem sx_if {c : Expr} {a b : List Stmt} {t : RT} {f g : RS} {pos : Pos} (hc : TX C X c t) (ha : BX C X a f) (hb : BX C X b g) : SX C X (.If c a b pos) (sIf t f g) := by
  obtain ⟨tc, pc, rc⟩ := hc
  obtain ⟨ta, pa, ra⟩ := ha
  obtain ⟨tb, pb, rb⟩ := hb
  refine ⟨_, ps_if pc pa pb, fun σ H ρ r D h e q => ?_⟩
  unfold sIf at e
  split at e
  · rename_i e1
    refine rc σ H ρ true _ h e1 fun H1 s1 => ?_
    rw [if_pos rfl]
    exact ra σ H1 ρ r D (h.same s1) e (q.mono s1)
  · rename_i e1
    refine rc σ H ρ false _ h e1 fun H1 s1 => ?_
    rw [if_neg Bool.false_ne_true]
    exact rb σ H1 ρ r D (h.same s1) e (q.mono s1)
  · cases e
def sSet (i : Nat) (f : RE) : RS := fun ρ => match f ρ with
  | some d => some (.nx (ρ.set i (some d)))
  | none => none
theorem sx_set {i : Nat} {x : Str} {e : Expr} {f : RE} {pos pos' : Pos} (hN : X.N.Nodup) (he : PX C X e f) (hi : X.N[i]? = some x := by rfl) (hx : Loc X.env.scope x := by first | exact Or.inl rfl | exact Or.inr rfl) (hs : swapsWith e (some (.Name x pos')) pos.line X.env = pure false := by rfl)
    (hf : X.fn x = true ∨ X.env.scope.names.lookup x = some .local := by first | exact .inl rfl | exact .inr rfl) : SX C X (.Assign [.Name x pos'] e pos) (sSet i f) := by
  obtain ⟨t, p, r⟩ := he
  refine ⟨_, ps_set hN hi hx p hs hf, fun σ H ρ a D h e q => ?_⟩
  unfold sSet at e
  cases e1 : f ρ with
  | none => rw [e1] at e; cases e
  | some d =>
    rw [e1] at e
    cases e
    exact r σ H ρ d _ h e1 fun v H1 s1 r1 => q _ H1 s1 ((h.same s1).set i r1)
def sCont : RS := fun ρ => some (.ct ρ)
theorem sx_cont {pos : Pos} : SX C X (.Continue pos) sCont := ⟨_, ps_continue, fun σ H ρ r D h e q => by cases e; exact q σ H (Same.refl H) h⟩
/-- what is never reached -/
def sNo : RS := fun _ => none
theorem sx_no {st : Stmt} : SX C X st sNo := ⟨_, ps_never, fun σ H ρ r D h e q => by cases e⟩
/-- a, b, .. = a tuple -/
def setAll : List Nat → List D → Rho → Option Rho
  | [], [], ρ => some ρ
  | i :: is, d :: ds, ρ => setAll is ds (ρ.set i (some d))
  | _, _, _ => none
/-- several names as targets -/
def GX (C : Addr) (X : Cx) (ts : List Expr) (is : List Nat) : Prop :=
  ∃ t, PGs X ts t ∧ ∀ σ H ρ ds vs ρ' (Q : L2.St → Hp → Prop), SRep (cw C X) H σ ρ → RepL (cw C X) H ds vs → setAll is ds ρ = some ρ' → (∀ σ', SRep (cw C X) H σ' ρ' → Q σ' H) → t vs σ H Q
theorem gx_nil : GX C X [] [] := ⟨_, pgs_nil, fun σ H ρ ds vs ρ' Q h r e q => by
  cases ds with
  | nil => cases e; exact ⟨r, q σ h⟩
  | cons _ _ => cases e⟩
theorem gx_cons {x : Str} {p : Pos} {es : List Expr} {is : List Nat} (i : Nat) (hN : X.N.Nodup) (hr : GX C X es is) (hi : X.N[i]? = some x := by rfl) (hx : Loc X.env.scope x := by first | exact Or.inl rfl | exact Or.inr rfl)
    (hf : X.fn x = true ∨ X.env.scope.names.lookup x = some .local := by first | exact .inl rfl | exact .inr rfl) (hs : (assignEach (.Name x p :: es) X.env).map (·.2) = assign (.Name x p) X.env :: (assignEach es X.env).map (·.2) := by rfl) : GX C X (.Name x p :: es) (i :: is) := by
  obtain ⟨t, pg, r⟩ := hr
  refine ⟨_, pgs_cons (pg_name hN hi hx hf) pg hs, fun σ H ρ ds vs ρ' Q h rr e q => ?_⟩
  cases ds with
  | nil => cases e
  | cons d ds =>
    obtain ⟨v, r2, h1, h2, h3⟩ := rr
    exact ⟨v, r2, h1, r _ H _ ds r2 ρ' Q (h.set i h2) h3 e q⟩
def tupOf : D → Option (List D)
  | .tup l => some l
  | .tupx l => some l
  | _ => none
theorem tupOf_rep {c : Cw} {H : Hp} {d : D} {l : List D} {v : V} (e : tupOf d = some l) (r : Rep c H d v) : ∃ a vs, v = .ref a ∧ SqT c.K H a vs ∧ RepL c H l vs := by
  cases d with
  | tup l => cases e; obtain ⟨a, vs, h1, h2, h3, h4⟩ := r; exact ⟨a, vs, h1, h2, h3⟩
  | tupx l => cases e; exact r
  | _ => cases e
theorem setAll_len : ∀ {is : List Nat} {ds : List D} {ρ ρ' : Rho}, setAll is ds ρ = some ρ' → ds.length = is.length
  | [], [], _, _, _ => rfl
  | i :: is, d :: ds, ρ, ρ', e => by
    have := setAll_len (is := is) (ds := ds) e
    simp [this]
  | [], _ :: _, _, _, e => by cases e
  | _ :: _, [], _, _, e => by cases e
/-- a target that is a tuple of names -/
def sUnp (is : List Nat) (f : RE) : RS := fun ρ => match f ρ with
  | some d => (match tupOf d with
    | some l => (match setAll is l ρ with
      | some ρ' => some (.nx ρ')
      | none => none)
    | none => none)
  | none => none
theorem gx_tup {ts : List Expr} {is : List Nat} {n : Nat} {kk : Nat} {p : Pos} (hc : X.calm = true) (hg : GX C X ts is) (hl : is.length = n) (hn : (assignEach ts X.env).length = n) (hst : (assignEach ts X.env).findIdx? (·.1) = none) :
    ∃ t, PG X (.Tuple ts kk p) t ∧ ∀ σ H ρ d l v ρ' (Q : L2.St → Hp → Prop), SRep (cw C X) H σ ρ → Rep (cw C X) H d v → tupOf d = some l → setAll is l ρ = some ρ' → (∀ σ', SRep (cw C X) H σ' ρ' → Q σ' H) → t v σ H Q := by
  obtain ⟨t, pg, r⟩ := hg
  refine ⟨_, pg_tup hc pg hn hst, fun σ H ρ d l v ρ' Q h rd e1 e2 q => ?_⟩
  obtain ⟨a, vs, h1, h2, h3⟩ := tupOf_rep e1 rd
  exact ⟨a, vs, h1, h2, by rw [h3.length, setAll_len e2, hl], r σ H ρ l vs ρ' Q h h3 e2 q⟩
theorem sx_unp {ts : List Expr} {e : Expr} {is : List Nat} {n : Nat} {f : RE} {kk : Nat} {p pos : Pos} (hc : X.calm = true) (hg : GX C X ts is) (he : PX C X e f) (hl : is.length = n := by rfl) (hn : (assignEach ts X.env).length = n := by rfl) (hst : (assignEach ts X.env).findIdx? (·.1) = none := by rfl)
    (hs : swapsWithSole [.Tuple ts kk p] e pos.line X.env = pure false := by rfl) (hw : swappedStores [.Tuple ts kk p] e X.env = pure none := by rfl)
    (h1 : (assignEach [.Tuple ts kk p] X.env).map (·.2) = [assign (.Tuple ts kk p) X.env] := by rfl) : SX C X (.Assign [.Tuple ts kk p] e pos) (sUnp is f) := by
  obtain ⟨t, pe, re⟩ := he
  obtain ⟨tg, pg, rg⟩ := gx_tup (kk := kk) (p := p) hc hg hl hn hst
  refine ⟨_, ps_asg pe pg hs hw h1, fun σ H ρ a D h e q => ?_⟩
  unfold sUnp at e
  cases e1 : f ρ with
  | none => rw [e1] at e; cases e
  | some d =>
    rw [e1] at e
    cases e2 : tupOf d with
    | none => simp only [e2] at e; cases e
    | some l =>
      simp only [e2] at e
      cases e3 : setAll is l ρ with
      | none => rw [e3] at e; cases e
      | some ρ' =>
        rw [e3] at e
        cases e
        refine re σ H ρ d _ h e1 fun v H1 s1 r1 => ?_
        exact rg σ H1 ρ d l v ρ' _ (h.same s1) r1 e2 e3 fun σ' h' => q σ' H1 s1 h'
/-- a, b = x, y -/
def sPar (i j : Nat) (f g : RE) : RS := fun ρ => match f ρ with
  | some d => (match g ρ with
    | some e => some (.nx ((ρ.set i (some d)).set j (some e)))
    | none => none)
  | none => none
theorem sx_par {i j : Nat} {x y : Str} {a b : Expr} {f g : RE} {px py pt pos : Pos} {kt k2 pt2} (hc : X.calm = true) (hN : X.N.Nodup) (ha : PX C X a f) (hb : PX C X b g) (hi : X.N[i]? = some x := by rfl) (hj : X.N[j]? = some y := by rfl) (hij : i ≠ j := by decide)
    (hx : X.env.scope.names.lookup x = some .local := by rfl) (hy : X.env.scope.names.lookup y = some .local := by rfl)
    (hs1 : starEach [a, b] X.env = (false, eval a X.env) :: starEach [b] X.env := by rfl) (hs2 : starEach [b] X.env = (false, eval b X.env) :: starEach [] X.env := by rfl)
    (hw : swappedStores [.Tuple [.Name x px, .Name y py] kt pt] (.Tuple [a, b] k2 pt2) X.env = pure (some [x, y]) := by rfl)
    (hs : swapsWithSole [.Tuple [.Name x px, .Name y py] kt pt] (.Tuple [a, b] k2 pt2) pos.line X.env = pure false := by rfl) :
    SX C X (.Assign [.Tuple [.Name x px, .Name y py] kt pt] (.Tuple [a, b] k2 pt2) pos) (sPar i j f g) := by
  obtain ⟨ta, pa, ra⟩ := ha
  obtain ⟨tb, pb, rb⟩ := hb
  refine ⟨_, ps_par hc hN hi hj hij hx hy (pa_cons pa (pa_cons pb pa_nil hs2) hs1) hw hs, fun σ H ρ r D h e q => ?_⟩
  unfold sPar at e
  cases e1 : f ρ with
  | none => rw [e1] at e; cases e
  | some d =>
    rw [e1] at e
    cases e2 : g ρ with
    | none => rw [e2] at e; cases e
    | some d2 =>
      rw [e2] at e
      cases e
      refine ra σ H ρ d _ h e1 fun v H1 s1 r1 => ?_
      refine rb σ H1 ρ d2 _ (h.same s1) e2 fun u H2 s2 r2 => ?_
      exact ⟨v, u, rfl, q _ H2 (s1.trans s2) (((h.same (s1.trans s2)).set i (r1.same s2)).set j r2)⟩
end
end
end Rp
set_option Elab.async false
set_option linter.all false
set_option maxRecDepth 100000
set_option maxHeartbeats 1000000
namespace Rp
noncomputable section
open PySem PySem.Spec PyProof.Rows L2 SX
section
variable {C : Addr} {X : Cx}
/-! ### what a loop walks -/
/-- the items of the walk are those of l -/
def Wk (c : Cw) (H0 : Hp) (l : List D) (J : It) : Prop := ∃ n G Y, Walk J n G Y ∧ n = l.length ∧ (∀ H, Same H0 H → G H) ∧
  ∀ (i : Nat) H x H', i < n → Same H0 H → Y i H x H' → Same H H' ∧ ∃ d, l[i]? = some d ∧ Rep c H' d x
def IX (C : Addr) (X : Cx) (tg iter : Expr) (f : RA) : Prop :=
  ∃ wi, PI X tg iter wi ∧ ∀ σ H ρ l (Rr : It → Hp → Prop), SRep (cw C X) H σ ρ → f ρ = some l → (∀ J H', Same H H' → Wk (cw C X) H' l J → Rr J H') → wi σ H Rr
/-- a target of a for -/
def TGX (C : Addr) (X : Cx) (tg : Expr) (A : D → Rho → Option Rho) : Prop :=
  ∃ t, PG X tg t ∧ ∀ σ H ρ d v ρ' (Q : L2.St → Hp → Prop), SRep (cw C X) H σ ρ → Rep (cw C X) H d v → A d ρ = some ρ' → (∀ σ', SRep (cw C X) H σ' ρ' → Q σ' H) → t v σ H Q
def aName (i : Nat) : D → Rho → Option Rho := fun d ρ => some (ρ.set i (some d))
theorem tg_name {x : Str} {p : Pos} (i : Nat) (hN : X.N.Nodup) (hi : X.N[i]? = some x := by rfl) (hx : Loc X.env.scope x := by first | exact Or.inl rfl | exact Or.inr rfl)
    (hf : X.fn x = true ∨ X.env.scope.names.lookup x = some .local := by first | exact .inl rfl | exact .inr rfl) : TGX C X (.Name x p) (aName i) := by
  refine ⟨_, pg_name hN hi hx hf, fun σ H ρ d v ρ' Q h r e q => ?_⟩
  cases e
  exact q _ (h.set i r)
def aTup (is : List Nat) : D → Rho → Option Rho := fun d ρ => match tupOf d with
  | some l => setAll is l ρ
  | none => none
theorem tg_tup {ts : List Expr} {is : List Nat} {n : Nat} {kk : Nat} {p : Pos} (hc : X.calm = true) (hg : GX C X ts is) (hl : is.length = n := by rfl) (hn : (assignEach ts X.env).length = n := by rfl) (hst : (assignEach ts X.env).findIdx? (·.1) = none := by rfl) :
    TGX C X (.Tuple ts kk p) (aTup is) := by
  obtain ⟨t, pg, r⟩ := gx_tup (kk := kk) (p := p) hc hg hl hn hst
  refine ⟨t, pg, fun σ H ρ d v ρ' Q h rr e q => ?_⟩
  unfold aTup at e
  cases e1 : tupOf d with
  | none => rw [e1] at e; cases e
  | some l => rw [e1] at e; exact r σ H ρ d l v ρ' Q h rr e1 e q
def oneS (s : List Nat) : List D := s.map fun c => D.str [c]
def seqStr (f : RE) : RA := fun ρ => match f ρ with
  | some (.str s) => some (oneS s)
  | _ => none
def lstOf : D → Option (List D)
  | .lst l => some l
  | .lstx l => some l
  | _ => none
theorem lstOf_rep {c : Cw} {H : Hp} {d : D} {l : List D} {v : V} (e : lstOf d = some l) (r : Rep c H d v) : ∃ a vs, v = .ref a ∧ H a = some (.lst vs) ∧ RepL c H l vs := by
  cases d with
  | lst l => cases e; obtain ⟨a, vs, h1, h2, h3, h4⟩ := r; exact ⟨a, vs, h1, h2, h3⟩
  | lstx l => cases e; exact r
  | _ => cases e
def seqLst (f : RE) : RA := fun ρ => match f ρ with
  | some d => lstOf d
  | _ => none
def seqTup (f : RE) : RA := fun ρ => match f ρ with
  | some d => tupOf d
  | _ => none
theorem ix_tupD {tg e : Expr} {f : RE} (h : PX C X e f) : IX C X tg e (seqTup f) := by
  obtain ⟨t, p, r⟩ := h
  refine ⟨_, pi_tup p, fun σ H ρ l Rr h e q => ?_⟩
  unfold seqTup at e
  cases e1 : f ρ with
  | none => rw [e1] at e; cases e
  | some d =>
    rw [e1] at e
    refine r σ H ρ d _ h e1 fun v H1 s1 r1 => ?_
    obtain ⟨a, vs, h1, h2, h3⟩ := tupOf_rep e r1
    refine ⟨a, h1, ⟨vs, h2⟩, q _ H1 s1 ⟨vs.length, _, _, walk_tup (a := a) (xs := vs), h3.length, fun H2 s2 => SqT.same s2 h2, fun i H2 x H3 hi s2 y => ?_⟩⟩
    obtain ⟨rfl, y⟩ := y
    have hi2 : i < l.length := by rw [← h3.length]; exact hi
    obtain ⟨v2, z1, z2⟩ := h3.get (i := i) (d := l[i]) (by simp [hi2])
    rw [y] at z1
    cases z1
    exact ⟨Same.refl _, l[i], by simp [hi2], z2.same s2⟩
theorem ix_lstD {tg e : Expr} {f : RE} (h : PX C X e f) : IX C X tg e (seqLst f) := by
  obtain ⟨t, p, r⟩ := h
  refine ⟨_, pi_list p, fun σ H ρ l Rr h e q => ?_⟩
  unfold seqLst at e
  cases e1 : f ρ with
  | none => rw [e1] at e; cases e
  | some d =>
    rw [e1] at e
    refine r σ H ρ d _ h e1 fun v H1 s1 r1 => ?_
    obtain ⟨a, vs, h1, h2, h3⟩ := lstOf_rep e r1
    refine ⟨a, h1, ⟨vs, SqL.of h2⟩, q _ H1 s1 ⟨vs.length, _, _, walk_list (K := X.K) (a := a) (xs := vs), h3.length, fun H2 s2 => SqL.of (s2 _ _ h2), fun i H2 x H3 hi s2 y => ?_⟩⟩
    obtain ⟨rfl, y⟩ := y
    have hi2 : i < l.length := by rw [← h3.length]; exact hi
    obtain ⟨v2, z1, z2⟩ := h3.get (i := i) (d := l[i]) (by simp [hi2])
    rw [y] at z1
    cases z1
    exact ⟨Same.refl _, l[i], by simp [hi2], z2.same s2⟩
theorem oneS_at (s : List Nat) (i : Nat) : (oneS s)[i]? = s[i]?.map fun c => D.str [c] := by
  unfold oneS
  rw [List.getElem?_map]
theorem ix_strD {tg e : Expr} {f : RE} (h : PX C X e f) : IX C X tg e (seqStr f) := by
  obtain ⟨t, p, r⟩ := h
  refine ⟨_, pi_str p, fun σ H ρ l Rr h e q => ?_⟩
  unfold seqStr at e
  split at e
  · rename_i s e1
    cases e
    refine r σ H ρ _ _ h e1 fun v H1 s1 r1 => ?_
    refine ⟨S s, r1.1, q _ H1 s1 ⟨(S s).cps.size, _, _, walk_str (z := S s), ?_, fun _ _ => True.intro, fun i H2 x H3 hi s2 y => ?_⟩⟩
    · show s.toArray.size = _
      unfold oneS
      simp
    · obtain ⟨rfl, c, hc, rfl⟩ := y
      have hc2 : s[i]? = some c := by simpa using hc
      exact ⟨Same.refl _, .str [c], by rw [oneS_at, hc2]; rfl, rfl, okS_one r1.2 (List.mem_of_getElem? hc2)⟩
  · cases e
/-! ### for -/
def forD (A : D → Rho → Option Rho) (f : RS) : List D → RS
  | [], ρ => some (.nx ρ)
  | d :: ds, ρ => match A d ρ with
    | some ρ1 => (match f ρ1 with
      | some (.nx ρ2) => forD A f ds ρ2
      | some (.ct ρ2) => forD A f ds ρ2
      | some (.bk ρ2) => some (.nx ρ2)
      | r => r)
    | none => none
def sFor (A : D → Rho → Option Rho) (l : RA) (f : RS) : RS := fun ρ => match l ρ with
  | some ds => forD A f ds ρ
  | none => none
theorem dropD_at {α : Type} : ∀ (l : List α) (i : Nat) (d : α), l[i]? = some d → l.drop i = d :: l.drop (i + 1)
  | [], i, d, h => by simp at h
  | x :: l, 0, d, h => by
    simp at h
    simp [h]
  | x :: l, i + 1, d, h => by
    simp at h
    simpa using dropD_at l i d h
theorem for_run {c : Cw} {A : D → Rho → Option Rho} {f : RS} {g : TG} {tb : TS} {D0 : Ends} {l : List D} {J : It} {r : R} {σ : L2.St} {H : Hp} {ρ : Rho} (wk : Wk c H l J)
    (hg : ∀ σ H ρ d v ρ' (Q : L2.St → Hp → Prop), SRep c H σ ρ → Rep c H d v → A d ρ = some ρ' → (∀ σ', SRep c H σ' ρ' → Q σ' H) → g v σ H Q)
    (hb : ∀ σ H ρ r (D : Ends), SRep c H σ ρ → f ρ = some r → Aft c H D r → tb D σ H) (h : SRep c H σ ρ) (e : forD A f l ρ = some r) (q : Aft c H D0 r) :
    ∃ W : Nat → Nat → L2.St → Hp → Prop, (∃ m, W 0 m σ H) ∧ ∀ i m σ H, W i m σ H →
      (J.stop i H ∧ D0.nx σ H) ∨ (J.go i H ∧ ∃ N : L2.St → Hp → Prop, (∀ σ' H', N σ' H' → ∃ m', m' < m ∧ W (i + 1) m' σ' H') ∧ ∀ x H', J.yld i H x H' → g x σ H' fun σ2 H2 => tb { D0 with nx := N, ct := N, bk := D0.nx } σ2 H2) := by
  obtain ⟨n, G, Y, w, rfl, hG, hY⟩ := wk
  refine for_it w (fun i σ' H' => ∃ ρ', Same H H' ∧ SRep c H' σ' ρ' ∧ forD A f (l.drop i) ρ' = some r) ⟨ρ, Same.refl H, h, by rw [List.drop_zero]; exact e⟩ (fun i σ' H' _ ⟨_, s, _⟩ => hG H' s) ?_ ?_
  · rintro i x σ1 H1 H2 hi ⟨ρ1, s1, h1, e1⟩ y
    obtain ⟨s2, d, hd, rd⟩ := hY i H1 x H2 hi s1 y
    rw [dropD_at l i d hd] at e1
    unfold forD at e1
    cases e2 : A d ρ1 with
    | none => rw [e2] at e1; cases e1
    | some ρ2 =>
      rw [e2] at e1
      refine hg σ1 H2 ρ1 d x ρ2 _ (h1.same s2) rd e2 fun σ2 h2 => ?_
      have e1' : (match f ρ2 with
        | some (.nx ρ2) => forD A f (l.drop (i + 1)) ρ2
        | some (.ct ρ2) => forD A f (l.drop (i + 1)) ρ2
        | some (.bk ρ2) => some (.nx ρ2)
        | r => r) = some r := e1
      have s12 := s1.trans s2
      cases e3 : f ρ2 with
      | none => rw [e3] at e1'; cases e1'
      | some a =>
        rw [e3] at e1'
        refine hb σ2 H2 ρ2 a _ h2 e3 ?_
        cases a with
        | nx ρ3 => exact fun σ3 H3 s3 h3 => ⟨ρ3, s12.trans s3, h3, e1'⟩
        | ct ρ3 => exact fun σ3 H3 s3 h3 => ⟨ρ3, s12.trans s3, h3, e1'⟩
        | bk ρ3 => cases e1'; exact fun σ3 H3 s3 h3 => q σ3 H3 (s12.trans s3) h3
        | rt d3 => cases e1'; exact Wt.mono s12 q
  · rintro σ1 H1 ⟨ρ1, s1, h1, e1⟩
    rw [List.drop_length] at e1
    cases e1
    exact q σ1 H1 s1 h1
theorem sx_for {tg iter : Expr} {body : List Stmt} {A : D → Rho → Option Rho} {l : RA} {f : RS} {pos : Pos} (hp : PassesOwn (model X.prog X.w) X.A X.env X.xe) (hc : X.calm = true) (hi : IX C X tg iter l) (hg : TGX C X tg A) (hb : BX C X body f)
    (hs : ∀ x, foldedSetIterable iter X.env x = pure x := by intro _; rfl) : SX C X (.For tg iter body [] pos) (sFor A l f) := by
  obtain ⟨wi, pi, ri⟩ := hi
  obtain ⟨g, pg, rg⟩ := hg
  obtain ⟨tb, pb, rb⟩ := hb
  refine ⟨_, ps_for hp hc pi pg pb hs, fun σ H ρ r D h e q => ?_⟩
  unfold sFor at e
  cases e1 : l ρ with
  | none => rw [e1] at e; cases e
  | some ds =>
    rw [e1] at e
    exact ri σ H ρ ds _ h e1 fun J H1 s1 wk => for_run wk rg rb (h.same s1) e (q.mono s1)
/-! ### while -/
def whileD (t : RT) (f : RS) : Nat → RS
  | 0, _ => none
  | n + 1, ρ => match t ρ with
    | some true => (match f ρ with
      | some (.nx ρ2) => whileD t f n ρ2
      | some (.ct ρ2) => whileD t f n ρ2
      | some (.bk ρ2) => some (.nx ρ2)
      | r => r)
    | some false => some (.nx ρ)
    | none => none
theorem sx_while {c : Expr} {body : List Stmt} {t : RT} {f : RS} {pos : Pos} (n : Nat) (hp : PassesOwn (model X.prog X.w) X.A X.env X.xe) (hc : TX C X c t) (hb : BX C X body f) : SX C X (.While c body [] pos) (whileD t f n) := by
  obtain ⟨tc, pc, rc⟩ := hc
  obtain ⟨tb, pb, rb⟩ := hb
  refine ⟨_, ps_while hp pc pb, fun σ H ρ r D h e q => ?_⟩
  refine ⟨fun m σ' H' => ∃ ρ', Same H H' ∧ SRep (cw C X) H' σ' ρ' ∧ whileD t f m ρ' = some r, ⟨n, ρ, Same.refl H, h, e⟩, ?_⟩
  rintro m σ1 H1 ⟨ρ1, s1, h1, e1⟩
  cases m with
  | zero => cases e1
  | succ m =>
    unfold whileD at e1
    cases e2 : t ρ1 with
    | none => rw [e2] at e1; cases e1
    | some b =>
      rw [e2] at e1
      refine rc σ1 H1 ρ1 b _ h1 e2 fun H2 s2 => ?_
      have s12 := s1.trans s2
      cases b with
      | false =>
        cases e1
        rw [if_neg Bool.false_ne_true]
        exact q σ1 H2 s12 (h1.same s2)
      | true =>
        rw [if_pos rfl]
        refine ⟨fun σ' H' => ∃ ρ', Same H H' ∧ SRep (cw C X) H' σ' ρ' ∧ whileD t f m ρ' = some r, fun σ' H' z => ⟨m, Nat.lt_succ_self m, z⟩, ?_⟩
        have e1' : (match f ρ1 with
          | some (.nx ρ2) => whileD t f m ρ2
          | some (.ct ρ2) => whileD t f m ρ2
          | some (.bk ρ2) => some (.nx ρ2)
          | r => r) = some r := e1
        cases e3 : f ρ1 with
        | none => rw [e3] at e1'; cases e1'
        | some a =>
          rw [e3] at e1'
          refine rb σ1 H2 ρ1 a _ (h1.same s2) e3 ?_
          cases a with
          | nx ρ3 => exact fun σ3 H3 s3 h3 => ⟨ρ3, s12.trans s3, h3, e1'⟩
          | ct ρ3 => exact fun σ3 H3 s3 h3 => ⟨ρ3, s12.trans s3, h3, e1'⟩
          | bk ρ3 => cases e1'; exact fun σ3 H3 s3 h3 => q σ3 H3 (s12.trans s3) h3
          | rt d3 => cases e1'; exact Wt.mono s12 q
/-! ### match over texts -/
def PM (X : Cx) (cases : List MatchCase) (t : V → TS) : Prop :=
  ∀ (pins : List (Addr × Obj)) (s : Shared) (σ : L2.St) (H : Hp) (v : V) (u : Value) (D : Ends) (first : Bool), Inv X pins σ H s → RelV v u → t v D σ H → wpAny (model X.prog X.w) X.A (matchCases cases X.env u first) (SP X pins D) X.xe s
theorem pm_nil : PM X [] (fun _ => tNext) := fun pins s σ H v u D first I r h => wpAny_matchCases_nil ⟨σ, H, I, h⟩
def memS (a : List Nat) (l : List (List Nat)) : Bool := @List.rec (List Nat) (fun _ => Bool) false (fun b _ ih => @Bool.rec (fun _ => Bool) ih true (beqL a b)) l
/-- a pattern takes these texts -/
def PatOk (X : Cx) (p : Pattern) (ss : List (List Nat)) : Prop :=
  ∀ (pins : List (Addr × Obj)) (s : Shared) (σ : L2.St) (H : Hp) (z : List Nat) (u : Value) (Q : Option (List (Str × Value)) → Shared → Prop), Inv X pins σ H s → RelV (.str (S z)) u →
    (∀ s', Inv X pins σ H s' → cnd (memS z ss) (Q (some []) s') (Q none s')) → wpAny (model X.prog X.w) X.A (matchPattern p X.env u) Q X.xe s
def PatsOk (X : Cx) (ps : List Pattern) (ss : List (List Nat)) : Prop :=
  ∀ (pins : List (Addr × Obj)) (s : Shared) (σ : L2.St) (H : Hp) (z : List Nat) (u : Value) (Q : Option (List (Str × Value)) → Shared → Prop), Inv X pins σ H s → RelV (.str (S z)) u →
    (∀ s', Inv X pins σ H s' → cnd (memS z ss) (Q (some []) s') (Q none s')) → wpAny (model X.prog X.w) X.A (matchFirst ps X.env u) Q X.xe s
theorem pat_one {x : Str} {t : List Nat} {jj : Nat} {p p' : Pos} (hx : x = S t) : PatOk X (.MatchValue (.Constant (.str x) jj p) p') [t] := by
  intro pins s σ H z u Q I r h
  obtain ⟨tk, rfl⟩ := r
  subst hx
  refine wpAny_matchPattern_Value (Calls.Constant_str (eq_str (wpAny_truthy_bool ?_)))
  have q := h _ (I.tok (s.toks + 1))
  have e : memS z [t] = beqL z t := by
    show cnd (beqL z t) true false = _
    cases beqL z t <;> rfl
  rw [e, ← S_beq'] at q
  cases e2 : (S z == S t) with
  | true => rw [e2] at q; exact q
  | false => rw [e2] at q; exact q
theorem pats_nil : PatsOk X [] [] := fun pins s σ H z u Q I r h => wpAny_matchFirst_nil (h s I)
theorem pats_cons {x : Str} {t : List Nat} {ss : List (List Nat)} {jj : Nat} {p p' : Pos} {ps : List Pattern} (hx : x = S t) (hr : PatsOk X ps ss) : PatsOk X (.MatchValue (.Constant (.str x) jj p) p' :: ps) (t :: ss) := by
  intro pins s σ H z u Q I r h
  refine wpAny_matchFirst_cons (pat_one hx pins s σ H z u _ I r fun s' I' => ?_)
  have e1 : memS z [t] = beqL z t := by
    show cnd (beqL z t) true false = _
    cases beqL z t <;> rfl
  have e2 : memS z (t :: ss) = cnd (beqL z t) true (memS z ss) := rfl
  rw [e1]
  cases e3 : beqL z t with
  | true =>
    have q := h s' I'
    rw [e2, e3] at q
    exact q
  | false =>
    refine hr pins s' σ H z u _ I' r fun s2 I2 => ?_
    have q := h s2 I2
    rw [e2, e3] at q
    exact q
theorem pat_or {ps : List Pattern} {ss : List (List Nat)} {p : Pos} (h : PatsOk X ps ss) : PatOk X (.MatchOr ps p) ss := by
  intro pins s σ H z u Q I r hq
  refine wpAny_matchPattern_Or (h pins s σ H z u _ I r fun s' I' => ?_)
  have q := hq s' I'
  cases e : memS z ss with
  | true =>
    rw [e] at q
    have e2 : ((namesOfAll (ps.take 1)).filterMap fun n => (([] : List (Str × Value)).lookup n).map (n, ·)) = [] := by
      rw [List.filterMap_eq_nil_iff]
      intro a _
      rfl
    show Q (some _) s'
    rw [e2]
    exact q
  | false =>
    rw [e] at q
    exact q
def MX (C : Addr) (X : Cx) (cases : List MatchCase) (F : List Nat → RS) : Prop :=
  ∃ t : V → TS, PM X cases t ∧ ∀ σ H ρ z r (D : Ends), SRep (cw C X) H σ ρ → F z ρ = some r → Aft (cw C X) H D r → t (.str (S z)) D σ H
def mNil : List Nat → RS := fun _ ρ => some (.nx ρ)
def mCase (ss : List (List Nat)) (f : RS) (g : List Nat → RS) : List Nat → RS := fun z ρ => cnd (memS z ss) (f ρ) (g z ρ)
theorem mx_nil : MX C X [] mNil := ⟨_, pm_nil, fun σ H ρ z r D h e q => by cases e; exact q σ H (Same.refl H) h⟩
theorem mx_case {p : Pattern} {body : List Stmt} {rest : List MatchCase} {ss : List (List Nat)} {f : RS} {g : List Nat → RS} (hp : PatOk X p ss) (hb : BX C X body f) (hr : MX C X rest g) : MX C X (⟨p, none, body⟩ :: rest) (mCase ss f g) := by
  obtain ⟨tb, pb, rb⟩ := hb
  obtain ⟨t, pr, rr⟩ := hr
  refine ⟨fun v D σ H => ∃ z, v = .str (S z) ∧ cnd (memS z ss) (tb D σ H) (t v D σ H), fun pins s σ H v u D first I r h => ?_, fun σ H ρ z r D h e q => ?_⟩
  · obtain ⟨z, rfl, h⟩ := h
    refine wpAny_matchCases_cons (hp pins s σ H z u _ I r fun s' I' => ?_)
    cases e : memS z ss with
    | true =>
      rw [e] at h
      exact wpAny_assignInOrder_none (pb.run pins s' σ H D I' h)
    | false =>
      rw [e] at h
      exact pr pins s' σ H _ u D false I' r h
  · refine ⟨z, rfl, ?_⟩
    unfold mCase at e
    cases e2 : memS z ss with
    | true => rw [e2] at e; exact rb σ H ρ r D h e q
    | false => rw [e2] at e; exact rr σ H ρ z r D h e q
def sMatch (f : RE) (F : List Nat → RS) : RS := fun ρ => match f ρ with
  | some (.str z) => F z ρ
  | _ => none
theorem sx_match {subject : Expr} {cases : List MatchCase} {pos : Pos} {f : RE} {F : List Nat → RS} (he : PX C X subject f) (hm : MX C X cases F) : SX C X (.Match subject cases pos) (sMatch f F) := by
  obtain ⟨t, p, r⟩ := he
  obtain ⟨tm, pm, rm⟩ := hm
  refine ⟨fun D σ H => t σ H fun v H1 => tm v D σ H1, ⟨fun pins s σ H D I h => ?_⟩, fun σ H ρ a D h e q => ?_⟩
  · exact wpAny_Match (thn (p.run pins s σ H _ I h) fun u s1 ⟨v, H1, I1, r1, q1⟩ => pm pins s1 σ H1 v u D true I1 r1 q1)
  · unfold sMatch at e
    split at e
    · rename_i z e1
      refine r σ H ρ _ _ h e1 fun v H1 s1 r1 => ?_
      rw [r1.1]
      exact rm σ H1 ρ z a D (h.same s1) e (q.mono s1)
    · cases e
/-! ### comprehensions of scalars -/
def lcD (A : D → Rho → Option Rho) (tt : RT) (te : RE) : List D → RA
  | [], _ => some []
  | d :: ds, ρ => match A d ρ with
    | some ρ1 => (match tt ρ1 with
      | some true => (match te ρ1 with
        | some y => cnd (isSc y) (match lcD A tt te ds ρ with
          | some r => some (y :: r)
          | none => none) none
        | none => none)
      | some false => lcD A tt te ds ρ
      | none => none)
    | none => none
def wipeR (ρ : Rho) : List Nat → Rho
  | [] => ρ
  | v :: vs => (wipeR ρ vs).set v none
def eLc (A : D → Rho → Option Rho) (l : RA) (tt : RT) (te : RE) (vs : List Nat) : RE := fun ρ => match l ρ with
  | some ds => (match lcD A tt te ds (wipeR ρ vs) with
    | some ys => mkLst ys
    | none => none)
  | none => none
theorem SRep.forget1 {c : Cw} {H : Hp} {σ : L2.St} {ρ : Rho} (i : Nat) (h : SRep c H σ ρ) : SRep c H (σ.set i none) (ρ.set i none) := by
  refine ⟨by simpa using h.1, fun j e q => ?_⟩
  by_cases hj : j = i
  · subst hj
    by_cases hl : j < ρ.length
    · rw [List.getElem?_set_self hl] at q
      cases q
    · have : (ρ.set j none).length ≤ j := by simpa using hl
      rw [List.getElem?_eq_none this] at q
      cases q
  · rw [List.getElem?_set_ne (Ne.symm hj)] at q
    obtain ⟨v2, a, b⟩ := h.2 j e q
    exact ⟨v2, by rw [List.getElem?_set_ne (Ne.symm hj)]; exact a, b⟩
theorem SRep.wipe {c : Cw} {H : Hp} {σ : L2.St} {ρ : Rho} (h : SRep c H σ ρ) : ∀ vs : List Nat, SRep c H (L2.wipe σ vs) (wipeR ρ vs)
  | [] => h
  | v :: vs => (SRep.wipe h vs).forget1 v
theorem rep_sc {c : Cw} {H H' : Hp} {d : D} {v : V} (h : isSc d = true) (r : Rep c H d v) : Rep c H' d v := by
  cases d with
  | str _ => exact r
  | int _ => exact r
  | bl _ => exact r
  | non => exact r
  | _ => cases h
theorem repL_sc {c : Cw} {H H' : Hp} : ∀ {ds : List D} {vs : List V}, ds.all isSc = true → RepL c H ds vs → RepL c H' ds vs
  | [], _, _, r => r
  | d :: ds, _, h, r => by
    obtain ⟨v, r2, h1, h2, h3⟩ := r
    have e : (isSc d && ds.all isSc) = true := h
    obtain ⟨a, b⟩ := Bool.and_eq_true_iff.mp e
    exact ⟨v, r2, h1, rep_sc a h2, repL_sc b h3⟩
theorem sc_dat {ds : List D} (h : ds.all isSc = true) : ds.all dat1 = true := by
  rw [List.all_eq_true] at h ⊢
  intro d hd
  have := h d hd
  cases d <;> first | rfl | cases this
/-- a target stores in vs alone -/
def Own (C : Addr) (X : Cx) (tg : Expr) (A : D → Rho → Option Rho) (vs : List Nat) : Prop :=
  ∃ t, PG X tg t ∧ ∀ σ H ρ d v ρ' (Q : L2.St → Hp → Prop), SRep (cw C X) H (L2.wipe σ vs) ρ → Rep (cw C X) H d v → A d ρ = some ρ' → (∀ σ', SRep (cw C X) H σ' ρ' → L2.wipe σ' vs = L2.wipe σ vs → Q σ' H) → t v (L2.wipe σ vs) H Q
theorem lcD_sc {A : D → Rho → Option Rho} {tt : RT} {te : RE} {ρ : Rho} : ∀ {ds ys : List D}, lcD A tt te ds ρ = some ys → ys.all isSc = true ∧ ys.length ≤ ds.length
  | [], ys, e => by cases e; exact ⟨rfl, Nat.le_refl _⟩
  | d :: ds, ys, e => by
    unfold lcD at e
    cases e1 : A d ρ with
    | none => rw [e1] at e; cases e
    | some ρ1 =>
      rw [e1] at e
      cases e2 : tt ρ1 with
      | none => simp only [e2] at e; cases e
      | some b =>
        cases b with
        | false =>
          simp only [e2] at e
          obtain ⟨a, b⟩ := lcD_sc e
          exact ⟨a, Nat.le_succ_of_le b⟩
        | true =>
          simp only [e2] at e
          cases e3 : te ρ1 with
          | none => simp only [e3] at e; cases e
          | some y =>
            simp only [e3] at e
            obtain ⟨z1, z2⟩ := cond_some e
            cases e4 : lcD A tt te ds ρ with
            | none => rw [e4] at z2; cases z2
            | some r =>
              rw [e4] at z2
              cases z2
              obtain ⟨a, b⟩ := lcD_sc e4
              exact ⟨by rw [List.all_cons, z1, a]; rfl, Nat.succ_le_succ b⟩
end
end
end Rp
set_option Elab.async false
set_option linter.all false
set_option maxRecDepth 100000
set_option maxHeartbeats 1000000
namespace Rp
noncomputable section
open PySem PySem.Spec PyProof.Rows L2 SX
/-! ### the readings that say the data -/
def tE (c : Cw) (f : RE) : TE := fun σ H Q => ∃ ρ d, SRep c H σ ρ ∧ f ρ = some d ∧ Wt c H d Q
def tT (c : Cw) (f : RT) : TT := fun σ H Q => ∃ ρ b, SRep c H σ ρ ∧ f ρ = some b ∧ ∀ H', Same H H' → Q b H'
section
variable {C : Addr} {X : Cx}
theorem PX.pe {e : Expr} {f : RE} (h : PX C X e f) : PE X e (tE (cw C X) f) := by
  obtain ⟨t, p, r⟩ := h
  exact ⟨fun pins s σ H Q I ⟨ρ, d, h1, h2, h3⟩ => p.run pins s σ H Q I (r σ H ρ d Q h1 h2 h3)⟩
theorem TX.pt {e : Expr} {f : RT} (h : TX C X e f) : PT X e (tT (cw C X) f) := by
  obtain ⟨t, p, r⟩ := h
  exact ⟨fun pins s σ H Q I ⟨ρ, d, h1, h2, h3⟩ => p.run pins s σ H Q I (r σ H ρ d Q h1 h2 h3)⟩
def tYesR : RT := fun _ => some true
theorem lc_read {c : Cw} {J : It} {ds ys : List D} {d : D} {i : Nat} {tt : TT} {tr : RT} {te : RE} {σ : L2.St} {H1 : Hp} {ρ : Rho} {Q : VK} (wk : Wk c H1 ds J) (h : SRep c H1 σ ρ)
    (ht : ∀ σ H ρ b (Q : Bool → Hp → Prop), SRep c H σ ρ → tr ρ = some b → (∀ H', Same H H' → Q b H') → tt σ H Q)
    (e : lcD (aName i) tr te ds (wipeR ρ [i]) = some ys) (em : mkLst ys = some d) (q : Wt c H1 d Q) : ∀ D, H1 D = none → ∃ W : Nat → Nat → Hp → Prop, (∃ m, W 0 m (upd H1 D (.lst []))) ∧ ∀ k m H, W k m H →
      (J.stop k H ∧ Q (.ref D) H) ∨ (J.go k H ∧ ∃ Nx : Hp → Prop, (∀ H', Nx H' → ∃ m', m' < m ∧ W (k + 1) m' H') ∧ ∀ x H', J.yld k H x H' → gName i x (L2.wipe σ [i]) H' fun σ2 H2 => L2.wipe σ2 [i] = L2.wipe σ [i] ∧ tt σ2 H2 fun b H3 =>
        if b = true then tE c te σ2 H3 fun y H4 => ∃ acc, H4 D = some (.lst acc) ∧ acc.length < sizeLine ∧ Nx (upd H4 D (.lst (acc ++ [y]))) else Nx H3) := by
  intro D hD
  obtain ⟨n, G, Y, w, rfl, hG, hY⟩ := wk
  obtain ⟨m1, m2⟩ := cond_some em
  obtain ⟨m3, m4⟩ := cond_some m2
  cases m4
  have hz := Nat.le_of_ble_eq_true m1
  refine lc_it w (fun k H' => Same H1 H' ∧ ∃ acc done rest, H' D = some (.lst acc) ∧ RepL c H' done acc ∧ done.all isSc = true ∧ lcD (aName i) tr te (ds.drop k) (wipeR ρ [i]) = some rest ∧ ys = done ++ rest)
    ⟨same_new hD, [], [], ys, upd_same, rfl, rfl, by rw [List.drop_zero]; exact e, rfl⟩ (fun k H' _ z => hG H' z.1) ?_ ?_
  · rintro k x H2 H3 hk ⟨s1, acc, done, rest, a1, a2, a3, a4, a5⟩ y
    obtain ⟨s2, dk, hdk, rk⟩ := hY k H2 x H3 hk s1 y
    rw [dropD_at ds k dk hdk] at a4
    have s12 := s1.trans s2
    have h3 : SRep c H3 ((L2.wipe σ [i]).set i (some x)) ((wipeR ρ [i]).set i (some dk)) := ((h.wipe [i]).same s12).set i rk
    refine ⟨?_, ?_⟩
    · show (((σ.set i none).set i (some x)).set i none) = σ.set i none
      rw [List.set_set, List.set_set]
    · have a4' : (match tr ((wipeR ρ [i]).set i (some dk)) with
        | some true => (match te ((wipeR ρ [i]).set i (some dk)) with
          | some y => cnd (isSc y) (match lcD (aName i) tr te (ds.drop (k + 1)) (wipeR ρ [i]) with
            | some r => some (y :: r)
            | none => none) none
          | none => none)
        | some false => lcD (aName i) tr te (ds.drop (k + 1)) (wipeR ρ [i])
        | none => none) = some rest := a4
      cases e2 : tr ((wipeR ρ [i]).set i (some dk)) with
      | none => rw [e2] at a4'; cases a4'
      | some b =>
        rw [e2] at a4'
        refine ht _ H3 _ b _ h3 e2 fun H4 s4 => ?_
        cases b with
        | false =>
          rw [if_neg Bool.false_ne_true]
          exact ⟨s12.trans s4, acc, done, rest, s4 _ _ (s2 _ _ a1), repL_sc a3 a2, a3, a4', a5⟩
        | true =>
          rw [if_pos rfl]
          cases e3 : te ((wipeR ρ [i]).set i (some dk)) with
          | none => simp only [e3] at a4'; cases a4'
          | some y =>
            simp only [e3] at a4'
            obtain ⟨z1, z2⟩ := cond_some a4'
            cases e4 : lcD (aName i) tr te (ds.drop (k + 1)) (wipeR ρ [i]) with
            | none => rw [e4] at z2; cases z2
            | some r =>
              rw [e4] at z2
              cases z2
              refine ⟨_, y, h3.same s4, e3, fun v H5 s5 rv => ⟨acc, s5 _ _ (s4 _ _ (s2 _ _ a1)), ?_, ?_⟩⟩
              · rw [a2.length]
                have : ys.length = done.length + (r.length + 1) := by rw [a5, List.length_append, List.length_cons]
                rw [sizeLine_eq]
                omega
              · refine ⟨fun b u eb => ?_, acc ++ [v], done ++ [y], r, upd_same, (repL_sc (H' := upd H5 D (.lst (acc ++ [v]))) a3 a2).append ⟨v, [], rfl, rep_sc z1 rv, rfl⟩, ?_, rfl, by rw [a5, List.append_assoc]; rfl⟩
                · rw [upd_ne (ne_of_none eb hD)]
                  exact s5 _ _ (s4 _ _ (s12 _ _ eb))
                · rw [List.all_append, a3, List.all_cons, z1]
                  rfl
  · rintro H2 ⟨s1, acc, done, rest, a1, a2, a3, a4, a5⟩
    rw [List.drop_length] at a4
    cases a4
    rw [List.append_nil] at a5
    subst a5
    exact q _ H2 s1 ⟨D, acc, rfl, a1, a2, m3⟩
/-- [e for x in it] -/
theorem px_lc0 {elt iter : Expr} {scope : Scope} {x : Str} {p pos : Pos} {l : RA} {te : RE} (i : Nat) (hc : X.calm = true) (hN : X.N.Nodup) (hi : IX C X (.Name x p) iter l) (hx : X.N[i]? = some x) (ok : BlkOk X.N X.env.scope scope [(x, i)])
    (hg : ∀ (s : Shared) (H : Hp) (C' : Addr) (cl : List (Str × Addr)) (fp : List Addr), PG (X.blk s H scope (compEnvC scope cl C' X.env) fp) (.Name x p) (gName i))
    (he : ∀ (s : Shared) (H : Hp) (C' : Addr) (cl : List (Str × Addr)) (fp : List Addr), PX C (X.blk s H scope (compEnvC scope cl C' X.env) fp) elt te) (hs : ∀ x, foldedSetIterable iter X.env x = pure x := by intro _; rfl) :
    PX C X (.ListComp elt [⟨.Name x p, iter, [], 0⟩] scope pos) (eLc (aName i) l tYesR te [i]) := by
  obtain ⟨wi, pi, ri⟩ := hi
  refine ⟨_, pe_lc (own := [(x, i)]) (te := tE (cw C X) te) hc hN pi ok hg (fun _ _ _ _ _ => pts_nil) (fun s H C' cl fp => (he s H C' cl fp).pe) hs, fun σ H ρ d Q h e q => ?_⟩
  unfold eLc at e
  cases e1 : l ρ with
  | none => rw [e1] at e; cases e
  | some ds =>
    rw [e1] at e
    cases e2 : lcD (aName i) tYesR te ds (wipeR ρ [i]) with
    | none => simp only [e2] at e; cases e
    | some ys =>
      simp only [e2] at e
      refine ri σ H ρ ds _ h e1 fun J H1 s1 wk => ?_
      exact lc_read (c := cw C X) (tt := tYes) wk (h.same s1) (fun σ H ρ b Q _ e q => by cases e; exact q H (Same.refl H)) e2 e (q.mono s1)
/-- [e for x in it if t] -/
theorem px_lc1 {elt iter tst : Expr} {scope : Scope} {x : Str} {p pos : Pos} {l : RA} {tr : RT} {te : RE} (i : Nat) (hc : X.calm = true) (hN : X.N.Nodup) (hi : IX C X (.Name x p) iter l) (hx : X.N[i]? = some x) (ok : BlkOk X.N X.env.scope scope [(x, i)])
    (hg : ∀ (s : Shared) (H : Hp) (C' : Addr) (cl : List (Str × Addr)) (fp : List Addr), PG (X.blk s H scope (compEnvC scope cl C' X.env) fp) (.Name x p) (gName i))
    (ht : ∀ (s : Shared) (H : Hp) (C' : Addr) (cl : List (Str × Addr)) (fp : List Addr), TX C (X.blk s H scope (compEnvC scope cl C' X.env) fp) tst tr)
    (he : ∀ (s : Shared) (H : Hp) (C' : Addr) (cl : List (Str × Addr)) (fp : List Addr), PX C (X.blk s H scope (compEnvC scope cl C' X.env) fp) elt te) (hs : ∀ x, foldedSetIterable iter X.env x = pure x := by intro _; rfl) :
    PX C X (.ListComp elt [⟨.Name x p, iter, [tst], 0⟩] scope pos) (eLc (aName i) l tr te [i]) := by
  obtain ⟨wi, pi, ri⟩ := hi
  refine ⟨_, pe_lc (own := [(x, i)]) (te := tE (cw C X) te) (tt := tT (cw C X) tr) hc hN pi ok hg (fun s H C' cl fp => pts_one (ht s H C' cl fp).pt) (fun s H C' cl fp => (he s H C' cl fp).pe) hs, fun σ H ρ d Q h e q => ?_⟩
  unfold eLc at e
  cases e1 : l ρ with
  | none => rw [e1] at e; cases e
  | some ds =>
    rw [e1] at e
    cases e2 : lcD (aName i) tr te ds (wipeR ρ [i]) with
    | none => simp only [e2] at e; cases e
    | some ys =>
      simp only [e2] at e
      refine ri σ H ρ ds _ h e1 fun J H1 s1 wk => ?_
      exact lc_read (c := cw C X) (tt := tT (cw C X) tr) wk (h.same s1) (fun σ H ρ b Q h e q => ⟨ρ, b, h, e, q⟩) e2 e (q.mono s1)
end
end
end Rp
set_option Elab.async false
set_option linter.all false
set_option maxRecDepth 100000
set_option maxHeartbeats 1000000
namespace Rp
noncomputable section
open PySem PySem.Spec PyProof.Rows L2 SX
/-! ### more operators on data -/
def dNeg : D → Option D
  | .int i => some (.int (-i))
  | _ => none
def is_str : D → Option D
  | .str _ => some (.bl true)
  | .int _ => some (.bl false)
  | .bl _ => some (.bl false)
  | .non => some (.bl false)
  | .lstx _ => some (.bl false)
  | _ => none
def is_int : D → Option D
  | .str _ => some (.bl false)
  | .int _ => some (.bl true)
  | .bl _ => some (.bl true)
  | .non => some (.bl false)
  | _ => none
/-- b at the beginning of a -/
def preN (b : List Nat) : List Nat → Bool := @List.rec Nat (fun _ => List Nat → Bool) (fun _ => true) (fun x _ ih a => @List.rec Nat (fun _ => Bool) false (fun y a' _ => @Bool.rec (fun _ => Bool) false (ih a') (Nat.beq x y)) a) b
def d_startswith : D → D → Option D
  | .str a, e => (match e with
    | .str b => some (.bl (preN b a))
    | _ => none)
  | _, _ => none
def d_endswith : D → D → Option D
  | .str a, e => (match e with
    | .str b => some (.bl (cnd (Nat.ble b.length a.length) (beqL (dropD (a.length - b.length) a) b) false))
    | _ => none)
  | _, _ => none
/-- the place of c, from the i-th sign on -/
def findN (c : Nat) (l : List Nat) : Nat → Option Nat := @List.rec Nat (fun _ => Nat → Option Nat) (fun _ => none) (fun x _ ih i => @Bool.rec (fun _ => Option Nat) (ih (Nat.add i 1)) (some i) (Nat.beq c x)) l
def findI (c : Nat) (s : List Nat) (i : Nat) : Int := match findN c (dropD i s) i with
  | some k => Int.ofNat k
  | none => -1
def o3 (F : D → D → D → Option D) (f g h : RE) : RE := fun ρ => match f ρ with
  | some x => (match g ρ with
    | some y => (match h ρ with
      | some z => F x y z
      | none => none)
    | none => none)
  | none => none
def d_find : D → D → D → Option D
  | .str s, e, i => (match e with
    | .str [c] => (match i with
      | .int (.ofNat n) => some (.int (findI c s n))
      | _ => none)
    | _ => none)
  | _, _, _ => none
def beqLL : List (List Nat) → List (List Nat) → Bool
  | [], [] => true
  | a :: l, b :: m => beqL a b && beqLL l m
  | _, _ => false
theorem beqLL_eq : ∀ {l m : List (List Nat)}, beqLL l m = true → l = m
  | [], [], _ => rfl
  | a :: l, b :: m, h => by
    have h' : (beqL a b && beqLL l m) = true := h
    obtain ⟨h1, h2⟩ := Bool.and_eq_true_iff.mp h'
    rw [beqL_eq] at h1
    rw [eq_of_beq h1, beqLL_eq h2]
  | [], _ :: _, h => by cases h
  | _ :: _, [], h => by cases h
def strL (l : List (List Nat)) : D := .lst (l.map D.str)
/-! ### dicts with text keys -/
def lookD : List (List Nat × D) → List Nat → Option D
  | [], _ => none
  | (k, d) :: r, z => cnd (beqL k z) (some d) (lookD r z)
abbrev RK := Rho → Option (List (List Nat × D))
def dNil : RK := fun _ => some []
/-- a value that a display may hold -/
def valOk : D → Bool
  | .str _ => true
  | .lst l => l.all isSc
  | _ => false
def dCons (k : List Nat) (f : RE) (g : RK) : RK := fun ρ => match f ρ with
  | some d => (match g ρ with
    | some r => cnd (valOk d) (some ((k, d) :: r)) none
    | none => none)
  | none => none
/-- no key twice -/
def nodK : List (List Nat × D) → Bool
  | [] => true
  | (k, _) :: r => (match lookD r k with
    | some _ => false
    | none => nodK r)
def mkDic (kvs : List (List Nat × D)) : Option D := cnd (Nat.ble kvs.length 15) (cnd (nodK kvs) (some (.dic kvs)) none) none
def eDic (f : RK) : RE := fun ρ => match f ρ with
  | some kvs => cnd (Nat.beq kvs.length 0) none (mkDic kvs)
  | none => none
def d_get : D → D → D → Option D
  | .dic kvs, k, z => (match k with
    | .str s => (match lookD kvs s with
      | some d => some d
      | none => some z)
    | _ => none)
  | _, _, _ => none
def dDix : D → D → Option D
  | .dic kvs, k => (match k with
    | .str s => lookD kvs s
    | _ => none)
  | _, _ => none
def dKix (kvs : List (List Nat × D)) : D → Option D
  | .str s => lookD kvs s
  | _ => none
/-- the pairs of a dict, then these -/
def eDicS (f : RE) (g : RK) : RE := fun ρ => match f ρ with
  | some (.dic a) => (match g ρ with
    | some b => cnd (Nat.beq a.length 0) none (cnd (Nat.beq b.length 0) none (cnd (a.all fun p => valOk p.2) (mkDic (a ++ b)) none))
    | none => none)
  | _ => none
/-- + of two lists -/
def dAddL : D → D → Option D
  | .lst a, e => dAdd (.lst a) e
  | _, _ => none
def noL1 : D → Bool
  | .st l g f p t => cnd (dat1 l) (cnd (dat1 g) (cnd (dat1 f) (cnd (dat1 p) (dat1 t) false) false) false) false
  | d => dat1 d
def noL : D → Bool
  | .tupx ds => ds.all noL1
  | d => noL1 d
/-- no slot but the i-th leans on a list -/
def okApp : Nat → Rho → Bool
  | _, [] => true
  | 0, _ :: r => r.all fun x => match x with
    | some d => noL d
    | none => true
  | i + 1, x :: r => cnd (match x with
    | some d => noL d
    | none => true) (okApp i r) false
/-- x.append(e) at a slot -/
def sApp (i : Nat) (f : RE) : RS := fun ρ => match getR ρ i with
  | some l => (match f ρ with
    | some d => (match lstOf l with
      | some xs => cnd (Nat.ble xs.length 4095) (cnd (okApp i ρ) (cnd (noL d) (match l with
        | .lst _ => cnd (dat1 d) (some (.nx (ρ.set i (some (.lst (xs ++ [d])))))) none
        | _ => cnd (xs.all noL) (some (.nx (ρ.set i (some (.lstx (xs ++ [d])))))) none) none) none) none
      | none => none)
    | none => none)
  | none => none
/-- the items of a list or a tuple -/
def seqAny (f : RE) : RA := fun ρ => match f ρ with
  | some (.tup l) => some l
  | some (.lst l) => some l
  | _ => none
def isLx : D → Bool
  | .lstx _ => true
  | _ => false
/-- return of what is no list of anything -/
def sRetN (f : RE) : RS := fun ρ => match f ρ with
  | some d => cnd (isLx d) none (some (.rt d))
  | none => none
/-- for over scalars, while the own list at slot i begins empty -/
def sForL (i : Nat) (A : D → Rho → Option Rho) (l : RA) (f : RS) : RS := fun ρ => match getR ρ i with
  | some l0 => (match lstOf l0 with
    | some [] => (match l ρ with
      | some (d :: ds) => cnd ((d :: ds).all isSc) (forD A f (d :: ds) ρ) none
      | _ => none)
    | _ => none)
  | none => none
def addI (ks : List Int) (i : Int) : List Int := if i ∈ ks then ks else ks ++ [i]
/-- insertion -/
def insI (i : Int) : List Int → List Int
  | [] => [i]
  | j :: r => cnd (iLt j i) (j :: insI i r) (i :: j :: r)
def sortI : List Int → List Int
  | [] => []
  | i :: r => insI i (sortI r)
/-! ### enumerate -/
def enum : List D → Nat → List D
  | [], _ => []
  | d :: r, n => .tupx [.int (Int.ofNat n), d] :: enum r (n + 1)
def seqEnS (f : RE) : RA := fun ρ => match f ρ with
  | some (.str s) => some (enum (oneS s) 0)
  | _ => none
def seqEnL (f : RE) : RA := fun ρ => match f ρ with
  | some d => (match lstOf d with
    | some l => some (enum l 0)
    | none => none)
  | _ => none
/-! ### a def's value -/
def padR : List D → Nat → Rho
  | [], z => List.replicate z none
  | d :: r, z => some d :: padR r z
/-- of n parameters, z more slots -/
def runF (n z : Nat) (b : RS) : List D → Option D := fun ds => cnd (Nat.beq ds.length n) (match b (padR ds z) with
  | some (.rt d) => some d
  | some (.nx _) => some .non
  | _ => none) none
/-- a method with a star parameter behind self -/
def runV (z : Nat) (b : RS) : List D → Option D
  | [] => none
  | s :: r => (match mkTup r with
    | some t => runF 2 z b [s, t]
    | none => none)
/-- the third parameter is () where it lacks -/
def runP (z : Nat) (b : RS) (ds : List D) : Option D := cnd (Nat.beq ds.length 2) (runF 3 z b (ds ++ [.tup []])) (runF 3 z b ds)
end
end Rp
set_option Elab.async false
set_option linter.all false
set_option maxRecDepth 100000
set_option maxHeartbeats 1000000
namespace Rp
noncomputable section
open PySem PySem.Spec PyProof.Rows L2 SX
section
variable {C : Addr} {X : Cx}
theorem px_neg {a : Expr} {f : RE} {pos : Pos} (h : PX C X a f) : PX C X (.UnaryOp .USub a pos) (e1 dNeg f) := by
  obtain ⟨t, p, r⟩ := h
  refine ⟨_, pe_un un_neg p, fun σ H ρ d Q h e q => ?_⟩
  obtain ⟨x, ea, eb⟩ := e1_some e
  refine r σ H ρ x _ h ea fun v H1 s1 r1 => ?_
  cases x with
  | int i => cases eb; exact ⟨i, r1, q _ H1 s1 rfl⟩
  | _ => cases eb
/-! ### isinstance -/
theorem px_isi {T : String} {x : Str} {e : Expr} {f : RE} {F : D → Option D} {p q pos : Pos} (hm : X.mg "isinstance" = none) (hT : X.mg x = none) (he : PX C X e f) (hv : bootBuiltins x = some (.type T))
    (hF : ∀ H d v b, Rep (cw C X) H d v → F d = some b → ∃ (t : String) (k : Bool), TyX X.K H v (.type t) ∧ kitB t T = some k ∧ b = .bl k)
    (hx : x ≠ "__name__") (hd : (x == ("__debug__" : Str)) = false) (hg : Gl X "isinstance" := by rfl) (hg2 : Gl X x := by rfl)
    (hs1 : starEach [e, .Name x q] X.env = (false, eval e X.env) :: starEach [.Name x q] X.env := by rfl) (hs2 : starEach [.Name x q] X.env = (false, eval (.Name x q) X.env) :: starEach [] X.env := by rfl)
    (hpl : (backTo pos (starEach [.Name x q] X.env)).any (·.1) = false := by rfl) : PX C X (.Call (.Name "isinstance" p) [e, .Name x q] [] pos) (e1 F f) := by
  obtain ⟨t, pe, r⟩ := he
  have hb : PE X (.Name x q) (tC (.ty T)) := pe_bltn (v := .ty T) hg2 hT hv rfl hx hd
  refine ⟨_, pe_callB call_isi hg hm (by decide +kernel) (pa_cons pe (pa_cons hb pa_nil hs2) hs1) (by decide) (by decide) hs1 hpl, fun σ H ρ d Q h e q => ?_⟩
  obtain ⟨y, ea, eb⟩ := e1_some e
  refine r σ H ρ y _ h ea fun v H1 s1 r1 => ?_
  obtain ⟨t, k, z1, z2, z3⟩ := hF H1 y v d r1 eb
  subst z3
  exact ⟨v, .ty T, .type t, .type T, k, rfl, .ty T, z1, kit_ty z2, q _ H1 s1 rfl⟩
theorem isi_str {H : Hp} {d : D} {v : V} {b : D} (r : Rep (cw C X) H d v) (e : is_str d = some b) : ∃ (t : String) (k : Bool), TyX X.K H v (.type t) ∧ kitB t "str" = some k ∧ b = .bl k := by
  cases d with
  | str s => cases e; rw [r.1]; exact ⟨"str", true, .base (.str _), by decide +kernel, rfl⟩
  | int s => cases e; rw [show v = _ from r]; exact ⟨"int", false, .base (.int _), by decide +kernel, rfl⟩
  | bl s => cases e; rw [show v = _ from r]; exact ⟨"bool", false, .base (.bl _), by decide +kernel, rfl⟩
  | non => cases e; rw [show v = _ from r]; exact ⟨"NoneType", false, .base .non, by decide +kernel, rfl⟩
  | lstx l => cases e; obtain ⟨a, vs, h1, h2, h3⟩ := r; rw [h1]; exact ⟨"list", false, .base (.lst h2), by decide +kernel, rfl⟩
  | _ => cases e
theorem isi_int {H : Hp} {d : D} {v : V} {b : D} (r : Rep (cw C X) H d v) (e : is_int d = some b) : ∃ (t : String) (k : Bool), TyX X.K H v (.type t) ∧ kitB t "int" = some k ∧ b = .bl k := by
  cases d with
  | str s => cases e; rw [r.1]; exact ⟨"str", false, .base (.str _), by decide +kernel, rfl⟩
  | int s => cases e; rw [show v = _ from r]; exact ⟨"int", true, .base (.int _), by decide +kernel, rfl⟩
  | bl s => cases e; rw [show v = _ from r]; exact ⟨"bool", true, .base (.bl _), by decide +kernel, rfl⟩
  | non => cases e; rw [show v = _ from r]; exact ⟨"NoneType", false, .base .non, by decide +kernel, rfl⟩
  | _ => cases e
/-! ### a text's methods -/
theorem pre_len : ∀ b a : List Nat, preN b a = (a.take b.length == b)
  | [], a => by
    show true = _
    simp
  | x :: b, [] => by
    show false = _
    simp
  | x :: b, y :: a => by
    show cnd (Nat.beq x y) (preN b a) false = _
    rw [pre_len b a, List.length_cons, List.take_succ_cons, List.cons_beq_cons]
    have e : Nat.beq x y = (y == x) := by rw [Bool.eq_iff_iff, Nat.beq_eq, beq_iff_eq]; exact eq_comm
    rw [e]
    cases (y == x) <;> rfl
theorem starts_eq (a b : List Nat) : Txt.startswith (S a) (S b) = preN b a := by
  unfold Txt.startswith
  rw [StrLaws.subAt_eq, pre_len, S_len, S_len]
  show (decide (0 + b.length ≤ a.length) && ((a.drop 0).take b.length == b)) = _
  rw [List.drop_zero, Nat.zero_add]
  cases h : (a.take b.length == b) with
  | false => rw [Bool.and_false]
  | true =>
    have e : a.take b.length = b := eq_of_beq h
    have hl := congrArg List.length e
    rw [List.length_take] at hl
    rw [decide_eq_true (by omega : b.length ≤ a.length)]
    rfl
theorem ends_eq (a b : List Nat) : Txt.endswith (S a) (S b) = cnd (Nat.ble b.length a.length) (beqL (dropD (a.length - b.length) a) b) false := by
  unfold Txt.endswith
  rw [StrLaws.subAt_eq, S_len, S_len, dropD_eq, beqL_eq]
  show (decide (0 + b.length ≤ a.length) && ((a.drop (a.length - b.length)).take b.length == b)) = _
  rw [Nat.zero_add]
  cases h : Nat.ble b.length a.length with
  | true =>
    have h1 := Nat.le_of_ble_eq_true h
    rw [decide_eq_true h1, List.take_of_length_le (by rw [List.length_drop]; omega)]
    rfl
  | false =>
    have h1 : ¬ b.length ≤ a.length := fun z => by rw [Nat.ble_eq_true_of_le z] at h; cases h
    rw [decide_eq_false h1]
    rfl
theorem px_startswith {o e : Expr} {f g : RE} {apos pos : Pos} (ho : PX C X o f) (he : PX C X e g)
    (hs : starEach [e] X.env = [(false, eval e X.env)] := by rfl) (hbase : attributeBase o "startswith" X.env (eval o X.env) = eval o X.env := by rfl) (hline : (apos.endLine == pos.line) = true := by rfl) :
    PX C X (.Call (.Attribute o "startswith" apos) [e] [] pos) (o2 d_startswith f g) := by
  obtain ⟨to, po, ro⟩ := ho
  obtain ⟨te, pe, re⟩ := he
  refine ⟨_, pe_m1 F.slot_str_startswith F.type_str_startswith mt_startswith po pe hs hbase hline, fun σ H ρ d Q h e q => ?_⟩
  obtain ⟨x, y, e1, e2, e3⟩ := o2_some e
  refine ro σ H ρ x _ h e1 fun v H1 s1 r1 => ?_
  cases x with
  | str a =>
    refine ⟨⟨_, r1.1⟩, re σ H1 ρ y _ (h.same s1) e2 fun u H2 s2 r2 => ?_⟩
    cases y with
    | str b =>
      cases e3
      refine ⟨S a, S b, r1.1, by rw [r2.1], ?_⟩
      rw [starts_eq]
      exact q _ H2 (s1.trans s2) rfl
    | _ => cases e3
  | _ => cases e3
theorem px_endswith {o e : Expr} {f g : RE} {apos pos : Pos} (ho : PX C X o f) (he : PX C X e g)
    (hs : starEach [e] X.env = [(false, eval e X.env)] := by rfl) (hbase : attributeBase o "endswith" X.env (eval o X.env) = eval o X.env := by rfl) (hline : (apos.endLine == pos.line) = true := by rfl) :
    PX C X (.Call (.Attribute o "endswith" apos) [e] [] pos) (o2 d_endswith f g) := by
  obtain ⟨to, po, ro⟩ := ho
  obtain ⟨te, pe, re⟩ := he
  refine ⟨_, pe_m1 F.slot_str_endswith F.type_str_endswith mt_endswith po pe hs hbase hline, fun σ H ρ d Q h e q => ?_⟩
  obtain ⟨x, y, e1, e2, e3⟩ := o2_some e
  refine ro σ H ρ x _ h e1 fun v H1 s1 r1 => ?_
  cases x with
  | str a =>
    refine ⟨⟨_, r1.1⟩, re σ H1 ρ y _ (h.same s1) e2 fun u H2 s2 r2 => ?_⟩
    cases y with
    | str b =>
      cases e3
      refine ⟨S a, S b, r1.1, by rw [r2.1], ?_⟩
      rw [ends_eq]
      exact q _ H2 (s1.trans s2) rfl
    | _ => cases e3
  | _ => cases e3
/-! ### find of one sign -/
theorem occ_full (x y : Str) (hi k : Nat) : ∀ (l : List Nat) (f : Nat), (forIn l ((#[k] : Array Nat), f) (StrLaws.occBody x y hi 1)).run.fst = #[k]
  | [], f => rfl
  | a :: l, f => by
    rw [List.forIn_cons]
    unfold StrLaws.occBody
    rw [if_neg (by simp)]
    exact occ_full x y hi k l f
theorem occ_first (x : Str) (c : Nat) : ∀ (l : List Nat) (f : Nat), (∀ i ∈ l, f ≤ i) → (forIn l ((#[] : Array Nat), f) (StrLaws.occBody x ⟨#[c]⟩ x.length 1)).run.fst.toList = (match l.find? fun i => decide (x.cps.toList[i]? = some c) with
    | some i => [i]
    | none => [])
  | [], f, _ => rfl
  | a :: l, f, hf => by
    rw [List.forIn_cons, List.find?_cons]
    have ha : f ≤ a := hf a (List.mem_cons_self ..)
    have key := StrLaws.subAt_one x c a
    by_cases hc : x.cps.toList[a]? = some c
    · rw [decide_eq_true hc]
      obtain ⟨h1, h2⟩ := key.mpr hc
      unfold StrLaws.occBody
      rw [if_pos ⟨⟨⟨by simp, ha⟩, h1⟩, h2⟩]
      show (forIn l ((#[a] : Array Nat), _) (StrLaws.occBody x ⟨#[c]⟩ x.length 1)).run.fst.toList = [a]
      rw [occ_full]
    · rw [decide_eq_false hc]
      have hn : ¬ (((((#[] : Array Nat), f).fst.size < 1 ∧ ((#[] : Array Nat), f).snd ≤ a) ∧ a + (⟨#[c]⟩ : Str).length ≤ x.length) ∧ Builtin.Str.subAt x ⟨#[c]⟩ a = true) := fun z => hc (key.mp ⟨z.1.2, z.2⟩)
      unfold StrLaws.occBody
      rw [if_neg hn]
      exact occ_first x c l f fun i hi => hf i (List.mem_cons_of_mem _ hi)
theorem findN_find (c : Nat) : ∀ (r p : List Nat) (i : Nat), p.length = i → findN c r i = (List.range' i (r.length + 1)).find? fun j => decide ((p ++ r)[j]? = some c)
  | [], p, i, hp => by
    show none = _
    simp [List.range', ← hp]
  | x :: r, p, i, hp => by
    show @Bool.rec (fun _ => Option Nat) (findN c r (Nat.add i 1)) (some i) (Nat.beq c x) = _
    rw [List.length_cons, List.range'_succ, List.find?_cons]
    have e : (p ++ x :: r)[i]? = some x := by rw [← hp, List.getElem?_append_right (Nat.le_refl _)]; simp
    rw [e]
    cases h : Nat.beq c x with
    | true =>
      have : c = x := Nat.eq_of_beq_eq_true h
      rw [decide_eq_true (by rw [this])]
    | false =>
      have : c ≠ x := Nat.ne_of_beq_eq_false h
      rw [decide_eq_false (by intro z; exact this (Option.some.inj z).symm)]
      have ih := findN_find c r (p ++ [x]) (i + 1) (by rw [List.length_append, hp]; rfl)
      rw [List.append_assoc] at ih
      exact ih
theorem find3_eq (s : List Nat) (c n : Nat) : Txt.find3 (S s) (S [c]) (Int.ofNat n) = findI c s n := by
  unfold Txt.find3
  have h0 : fromIndex (S s).length (Int.ofNat n) = n := by
    unfold fromIndex
    rw [if_neg (by have : (0 : Int) ≤ Int.ofNat n := Int.natCast_nonneg n; omega)]
    show (max 0 (n : Int)).toNat = n
    omega
  rw [h0, StrLaws.occ_eq]
  have h1 := occ_first (S s) c (List.range' n ((S s).length + 1 - n)) n (fun i hi => by
    rw [List.mem_range'] at hi
    obtain ⟨k, _, e⟩ := hi
    omega)
  have hS : (S [c]) = (⟨#[c]⟩ : Str) := rfl
  rw [hS, h1, S_len]
  unfold findI
  rw [dropD_eq]
  by_cases hn : n ≤ s.length
  · have h2 := findN_find c (s.drop n) (s.take n) n (by rw [List.length_take]; omega)
    rw [List.take_append_drop, List.length_drop] at h2
    rw [h2, show s.length - n + 1 = s.length + 1 - n by omega]
    show (match (match (List.range' n (s.length + 1 - n)).find? fun i => decide (s[i]? = some c) with
      | some i => [i]
      | none => []) with
      | k :: _ => (k : Int)
      | [] => -1) = _
    cases (List.range' n (s.length + 1 - n)).find? fun i => decide (s[i]? = some c) <;> rfl
  · rw [List.drop_eq_nil_of_le (by omega), show s.length + 1 - n = 0 by omega]
    rfl
theorem px_find {o e i : Expr} {f g k : RE} {apos pos : Pos} (ho : PX C X o f) (he : PX C X e g) (hi : PX C X i k)
    (hbase : attributeBase o "find" X.env (eval o X.env) = eval o X.env := by rfl)
    (hfew : ((backTo pos (starEach [e, i] X.env)).all (fun x => !x.1) && (backToKw pos (keywordEach [] X.env)).all (fun x => x.1.isSome)
      && decide (([e, i] : List Expr).length + ([] : List Keyword).length + (if ([] : List Keyword).isEmpty then 0 else 1) < 30)) = true := by rfl)
    (hline : (apos.endLine == pos.line) = true := by rfl) (hs : starEach [e, i] X.env = (false, eval e X.env) :: starEach [i] X.env := by rfl) (hs2 : starEach [i] X.env = (false, eval i X.env) :: starEach [] X.env := by rfl)
    (hplain : (backTo pos (starEach [i] X.env)).any (·.1) = false := by rfl) :
    PX C X (.Call (.Attribute o "find" apos) [e, i] [] pos) (o3 d_find f g k) := by
  obtain ⟨to, po, ro⟩ := ho
  obtain ⟨te, pe, re⟩ := he
  obtain ⟨ti, pi, ri⟩ := hi
  refine ⟨_, pe_bm F.plainAttrs_str F.slot_str_find F.type_str_find mt_find3 po (pa_cons pe (pa_cons pi pa_nil hs2) hs) hbase hfew hline hs hplain, fun σ H ρ d Q h e q => ?_⟩
  unfold o3 at e
  cases e1 : f ρ with
  | none => rw [e1] at e; cases e
  | some x =>
    rw [e1] at e
    cases e2 : g ρ with
    | none => simp only [e2] at e; cases e
    | some y =>
      simp only [e2] at e
      cases e3 : k ρ with
      | none => simp only [e3] at e; cases e
      | some z =>
        simp only [e3] at e
        refine ro σ H ρ x _ h e1 fun v H1 s1 r1 => ?_
        cases x with
        | str a =>
          refine ⟨by rw [r1.1]; rfl, re σ H1 ρ y _ (h.same s1) e2 fun u H2 s2 r2 => ri σ H2 ρ z _ (h.same (s1.trans s2)) e3 fun w H3 s3 r3 => ?_⟩
          cases y with
          | str b =>
            match b, e, r2 with
            | [c], e, r2 =>
              cases z with
              | int n =>
                cases n with
                | ofNat n =>
                  cases e
                  refine ⟨S a, S [c], Int.ofNat n, r1.1, by rw [r2.1, show w = _ from r3], ?_⟩
                  rw [find3_eq]
                  exact q _ H3 (s1.trans (s2.trans s3)) rfl
                | negSucc n => cases e
              | _ => cases e
          | _ => cases e
        | _ => cases e
/-! ### a written text, split -/
theorem repL_strs {c : Cw} {H : Hp} : ∀ {l : List (List Nat)}, l.all okS = true → RepL c H (l.map D.str) ((l.map S).map V.str)
  | [], _ => rfl
  | s :: l, h => by
    have e : (okS s && l.all okS) = true := h
    obtain ⟨a, b⟩ := Bool.and_eq_true_iff.mp e
    exact ⟨V.str (S s), (l.map S).map V.str, rfl, ⟨rfl, a⟩, repL_strs b⟩
theorem all_strs : ∀ l : List (List Nat), (l.map D.str).all dat1 = true
  | [] => rfl
  | s :: l => all_strs l
theorem px_split {a b : List Nat} {l : List (List Nat)} {x y : Str} {j j2 : Nat} {p1 p2 apos pos : Pos} (hx : x = S a) (hy : y = S b) (h : (beqLL (TL.spl b 0 [] a) l && (l.all okS && (b.all (· < 256) && (Nat.beq b.length 1 && okS a)))) = true)
    (hs : starEach [.Constant (.str y) j2 p2] X.env = [(false, eval (.Constant (.str y) j2 p2) X.env)] := by rfl) (hbase : attributeBase (.Constant (.str x) j p1) "split" X.env (eval (.Constant (.str x) j p1) X.env) = eval (.Constant (.str x) j p1) X.env := by rfl)
    (hline : (apos.endLine == pos.line) = true := by rfl) : PX C X (.Call (.Attribute (.Constant (.str x) j p1) "split" apos) [.Constant (.str y) j2 p2] [] pos) (eC (strL l)) := by
  obtain ⟨h1, h⟩ := Bool.and_eq_true_iff.mp h
  obtain ⟨h2, h⟩ := Bool.and_eq_true_iff.mp h
  obtain ⟨h3, h⟩ := Bool.and_eq_true_iff.mp h
  obtain ⟨h4, h5⟩ := Bool.and_eq_true_iff.mp h
  have h1' : TL.spl b 0 [] a = l := beqLL_eq h1
  have hl : b.length = 1 := Nat.eq_of_beq_eq_true h4
  subst hx hy
  refine ⟨_, pe_split pe_str pe_str hs hbase hline, fun σ H ρ d Q h e q => ?_⟩
  cases e
  refine ⟨⟨_, rfl⟩, S a, S b, rfl, rfl, by rw [S_len, hl]; rfl, ?_, fun p hp => ?_⟩
  · have := okS_len h5
    rw [S_len, sizeLine_eq]
    omega
  · rw [split_S (by intro z; rw [z] at hl; cases hl) h3, h1']
    exact q _ _ (same_new hp) ⟨p, _, rfl, upd_same, repL_strs h2, all_strs l⟩
end
end
end Rp
set_option Elab.async false
set_option linter.all false
set_option maxRecDepth 100000
set_option maxHeartbeats 1000000
namespace Rp
noncomputable section
open PySem PySem.Spec PyProof.Rows L2 SX
section
variable {C : Addr} {X : Cx}
/-! ### enumerate -/
theorem enum_at : ∀ (l : List D) (n i : Nat), (enum l n)[i]? = l[i]?.map fun d => D.tupx [.int (Int.ofNat (n + i)), d]
  | [], n, i => by simp [enum]
  | d :: r, n, 0 => by simp [enum]
  | d :: r, n, i + 1 => by
    show (enum r (n + 1))[i]? = _
    rw [enum_at r (n + 1) i, show n + 1 + i = n + (i + 1) by omega]
    simp
theorem enum_len : ∀ (l : List D) (n : Nat), (enum l n).length = l.length
  | [], _ => rfl
  | d :: r, n => congrArg Nat.succ (enum_len r (n + 1))
theorem pair_rep {c : Cw} {H : Hp} {T : Addr} {d : D} {x : V} {i : Nat} (hT : H T = none) (r : Rep c H d x) :
    Same H (upd H T (.tup [.int (i : Nat), x])) ∧ Rep c (upd H T (.tup [.int (i : Nat), x])) (.tupx [.int (Int.ofNat i), d]) (.ref T) :=
  ⟨same_new hT, T, [.int (i : Nat), x], rfl, SqT.of upd_same, .int (i : Nat), [x], rfl, rfl, x, [], rfl, r.same (same_new hT), rfl⟩
theorem ix_enumL {e : Expr} {elts : List Expr} {kk : Nat} {tpos p pos : Pos} {f : RE} (hm : X.mg "enumerate" = none) (h : PX C X e f) (hg : Gl X "enumerate" := by rfl) (hs : starEach [e] X.env = (false, eval e X.env) :: starEach [] X.env := by rfl)
    (hs1 : starEach [e] X.env = [(false, eval e X.env)] := by rfl) : IX C X (.Tuple elts kk tpos) (.Call (.Name "enumerate" p) [e] [] pos) (seqEnL f) := by
  obtain ⟨t, pe, r⟩ := h
  refine ⟨_, pi_enum hg hm (pa_cons pe pa_nil hs) hs1, fun σ H ρ l Rr h e q => ?_⟩
  unfold seqEnL at e
  cases e1 : f ρ with
  | none => rw [e1] at e; cases e
  | some d =>
    rw [e1] at e
    cases e2 : lstOf d with
    | none => simp only [e2] at e; cases e
    | some l' =>
      simp only [e2] at e
      cases e
      refine r σ H ρ d _ h e1 fun v H1 s1 r1 => ?_
      obtain ⟨a, vs, h1, h2, h3⟩ := lstOf_rep e2 r1
      refine ⟨a, vs, by rw [h1], SqL.of h2, q _ H1 s1 ⟨vs.length, _, _, walk_enum (K := X.K) (a := a) (xs := vs), by rw [enum_len, h3.length], fun H2 s2 => SqL.of (s2 _ _ h2), fun i H2 x H3 hi s2 y => ?_⟩⟩
      obtain ⟨T, y1, y2, rfl, hT, rfl, hy1, hy2⟩ := y
      cases hy1
      have hi2 : i < l'.length := by rw [← h3.length]; exact hi
      obtain ⟨v2, z1, z2⟩ := h3.get (i := i) (d := l'[i]) (by simp [hi2])
      have hy2' : vs[i]? = some y2 := hy2; rw [hy2'] at z1
      cases z1
      obtain ⟨a1, a2⟩ := pair_rep (i := i) hT (z2.same s2)
      exact ⟨a1, .tupx [.int (Int.ofNat i), l'[i]], by rw [enum_at, Nat.zero_add]; simp [hi2], a2⟩
/-- a text's signs in new pairs -/
def ItS (z : Str) : It := ⟨fun i _ => i < z.cps.size, fun i H v H' => ∃ T c, v = .ref T ∧ H T = none ∧ H' = upd H T (.tup [.int (i : Nat), .str ⟨#[c]⟩]) ∧ z.cps[i]? = some c, fun i _ => i = z.cps.size⟩
/-- both objects of the walk -/
theorem two_of {b e it : Addr} (h : b ∈ [e, it]) : b = e ∨ b = it := by simpa using h
/-- what the walk's two objects are before the i-th turn -/
structure EnS (z : Str) (t : Tok) (e it : Addr) (i : Nat) (h : Heap) : Prop where
  en : ∃ old, IsEnum h e it ((i : Nat) : Int) old
  tx : h.IsStrIter it (strIterType z) z t i
  ne : e ≠ it
/-- the text's iterator by itself -/
theorem drawsS {prog : Program} {w : World} {A : Around} (hd : A.handled = none) (z : Str) (t : Tok) (it : Addr) :
    Draws prog w A it [it] z.cps.size (fun i v => ∃ c u, z.cps[i]? = some c ∧ v = .str ⟨#[c]⟩ u) (fun i h => h.IsStrIter it (strIterType z) z t i) := by
  unfold strIterType
  by_cases k : z.cps.all (· < 128) = true
  · first | (rw [if_pos k]; exact Draws.strAscii hd it z t) | (split <;> first | exact Draws.strAscii hd it z t | exact Draws.strWide hd it z t)
  · first | (rw [if_neg k]; exact Draws.strWide hd it z t) | (split <;> first | exact Draws.strAscii hd it z t | exact Draws.strWide hd it z t)
theorem turn_enumS {P : Program} {w : World} {K : PySem.W.Frag} {elts : List Expr} {kk : Nat} {tpos : Pos} (z : Str) (t : Tok) (e it : Addr) : Turn P w K (.Tuple elts kk tpos) (ItS z) [e, it] e (EnS z t e it) where
  mem := List.mem_cons_self
  obj := by
    rintro i h ⟨⟨_, x⟩, tx, _⟩ b hb
    rcases two_of hb with q | q
    · subst q
      exact ⟨_, x, fun _ y => nomatch y⟩
    · subst q
      obtain ⟨ob, x1, _, x3⟩ := tx
      exact ⟨ob, x1, fun v y => by rw [x3] at y; cases y⟩
  keep := fun i h h' en k => { en := let ⟨old, x⟩ := en.en; ⟨old, k e List.mem_cons_self _ x⟩, tx := let ⟨ob, x1, x2⟩ := en.tx; ⟨ob, k it (List.mem_cons_of_mem _ List.mem_cons_self) ob x1, x2⟩, ne := en.ne }
  item := by
    rintro X rfl rfl rfl calm i pins s σ H E I fp ⟨⟨old, isE⟩, isS, ne⟩ more
    have lt1 := Heap.lt_size isE
    have lt2 : it < s.heap.objs.size := let ⟨_, x, _⟩ := isS; Heap.lt_size x
    have dr := drawsS (prog := X.prog) (w := X.w) (A := X.A.in1) (I.ok.hd calm) z t it
    refine wpAny_pyNext_enum_itemD dr isE isS more ne (by simp [ne]) fun x h1 tk hx hE1 hS1 hT hsz hkeep => ?_
    obtain ⟨c, u, at1, rfl⟩ := hx
    refine ⟨_, rfl, wpAny_letOwnedTupleGo_enum (s := { s with heap := h1, toks := tk + 1 }) hE1 fun h2 hE2 sb => ?_⟩
    have pair : h2.get? s.heap.objs.size = some { cls := .type "tuple", data := .seq #[.int i tk, .str ⟨#[c]⟩ u] } := by
      rw [sb.2 _ (Nat.ne_of_gt lt1)]
      exact hT
    have laid : ObjOk X.prog X.w (upd H s.heap.objs.size (.tup [.int (i : Nat), .str ⟨#[c]⟩])) h2 s.heap.objs.size (.tup [.int (i : Nat), .str ⟨#[c]⟩]) :=
      ⟨Nat.le_of_ble_eq_true rfl, [.int i tk, .str ⟨#[c]⟩ u], .cons ⟨_, rfl⟩ (.cons ⟨_, rfl⟩ .nil), _, pair, rfl, _, rfl⟩
    have other : ∀ b ob, b ∉ [e, it] → s.heap.get? b = some ob → h2.get? b = some ob := fun b ob out q => by
      have o1 : b ≠ e := fun y => out (y ▸ List.mem_cons_self)
      have o2 : b ≠ it := fun y => out (y ▸ List.mem_cons_of_mem _ List.mem_cons_self)
      rw [sb.2 b o1]
      exact hkeep b ob o1 o2 q
    refine ⟨.ref s.heap.objs.size, _, I.turnedNew (s := s) (ch := [e, it]) (h' := h2) (t' := tk + 1) other fp (Nat.le_refl _) laid, rfl, ⟨_, c, rfl, I.hok.fresh (Nat.le_refl _), rfl, at1⟩, ⟨⟨.str ⟨#[c]⟩ u, ?_⟩, ?_, ne⟩, fun b hb => ?_⟩
    · rw [show (((i + 1 : Nat)) : Int) = ((i : Nat) : Int) + 1 from rfl]
      exact hE2
    · obtain ⟨ob, x1, x2⟩ := hS1
      refine ⟨ob, ?_, x2⟩
      rw [sb.2 it (Ne.symm ne)]
      exact x1
    · have small : b < s.heap.objs.size := (two_of hb).elim (fun y => y ▸ lt1) (fun y => y ▸ lt2)
      rw [upd_ne (Nat.ne_of_lt small)]
      exact (fp b hb).1
  done := by
    rintro X rfl rfl rfl calm i pins s σ H E I fp ⟨⟨old, isE⟩, isS, ne⟩ over
    have over' : i = z.cps.size := over
    subst over'
    have p := fp it (List.mem_cons_of_mem _ List.mem_cons_self)
    have dr := drawsS (prog := X.prog) (w := X.w) (A := X.A.in1) (I.ok.hd calm) z t it
    exact wpAny_pyNext_enum_endD dr isE isS fun h1 eb => ⟨rfl, I.turned (t' := s.toks) (fun b ob hb q => eb b ob hb q) p.1 p.2.1 p.2.2.2.1 p.2.2.2.2.1 p.2.2.2.2.2⟩
  self := fun A i s Q E en go => let ⟨_, x⟩ := en.en; wpAny_pyIter_enum x go
theorem ix_enumS {e : Expr} {elts : List Expr} {kk : Nat} {tpos p pos : Pos} {f : RE} (hm : X.mg "enumerate" = none) (h : PX C X e f) (hg : Gl X "enumerate" := by rfl) (hs : starEach [e] X.env = (false, eval e X.env) :: starEach [] X.env := by rfl)
    (hs1 : starEach [e] X.env = [(false, eval e X.env)] := by rfl) : IX C X (.Tuple elts kk tpos) (.Call (.Name "enumerate" p) [e] [] pos) (seqEnS f) := by
  obtain ⟨t, pe, r⟩ := h
  refine ⟨fun σ H R => tCons t tNil σ H fun vs H1 => ∃ z, vs = [.str z] ∧ R (ItS z) H1, ⟨fun pins s σ H R I h => ?_⟩, fun σ H ρ l Rr h e q => ?_⟩
  · refine Call_ (ld_blt I hg hm boot_enumerate (PyProof.Rows.callWith_type1 (thn ((pa_cons pe pa_nil hs).run pos pins s σ H _ I h) fun us s1 ⟨vs, H1, I1, r1, q1⟩ => ?_) hs1 rfl))
    obtain ⟨z, ex, q⟩ := q1
    subst ex
    obtain ⟨u, rfl, tk, rfl⟩ := vals1 r1
    refine call_enumerate_str fun h' he hit hsz hk => wpAny_pyIter_enum he ?_
    have J : Inv X pins σ H1 { s1 with heap := h' } := I1.kept (t' := s1.toks) hk
    refine ⟨s1.heap.objs.size + 1, [s1.heap.objs.size + 1, s1.heap.objs.size], _, _, H1, rfl, J, turn_enumS z tk (s1.heap.objs.size + 1) s1.heap.objs.size, ⟨⟨.none, he⟩, hit, Nat.succ_ne_self _⟩, fun b hb => ?_, q⟩
    have new : s1.heap.objs.size ≤ b := by
      rcases two_of hb with y | y
      · rw [y]
        exact Nat.le_succ _
      · rw [y]
        exact Nat.le_refl _
    exact I1.fpOk new (I1.hok.fresh new)
  · unfold seqEnS at e
    split at e
    · rename_i s e1
      cases e
      refine r σ H ρ _ _ h e1 fun v H1 s1 r1 => ?_
      have hl : (oneS s).length = s.length := by unfold oneS; simp
      have wk : Walk (ItS (S s)) s.length (fun _ => True) (fun i H v H' => ∃ T c, v = .ref T ∧ H T = none ∧ H' = upd H T (.tup [.int (i : Nat), .str ⟨#[c]⟩]) ∧ (S s).cps[i]? = some c) := by
        have hz : (S s).cps.size = s.length := by show s.toArray.size = _; simp
        exact ⟨fun i _ hi _ => by show i < (S s).cps.size; rw [hz]; exact hi, fun _ _ => hz.symm, fun _ _ _ _ _ _ y => y⟩
      refine ⟨S s, by rw [r1.1], q _ H1 s1 ⟨s.length, _, _, wk, by rw [enum_len, hl], fun _ _ => True.intro, fun i H2 x H3 hi s2 y => ?_⟩⟩
      obtain ⟨T, c, rfl, hT, rfl, hc⟩ := y
      have hc2 : s[i]? = some c := by simpa using hc
      obtain ⟨a1, a2⟩ := pair_rep (c := cw C X) (d := .str [c]) (x := .str ⟨#[c]⟩) (i := i) hT ⟨rfl, okS_one r1.2 (List.mem_of_getElem? hc2)⟩
      exact ⟨a1, .tupx [.int (Int.ofNat i), .str [c]], by rw [enum_at, Nat.zero_add, oneS_at, hc2]; rfl, a2⟩
    · cases e
end
end
end Rp
set_option Elab.async false
set_option linter.all false
set_option maxRecDepth 100000
set_option maxHeartbeats 1000000
namespace Rp
noncomputable section
open PySem PySem.Spec PyProof.Rows L2 SX
/-! ### dicts with text keys -/
abbrev kvH (ws : List (Str × V)) : List (Key × V) := ws.map fun p => (Sum.inr p.1, p.2)
theorem S_inj {a b : List Nat} (h : S a = S b) : beqL a b = true := by
  rw [← S_beq', h]
  exact beq_self_eq_true _
theorem S_ne {a b : List Nat} (h : beqL a b = false) : ¬ (Sum.inr (S a) : Key) = Sum.inr (S b) := fun z => by
  rw [S_inj (Sum.inr.inj z)] at h
  cases h
theorem look_rep {c : Cw} {H : Hp} : ∀ {kvs : List (List Nat × D)} {ws : List (Str × V)} (s : List Nat), RepK c H kvs ws →
    (∀ d, lookD kvs s = some d → ∃ v, valV (kvH ws) (Sum.inr (S s)) = some v ∧ Rep c H d v) ∧ (lookD kvs s = none → valV (kvH ws) (Sum.inr (S s)) = none)
  | [], _, s, h => by
    rw [show _ = _ from h]
    exact ⟨fun d e => (by cases e), fun _ => rfl⟩
  | (k, d0) :: r, _, s, h => by
    obtain ⟨v, ws, h1, h2, h3⟩ := h
    subst h1
    obtain ⟨i1, i2⟩ := look_rep s h3
    cases hb : beqL k s with
    | true =>
      have e : S k = S s := eq_of_beq (by rw [S_beq', hb])
      refine ⟨fun d e1 => ?_, fun e1 => ?_⟩
      · unfold lookD at e1
        rw [hb] at e1
        cases e1
        exact ⟨v, valV_pos (p := ((Sum.inr (S k) : Key), v)) (by rw [e]), h2⟩
      · unfold lookD at e1
        rw [hb] at e1
        cases e1
    | false =>
      have hn : ¬ (Sum.inr (S k) : Key) = Sum.inr (S s) := S_ne hb
      refine ⟨fun d e1 => ?_, fun e1 => ?_⟩
      · unfold lookD at e1
        rw [hb] at e1
        obtain ⟨u, z1, z2⟩ := i1 d e1
        exact ⟨u, by rw [← z1]; exact valV_neg (p := ((Sum.inr (S k) : Key), v)) hn, z2⟩
      · unfold lookD at e1
        rw [hb] at e1
        rw [← i2 e1]
        exact valV_neg (p := ((Sum.inr (S k) : Key), v)) hn
theorem d_getR {C : Addr} {X : Cx} {H : Hp} {kvs : List (List Nat × D)} {v : V} (s : List Nat) (r : Rep (cw C X) H (.dic kvs) v) :
    ∃ a, v = .ref a ∧ IsD H a ∧ (∀ d, lookD kvs s = some d → ∃ v, DGet H a (.str (S s)) (some v) ∧ Rep (cw C X) H d v) ∧ (lookD kvs s = none → DGet H a (.str (S s)) none) := by
  obtain ⟨a, ws, h1, h2, h3⟩ := r
  obtain ⟨i1, i2⟩ := look_rep s h3
  refine ⟨a, h1, .inl ⟨_, .inl h2⟩, fun d e => ?_, fun e => ?_⟩
  · obtain ⟨v, z1, z2⟩ := i1 d e
    exact ⟨v, by rw [← z1]; exact DGet.k (k := Sum.inr (S s)) h2, z2⟩
  · rw [← i2 e]
    exact DGet.k (k := Sum.inr (S s)) h2
def NoD : List (Key × V) → Prop
  | [] => True
  | p :: r => valV r p.1 = none ∧ NoD r
theorem valV_mem : ∀ {l : List (Key × V)} {q : Key × V}, q ∈ l → valV l q.1 ≠ none
  | [], q, h => by cases h
  | p :: r, q, h => by
    by_cases e : p.1 = q.1
    · rw [valV_pos e]; exact fun z => by cases z
    · rw [valV_neg e]
      rcases List.mem_cons.mp h with z | z
      · exact absurd (by rw [z]) e
      · exact valV_mem z
theorem merge_nod : ∀ (more acc : List (Key × V)), (∀ q ∈ more, valV acc q.1 = none) → NoD more → mergeK acc more = acc ++ more
  | [], acc, _, _ => by simp [mergeK]
  | p :: r, acc, h, n => by
    show mergeK (putK acc p.1 p.2) r = _
    rw [putK_new p.2 (h p List.mem_cons_self), merge_nod r _ (fun q hq => ?_) n.2, List.append_assoc]
    · rfl
    · rw [valV_snoc p.1 q.1 p.2 acc (h p List.mem_cons_self)]
      by_cases e : q.1 = p.1
      · exact absurd (by rw [e]; exact n.1) (valV_mem hq)
      · rw [if_neg e]; exact h q (List.mem_cons_of_mem _ hq)
theorem nodK_nod {c : Cw} {H : Hp} : ∀ {kvs : List (List Nat × D)} {ws : List (Str × V)}, nodK kvs = true → RepK c H kvs ws → NoD (kvH ws)
  | [], _, _, h => by rw [show _ = _ from h]; exact True.intro
  | (k, d0) :: r, _, e, h => by
    obtain ⟨v, ws, h1, h2, h3⟩ := h
    subst h1
    unfold nodK at e
    split at e
    · cases e
    · rename_i e1
      exact ⟨(look_rep k h3).2 e1, nodK_nod e h3⟩
theorem RepK.length {c : Cw} {H : Hp} : ∀ {kvs : List (List Nat × D)} {ws : List (Str × V)}, RepK c H kvs ws → ws.length = kvs.length
  | [], _, h => by rw [show _ = _ from h]; rfl
  | (k, d0) :: r, _, h => by
    obtain ⟨v, ws, h1, h2, h3⟩ := h
    rw [h1, List.length_cons, List.length_cons, RepK.length h3]
/-- what a display may hold does not lean on the new dict -/
theorem valOk_upd {c : Cw} {H : Hp} {p : Addr} {d : D} {v : V} {o : HO} {l0 : List (Key × V)} (e : valOk d = true) (hp : H p = some (.dK l0)) (r : Rep c H d v) : Rep c (upd H p o) d v := by
  cases d with
  | str s => exact r
  | lst l =>
    obtain ⟨a, vs, h1, h2, h3, h4⟩ := r
    have ne : a ≠ p := fun z => by rw [z, hp] at h2; cases h2
    exact ⟨a, vs, h1, by rw [upd_ne ne]; exact h2, repL_sc e h3, h4⟩
  | _ => cases e
def VOk (kvs : List (List Nat × D)) : Bool := kvs.all fun p => valOk p.2
theorem VOk_upd {c : Cw} {H : Hp} {p : Addr} {o : HO} {l0 : List (Key × V)} (hp : H p = some (.dK l0)) : ∀ {kvs : List (List Nat × D)} {ws : List (Str × V)}, VOk kvs = true → RepK c H kvs ws → RepK c (upd H p o) kvs ws
  | [], _, _, h => h
  | (k, d0) :: r, _, e, h => by
    obtain ⟨v, ws, h1, h2, h3⟩ := h
    have e2 : (valOk d0 && VOk r) = true := e
    obtain ⟨e3, e4⟩ := Bool.and_eq_true_iff.mp e2
    exact ⟨v, ws, h1, valOk_upd e3 hp h2, VOk_upd hp e4 h3⟩
section
variable {C : Addr} {X : Cx}
def kvV (ws : List (Str × V)) : List (V × V) := ws.map fun p => (V.str p.1, p.2)
/-- the pairs of a display -/
def DX (C : Addr) (X : Cx) (pos : Pos) (keys : List (Option Expr)) (values : List Expr) (g : RK) : Prop :=
  ∃ trs, PPs X pos keys values trs ∧ ∀ σ H ρ kvs (Q : List (V × V) → Hp → Prop), SRep (cw C X) H σ ρ → g ρ = some kvs → (∀ ws H', Same H H' → RepK (cw C X) H' kvs ws → Q (kvV ws) H') → tPairs trs σ H Q
theorem dCons_some {k : List Nat} {f : RE} {g : RK} {ρ : Rho} {l : List (List Nat × D)} (h : dCons k f g ρ = some l) : ∃ d r, f ρ = some d ∧ g ρ = some r ∧ valOk d = true ∧ l = (k, d) :: r := by
  unfold dCons at h
  cases e : f ρ with
  | none => rw [e] at h; cases h
  | some d =>
    rw [e] at h
    cases e2 : g ρ with
    | none => rw [e2] at h; cases h
    | some r =>
      rw [e2] at h
      obtain ⟨e3, e4⟩ := cond_some h
      cases e4
      exact ⟨d, r, rfl, rfl, e3, rfl⟩
/-- a mirror whose values a display may hold -/
def DOk (g : RK) : Prop := ∀ ρ l, g ρ = some l → VOk l = true
theorem dx_nil {pos : Pos} : DX C X pos [] [] dNil ∧ DOk dNil := ⟨⟨_, pps_nil, fun σ H ρ kvs Q h e q => by cases e; exact q [] H (Same.refl H) rfl⟩, fun ρ l e => by cases e; rfl⟩
theorem dx_cons {pos kp : Pos} {x : Str} {k : List Nat} {j} {ks : List (Option Expr)} {v : Expr} {vs : List Expr} {f : RE} {g : RK} (hx : x = S k) (ok : okS k = true) (hv : PX C X v f) (hr : DX C X pos ks vs g ∧ DOk g) :
    DX C X pos (some (.Constant (.str x) j kp) :: ks) (v :: vs) (dCons k f g) ∧ DOk (dCons k f g) := by
  obtain ⟨⟨trs, pp, r⟩, dk⟩ := hr
  obtain ⟨t, pe, rv⟩ := hv
  subst hx
  refine ⟨⟨_, pps_cons pe_str pe pp, fun σ H ρ kvs Q h e q => ?_⟩, fun ρ l e => ?_⟩
  · obtain ⟨d, l, e1, e2, e3, e4⟩ := dCons_some e
    subst e4
    refine rv σ H ρ d _ h e1 fun u H1 s1 r1 => r σ H1 ρ l _ (h.same s1) e2 fun ws H2 s2 r2 => ?_
    exact q ((S k, u) :: ws) H2 (s1.trans s2) ⟨u, ws, rfl, r1.same s2, r2⟩
  · obtain ⟨d, r, e1, e2, e3, e4⟩ := dCons_some e
    subst e4
    show (valOk d && VOk r) = true
    rw [e3, dk ρ r e2]
    rfl
theorem same_disp {H H2 : Hp} {p : Addr} {o o2 : HO} (hp : H p = none) (s : Same (upd H p o) H2) : Same H (upd H2 p o2) := fun b u eb => by
  have ne := ne_of_none eb hp
  rw [upd_ne ne]
  exact s b u (by rw [upd_ne ne]; exact eb)
theorem ble15 {n : Nat} (h : Nat.ble n 15 = true) : n ≤ 15 := Nat.le_of_ble_eq_true h
theorem mkDic_some {kvs : List (List Nat × D)} {d : D} (e : mkDic kvs = some d) : kvs.length ≤ 15 ∧ nodK kvs = true ∧ d = .dic kvs := by
  obtain ⟨e1, e2⟩ := cond_some e
  obtain ⟨e3, e4⟩ := cond_some e2
  cases e4
  exact ⟨ble15 e1, e3, rfl⟩
theorem px_dic {pos : Pos} {keys : List (Option Expr)} {values : List Expr} {g : RK} (h : DX C X pos keys values g ∧ DOk g) (hall : keys.all (·.isSome) = true := by rfl) (hl : keys.length = values.length := by rfl) (h0 : keys ≠ [] := by exact List.cons_ne_nil _ _)
    (h15 : keys.length ≤ 15 := by decide) : PX C X (.Dict keys values pos) (eDic g) := by
  obtain ⟨⟨trs, pp, r⟩, dk⟩ := h
  refine ⟨_, pe_disp pp hall hl h0 h15, fun σ H ρ d Q h e q p hp => ?_⟩
  unfold eDic at e
  cases e1 : g ρ with
  | none => rw [e1] at e; cases e
  | some kvs =>
    rw [e1] at e
    have e2 : mkDic kvs = some d := by
      cases hz : Nat.beq kvs.length 0 with
      | true => simp only [hz] at e; cases e
      | false => simp only [hz] at e; exact e
    obtain ⟨z1, z2, z3⟩ := mkDic_some e2
    subst z3
    have s0 : Same H (upd H p (.dK [])) := same_new hp
    refine r σ _ ρ kvs _ (h.same s0) e1 fun ws H2 s2 r2 => ?_
    have hp2 : H2 p = some (.dK []) := s2 _ _ upd_same
    refine ⟨hp2, kvH ws, by unfold kvV kvH; rw [List.map_map]; rfl, by rw [List.length_map, r2.length]; exact z1, ?_⟩
    rw [merge_nod _ [] (fun _ _ => rfl) (nodK_nod z2 r2), List.nil_append]
    exact q _ _ (same_disp hp s2) ⟨p, ws, rfl, upd_same, VOk_upd hp2 (dk ρ kvs e1) r2⟩
theorem px_dix {a b : Expr} {f g : RE} {pos : Pos} (hu : X.A.units + 64 < cLine) (ha : PX C X a f) (hb : PX C X b g) (hs : NoSl b := by exact fun _ _ => rfl) : PX C X (.Subscript a b pos) (o2 dDix f g) := by
  obtain ⟨ta, pa, ra⟩ := ha
  obtain ⟨tb, pb, rb⟩ := hb
  refine ⟨_, pe_dget (by omega) pa pb hs, fun σ H ρ d Q h e q => ?_⟩
  obtain ⟨x, y, e1, e2, e3⟩ := o2_some e
  refine ra σ H ρ x _ h e1 fun vx H1 s1 r1 => rb σ H1 ρ y _ (h.same s1) e2 fun vy H2 s2 r2 => ?_
  cases x with
  | dic kvs =>
    cases y with
    | str s =>
      obtain ⟨a, z1, z2, z3, z4⟩ := d_getR (C := C) (X := X) s (r1.same s2)
      obtain ⟨v, z5, z6⟩ := z3 d e3
      exact ⟨a, v, z1, by rw [r2.1]; exact z5, q v H2 (s1.trans s2) z6⟩
    | _ => cases e3
  | _ => cases e3
theorem px_get {o a b : Expr} {f g k : RE} {apos pos : Pos} (hu : X.A.units + 64 < cLine) (ho : PX C X o f) (ha : PX C X a g) (hb : PX C X b k)
    (m1 : attributeBase o "get" X.env (eval o X.env) = eval o X.env := by rfl)
    (m2 : ((backTo pos (starEach [a, b] X.env)).all (fun x => !x.1) && (backToKw pos (keywordEach [] X.env)).all (fun x => x.1.isSome)
    && decide (([a, b] : List Expr).length + ([] : List Keyword).length + (if ([] : List Keyword).isEmpty then 0 else 1) < 30)) = true := by rfl)
    (m3 : (apos.endLine == pos.line) = true := by rfl) (m4 : backTo pos (starEach [a, b] X.env) = [(false, eval a X.env), (false, eval b X.env)] := by rfl) : PX C X (.Call (.Attribute o "get" apos) [a, b] [] pos) (o3 d_get f g k) := by
  obtain ⟨to, po, ro⟩ := ho
  obtain ⟨ta, pa, ra⟩ := ha
  obtain ⟨tb, pb, rb⟩ := hb
  refine ⟨_, pe_dget2 (by omega) po pa pb ⟨m1, m2, m3, m4⟩, fun σ H ρ d Q h e q => ?_⟩
  unfold o3 at e
  split at e
  · rename_i x e1
    split at e
    · rename_i y e2
      split at e
      · rename_i z e3
        refine ro σ H ρ x _ h e1 fun vx H1 s1 r1 => ?_
        cases x with
        | dic kvs =>
          cases y with
          | str s =>
            obtain ⟨aa, z1, z2, _, _⟩ := d_getR (C := C) (X := X) s r1
            refine ⟨aa, z1, z2, ra σ H1 ρ _ _ (h.same s1) e2 fun vy H2 s2 r2 => rb σ H2 ρ z _ ((h.same s1).same s2) e3 fun vz H3 s3 r3 => ?_⟩
            obtain ⟨a3, w1, w2, w3, w4⟩ := d_getR (C := C) (X := X) s ((r1.same s2).same s3)
            rw [z1] at w1
            cases w1
            cases hz : lookD kvs s with
            | some d2 =>
              have e' : d = d2 := by
                have : (match lookD kvs s with | some d => some d | none => some z) = some d := e
                rw [hz] at this
                cases this
                rfl
              subst e'
              obtain ⟨v, z5, z6⟩ := w3 d hz
              exact ⟨some v, by rw [r2.1]; exact z5, q v H3 ((s1.trans s2).trans s3) z6⟩
            | none =>
              have e' : d = z := by
                have : (match lookD kvs s with | some d => some d | none => some z) = some d := e
                rw [hz] at this
                cases this
                rfl
              subst e'
              exact ⟨none, by rw [r2.1]; exact w4 hz, q vz H3 ((s1.trans s2).trans s3) r3⟩
          | _ => cases e
        | _ => cases e
      · cases e
    · cases e
  · cases e
/-- a dict of the module with text keys -/
structure KdD (c : Cw) (mg : Str → Option Value) (x : Str) (kvs : List (List Nat × D)) : Prop where
  ex : ∃ a, mg x = some (.ref a) ∧ ∀ s d, lookD kvs s = some d → ∃ v, KDct c.K c.w a (S s) v ∧ ∀ H, Rep c H d v
theorem px_kix {x : Str} {kvs : List (List Nat × D)} {b : Expr} {g : RE} {p pos : Pos} (G : KdD (cw C X) X.mg x kvs) (hb : PX C X b g) (hg : Gl X x := by rfl) (hd : (x == ("__debug__" : Str)) = false := by decide) (hs : PlainIx b := by exact fun _ _ => rfl) :
    PX C X (.Subscript (.Name x p) b pos) (e1 (dKix kvs) g) := by
  obtain ⟨a, h1, h2⟩ := G.ex
  obtain ⟨tb, pb, rb⟩ := hb
  refine ⟨_, pe_ix ix_kdict (pe_glob (v := .ref a) hg h1 rfl hd) pb hs, fun σ H ρ d Q h e q => ?_⟩
  obtain ⟨y, ea, eb⟩ := e1_some e
  refine rb σ H ρ y _ h ea fun vy H1 s1 r1 => ?_
  cases y with
  | str s =>
    obtain ⟨v, z1, z2⟩ := h2 s d eb
    exact ⟨a, S s, v, rfl, r1.1, z1, q v H1 s1 (z2 H1)⟩
  | _ => cases eb
theorem px_isi_str {e : Expr} {f : RE} {p q pos : Pos} (hm : X.mg "isinstance" = none) (hT : X.mg "str" = none) (he : PX C X e f) (hg : Gl X "isinstance" := by rfl) (hg2 : Gl X "str" := by rfl)
    (hs1 : starEach [e, .Name "str" q] X.env = (false, eval e X.env) :: starEach [.Name "str" q] X.env := by rfl) (hs2 : starEach [.Name "str" q] X.env = (false, eval (.Name "str" q) X.env) :: starEach [] X.env := by rfl)
    (hpl : (backTo pos (starEach [.Name "str" q] X.env)).any (·.1) = false := by rfl) : PX C X (.Call (.Name "isinstance" p) [e, .Name "str" q] [] pos) (e1 is_str f) :=
  px_isi (T := "str") hm hT he (by decide +kernel) (fun H d v b r e => isi_str r e) (by decide) (by decide) hg hg2 hs1 hs2 hpl
theorem px_isi_int {e : Expr} {f : RE} {p q pos : Pos} (hm : X.mg "isinstance" = none) (hT : X.mg "int" = none) (he : PX C X e f) (hg : Gl X "isinstance" := by rfl) (hg2 : Gl X "int" := by rfl)
    (hs1 : starEach [e, .Name "int" q] X.env = (false, eval e X.env) :: starEach [.Name "int" q] X.env := by rfl) (hs2 : starEach [.Name "int" q] X.env = (false, eval (.Name "int" q) X.env) :: starEach [] X.env := by rfl)
    (hpl : (backTo pos (starEach [.Name "int" q] X.env)).any (·.1) = false := by rfl) : PX C X (.Call (.Name "isinstance" p) [e, .Name "int" q] [] pos) (e1 is_int f) :=
  px_isi (T := "int") hm hT he (by decide +kernel) (fun H d v b r e => isi_int r e) (by decide) (by decide) hg hg2 hs1 hs2 hpl
/-! ### name = [..] on one line -/
theorem sx_setlc0 (k : Nat) {y : Str} {py spos : Pos} {elt iter : Expr} {scope : Scope} {x : Str} {p pos : Pos} {l : RA} {te : RE} (i : Nat) (hc : X.calm = true) (hN : X.N.Nodup) (hi : IX C X (.Name x p) iter l) (hx : X.N[i]? = some x) (ok : BlkOk X.N X.env.scope scope [(x, i)])
    (hg : ∀ (s : Shared) (H : Hp) (C' : Addr) (cl : List (Str × Addr)) (fp : List Addr), PG (X.blk s H scope (compEnvC scope cl C' X.env) fp) (.Name x p) (gName i))
    (he : ∀ (s : Shared) (H : Hp) (C' : Addr) (cl : List (Str × Addr)) (fp : List Addr), PX C (X.blk s H scope (compEnvC scope cl C' X.env) fp) elt te)
    (hy : X.N[k]? = some y := by rfl) (hyl : X.env.scope.names.lookup y = some .local := by rfl) (hk : X.env.scope.kind = .function := by rfl) (hln : (py.line == pos.line) = true := by rfl)
    (hnm : (scope.names.any fun (n, k) => n == y && (k == .local || k == .cell)) = false := by rfl) (hsl : spos.line = pos.line ∨ True := .inr True.intro) (hs : ∀ x, foldedSetIterable iter X.env x = pure x := by intro _; rfl)
    (hln2 : (py.line == pos.line) = true ∧ swapsWith (.ListComp elt [⟨.Name x p, iter, [], 0⟩] scope pos) (some (.Name y py)) spos.line X.env = pure true := by exact ⟨rfl, sw_true rfl rfl rfl rfl⟩) :
    SX C X (.Assign [.Name y py] (.ListComp elt [⟨.Name x p, iter, [], 0⟩] scope pos) spos) (sSet k (eLc (aName i) l tYesR te [i])) := by
  obtain ⟨wi, pi, ri⟩ := hi
  refine ⟨_, ps_setLc (own := [(x, i)]) (te := tE (cw C X) te) hc hN hy hyl hln2.2 pi ok hg (fun _ _ _ _ _ => pts_nil) (fun s H C' cl fp => (he s H C' cl fp).pe) hs, fun σ H ρ r D h e q => ?_⟩
  unfold sSet at e
  cases e0 : eLc (aName i) l tYesR te [i] ρ with
  | none => rw [e0] at e; cases e
  | some d =>
    rw [e0] at e
    cases e
    have e := e0
    unfold eLc at e
    cases e1 : l ρ with
    | none => rw [e1] at e; cases e
    | some ds =>
      rw [e1] at e
      cases e2 : lcD (aName i) tYesR te ds (wipeR ρ [i]) with
      | none => simp only [e2] at e; cases e
      | some ys =>
        simp only [e2] at e
        refine ri σ H ρ ds _ h e1 fun J H1 s1 wk => ?_
        exact lc_read (c := cw C X) (tt := tYes) wk (h.same s1) (fun σ H ρ b Q _ e q => by cases e; exact q H (Same.refl H)) e2 e (fun v H2 s2 r2 => q _ H2 (s1.trans s2) ((h.same (s1.trans s2)).set k r2))
theorem sx_setlc1 (k : Nat) {y : Str} {py spos : Pos} {elt iter tst : Expr} {scope : Scope} {x : Str} {p pos : Pos} {l : RA} {tr : RT} {te : RE} (i : Nat) (hc : X.calm = true) (hN : X.N.Nodup) (hi : IX C X (.Name x p) iter l) (hx : X.N[i]? = some x) (ok : BlkOk X.N X.env.scope scope [(x, i)])
    (hg : ∀ (s : Shared) (H : Hp) (C' : Addr) (cl : List (Str × Addr)) (fp : List Addr), PG (X.blk s H scope (compEnvC scope cl C' X.env) fp) (.Name x p) (gName i))
    (ht : ∀ (s : Shared) (H : Hp) (C' : Addr) (cl : List (Str × Addr)) (fp : List Addr), TX C (X.blk s H scope (compEnvC scope cl C' X.env) fp) tst tr)
    (he : ∀ (s : Shared) (H : Hp) (C' : Addr) (cl : List (Str × Addr)) (fp : List Addr), PX C (X.blk s H scope (compEnvC scope cl C' X.env) fp) elt te)
    (hy : X.N[k]? = some y := by rfl) (hyl : X.env.scope.names.lookup y = some .local := by rfl) (hs : ∀ x, foldedSetIterable iter X.env x = pure x := by intro _; rfl)
    (hln2 : swapsWith (.ListComp elt [⟨.Name x p, iter, [tst], 0⟩] scope pos) (some (.Name y py)) spos.line X.env = pure true := by exact sw_true rfl rfl rfl rfl) :
    SX C X (.Assign [.Name y py] (.ListComp elt [⟨.Name x p, iter, [tst], 0⟩] scope pos) spos) (sSet k (eLc (aName i) l tr te [i])) := by
  obtain ⟨wi, pi, ri⟩ := hi
  refine ⟨_, ps_setLc (own := [(x, i)]) (te := tE (cw C X) te) (tt := tT (cw C X) tr) hc hN hy hyl hln2 pi ok hg (fun s H C' cl fp => pts_one (ht s H C' cl fp).pt) (fun s H C' cl fp => (he s H C' cl fp).pe) hs, fun σ H ρ r D h e q => ?_⟩
  unfold sSet at e
  cases e0 : eLc (aName i) l tr te [i] ρ with
  | none => rw [e0] at e; cases e
  | some d =>
    rw [e0] at e
    cases e
    have e := e0
    unfold eLc at e
    cases e1 : l ρ with
    | none => rw [e1] at e; cases e
    | some ds =>
      rw [e1] at e
      cases e2 : lcD (aName i) tr te ds (wipeR ρ [i]) with
      | none => simp only [e2] at e; cases e
      | some ys =>
        simp only [e2] at e
        refine ri σ H ρ ds _ h e1 fun J H1 s1 wk => ?_
        exact lc_read (c := cw C X) (tt := tT (cw C X) tr) wk (h.same s1) (fun σ H ρ b Q h e q => ⟨ρ, b, h, e, q⟩) e2 e (fun v H2 s2 r2 => q _ H2 (s1.trans s2) ((h.same (s1.trans s2)).set k r2))
end
end
end Rp
set_option Elab.async false
set_option linter.all false
set_option maxRecDepth 100000
set_option maxHeartbeats 1000000
namespace Rp
noncomputable section
open PySem PySem.Spec PyProof.Rows L2 SX
section
variable {prog : Program} {w : World} {K : Type} [DecidableEq K] {knd : KeyKind prog w K} {A : Around} {E : Value → Shared → Prop} {s : Shared}
/-- the store that a merge makes: no rule is noted, nothing is awaited -/
theorem put_ok {d : Addr} {acc : List (K × Value)} {k : K} {key v : Value} {Q : Unit → Shared → Prop} (hkey : knd.is k key = true) (small : acc.length ≤ sizeLine) (D : s.heap.DictOf knd d acc)
    (q : ∀ h', h'.DictOf knd d (stored acc k v) → Heap.SameBut d s.heap h' → Q () { s with heap := h' }) : wpAny (model prog w) A (dictPut d (knd.hash k) key v) Q E s := by
  rcases D with ⟨ob, ents, age, look, form, dat, keys, prs, uniq⟩
  have places : ents.toList.findIdx? (fun e => knd.is k e.key) = acc.findIdx? (fun p => decide (p.1 = k)) := prs.findIdx k
  have conv : ents.findIdx? (fun e => knd.is k e.key) = ents.toList.findIdx? (fun e => knd.is k e.key) := by
    cases ents
    simp
  have few : ents.size ≤ sizeLine := by
    have l := prs.length
    rw [Array.length_toList] at l
    omega
  show wpAny _ _ (dictFind d key (knd.hash k) >>= _) _ _ _
  apply wpAny_bind
  apply wpAny_dictFind_of hkey look dat keys
  rw [conv]
  cases here : ents.toList.findIdx? (fun e => knd.is k e.key) with
  | some j =>
    have isIn := any_of_findIdx_some (places.symm.trans here)
    have eqn : stored acc k v = acc.map fun p => if p.1 = k then (p.1, v) else p := by rw [stored, if_pos isIn]
    rw [eqn] at q
    refine wpAny_updateDict look dat (q _ ?_ (Heap.SameBut.update ..))
    refine ⟨_, _, age, Heap.get?_update_self _ look (Obj.isFreed_of_dict (Obj.data_mapDict dat _)), form.mapDict _, Obj.data_mapDict dat _, keys.modify _ _, ?_, by rw [keys_map_store]; exact uniq⟩
    have t := prs.modify uniq here v
    cases ents
    simpa using t
  | none =>
    have out := not_mem_of_findIdx_none (places.symm.trans here)
    have eqn : stored acc k v = acc ++ [(k, v)] := by
      rw [stored, if_neg]
      intro z
      obtain ⟨p, hp, e⟩ := List.any_eq_true.mp z
      exact out (List.mem_map.mpr ⟨p, hp, by simpa using e⟩)
    rw [eqn] at q
    refine wpAny_updateDictKeys (hz := few) look dat (q _ ?_ (Heap.SameBut.update ..))
    refine ⟨_, _, age + 1, Heap.get?_update_self _ look (Obj.isFreed_of_dict (Obj.data_mapDictKeys dat _)), form.mapDictKeys _, Obj.data_mapDictKeys dat _, keys.push hkey _, ?_, ?_⟩
    · have t := prs.append hkey (knd.hash k) v
      cases ents
      simpa using t
    · rw [List.map_append]
      refine List.nodup_append.mpr ⟨uniq, by simp, fun x hx y hy z => ?_⟩
      have hy' : y = k := by simpa using hy
      exact out (by rw [← hy', ← z]; exact hx)
/-- a loop that stores the pairs of news one behind another, each by a step f -/
theorem put_loop {d o : Addr} {ob : Obj} {news : List (K × Value)} {f : Nat → PUnit → Sem (ForInStep PUnit)} {Q : PUnit → Shared → Prop} (s0 : Shared)
    (step : ∀ (i : Nat) (p : K × Value) (acc : List (K × Value)) (h1 : Heap) (R : ForInStep PUnit → Shared → Prop), news[i]? = some p → acc.length ≤ sizeLine → h1.DictOf knd d acc → h1.get? o = some ob →
      (∀ h2, h2.DictOf knd d (stored acc p.1 p.2) → h2.get? o = some ob → Heap.SameBut d h1 h2 → R (.yield ⟨⟩) { s0 with heap := h2 }) → wpAny (model prog w) A (f i ⟨⟩) R E { s0 with heap := h1 }) :
    ∀ (n i : Nat) (acc : List (K × Value)) (h1 : Heap), i + n = news.length → acc.length + n ≤ sizeLine → h1.DictOf knd d acc → h1.get? o = some ob →
      (∀ h2, h2.DictOf knd d (merged acc (news.drop i)) → h2.get? o = some ob → Heap.SameBut d h1 h2 → Q ⟨⟩ { s0 with heap := h2 }) → wpAny (model prog w) A (forIn (List.range' i n) PUnit.unit f) Q E { s0 with heap := h1 }
  | 0, i, acc, h1, e, l, D, ho, q => by
    rw [List.range'_zero, List.forIn_nil]
    rw [List.drop_of_length_le (by omega)] at q
    exact wpAny_pure (q h1 D ho (Heap.SameBut.refl _ _))
  | n + 1, i, acc, h1, e, l, D, ho, q => by
    have hi : i < news.length := by omega
    rw [List.range'_succ, List.forIn_cons]
    apply wpAny_bind
    refine step i news[i] acc h1 _ (List.getElem?_eq_getElem hi) (by omega) D ho fun h2 D2 ho2 sb => ?_
    have g := stored_length_le acc news[i].1 news[i].2
    refine put_loop s0 step n (i + 1) _ h2 (by omega) (by omega) D2 ho2 fun h3 D3 ho3 sb3 => q h3 ?_ ho3 (sb.trans sb3)
    rw [List.drop_eq_getElem_cons hi]
    exact D3
theorem merge_ok {d o : Addr} {acc news : List (K × Value)} {Q : Unit → Shared → Prop} (hdo : d ≠ o) (hoS : (o == sysModules) = false) (Dd : s.heap.DictOf knd d acc) (Do : s.heap.DictOf knd o news) (small : acc.length + news.length ≤ sizeLine)
    (q : ∀ h', h'.DictOf knd d (merged acc news) → Heap.SameBut d s.heap h' → Q () { s with heap := h' }) : wpAny (model prog w) A (mergeMapping d (.ref o) false) Q E s := by
  have tyO := Do.typeIs
  rcases Dd with ⟨ob1, ents1, age1, look1, r1⟩
  have D1 : s.heap.DictOf knd d acc := ⟨ob1, ents1, age1, look1, r1⟩
  rcases Do with ⟨ob, ents, age, look, form, dat, keys, prs, uniq⟩
  have len : news.length = ents.size := by rw [← Array.length_toList]; exact prs.length.symm
  have inner : ∀ (g : Nat → PUnit → Sem (ForInStep PUnit)), (∀ (i : Nat) (p : K × Value) (acc : List (K × Value)) (h1 : Heap) (R : ForInStep PUnit → Shared → Prop), news[i]? = some p → acc.length ≤ sizeLine → h1.DictOf knd d acc → h1.get? o = some ob →
      (∀ h2, h2.DictOf knd d (stored acc p.1 p.2) → h2.get? o = some ob → Heap.SameBut d h1 h2 → R (.yield ⟨⟩) { s with heap := h2 }) → wpAny (model prog w) A (g i ⟨⟩) R E { s with heap := h1 }) →
      wpAny (model prog w) A (forIn (List.range ents.size) PUnit.unit g >>= fun _ => pure ()) Q E s := fun g hg => by
    apply wpAny_bind
    rw [List.range_eq_range']
    exact put_loop s hg ents.size 0 acc s.heap (by omega) (by omega) D1 look fun h2 D2 _ sb => wpAny_pure (q h2 D2 sb)
  have one : ∀ (i : Nat) (p : K × Value) (acc : List (K × Value)) (h1 : Heap) (R : ForInStep PUnit → Shared → Prop), news[i]? = some p → acc.length ≤ sizeLine → h1.DictOf knd d acc → h1.get? o = some ob →
      (∀ h2, h2.DictOf knd d (stored acc p.1 p.2) → h2.get? o = some ob → Heap.SameBut d h1 h2 → R (.yield ⟨⟩) { s with heap := h2 }) → ∃ e, ents[i]? = some e ∧
        wpAny (model prog w) A (dictPut d e.hash e.key e.val) (fun _ s' => ∃ h2, s' = { s with heap := h2 } ∧ h2.get? o = some ob ∧ R (.yield ⟨⟩) { s with heap := h2 }) E { s with heap := h1 } := fun i p acc h1 R hp l D ho k => by
    have hi : i < ents.size := by rw [← len]; exact (List.getElem?_eq_some_iff.mp hp).1
    refine ⟨ents[i], Array.getElem?_eq_getElem hi, ?_⟩
    obtain ⟨is1, val1⟩ := prs.get? (e := ents[i]) (i := i) (by simp [hi]) hp
    obtain ⟨k2, is2, hash2⟩ := keys ents[i] (Array.getElem_mem hi)
    have ek : k2 = p.1 := knd.inj _ _ _ is2 is1
    rw [hash2, val1, ek]
    refine put_ok is1 l D fun h2 D2 sb => ?_
    have ho2 : h2.get? o = some ob := by rw [sb.2 o (Ne.symm hdo)]; exact ho
    exact ⟨h2, rfl, ho2, k h2 D2 ho2 sb⟩
  unfold mergeMapping
  refine wpAny_bind (wpAny_isInstance tyO isSubtype_dict_dict (wpAny_bind (wpAny_specialOf tyO PySem.F.slot_dict_iter.lookup (wpAny_bind (wpAny_pure ?_)))))
  have b1 : ((some (Value.builtin "dict.__iter__")) == some (Value.builtin "dict.__iter__")) = true := beq_self_eq_true _
  simp only [b1, hoS, Bool.false_eq_true, if_false]
  have rest : wpAny (model prog w) A (do
      let size := (← dictEntries o).size
      let epoch ← dictEpoch o
      for i in List.range size do
        let some e := (← dictEntries o)[i]? | unsupported "dict.changed-during-merge"
        holding [e.key, e.val] do
          if false then
            if (← dictFind d e.key e.hash).isSome then
              rule "dict.merge.duplicate-key"
              raiseNew (← newExc (.type "KeyError") [e.key])
          dictPut d e.hash e.key e.val
        if (← dictEpoch o) != epoch then unsupported "dict.changed-during-merge" : Sem Unit) Q E s := by
    refine wpAny_bind (wpAny_dictEntries look dat (wpAny_bind (wpAny_dictEpoch look dat (inner _ fun i p acc h1 R hp l D ho k => ?_))))
    obtain ⟨e, he, hw⟩ := one i p acc h1 R hp l D ho k
    refine wpAny_bind (wpAny_dictEntries ho dat ?_)
    rw [he]
    show wpAny _ _ (holding [e.key, e.val] (dictPut d e.hash e.key e.val) >>= _) _ _ _
    refine wpAny_bind (wpAny_holding (wpAny_mono hw (fun _ s' ⟨h2, es, ho2, r⟩ => ?_) fun _ _ z => z))
    subst es
    refine wpAny_bind (wpAny_dictEpoch ho2 dat ?_)
    rw [if_neg (by simp)]
    exact wpAny_pure r
  refine wpAny_bind (wpAny_dictEntries look1 r1.2.1 ?_)
  split
  · refine wpAny_bind (wpAny_dictEntries look dat (wpAny_bind ?_))
    rw [← Array.forIn_toList]
    refine wpAny_forIn_list _ (fun l _ s' => s' = s ∧ l ⊆ ents.toList) _ (fun x l b s' hx => ?_) (fun b s' hx => by rw [hx.1]; exact rest) _ _ ⟨rfl, fun _ z => z⟩
    obtain ⟨rfl, sub⟩ := hx
    obtain ⟨k2, is2, _⟩ := keys x (Array.mem_toList_iff.mp (sub List.mem_cons_self))
    have plain := knd.byValue k2 _ is2
    split
    · rename_i a e
      rw [e] at plain
      cases plain
    · exact wpAny_pure ⟨rfl, fun _ z => sub (List.mem_cons_of_mem _ z)⟩
  · exact rest
theorem forIn_gather' (m : Option Addr) (f : (Option (Sem Value) × Sem Value) → (Option Addr × List (Sem Value × Sem Value)) → Sem (ForInStep (Option Addr × List (Sem Value × Sem Value))))
    (hf : ∀ (p : Sem Value × Sem Value) (run : List (Sem Value × Sem Value)), run.length + 1 < 17 → f (some p.1, p.2) (m, run) = pure (.yield (m, run ++ [p]))) :
    ∀ (items run : List (Sem Value × Sem Value)), run.length + items.length < 17 → forIn (items.map fun p => (some p.1, p.2)) (m, run) f = pure (m, run ++ items)
  | [], run, _ => by simp
  | p :: rest, run, h => by
    rw [List.map_cons, List.forIn_cons, hf p run (by simp at h; omega), pure_bind]
    have := forIn_gather' m f hf rest (run ++ [p]) (by simp at h ⊢; omega)
    simpa using this
theorem wpAny_display_star {bt : Sem Value} {pairs : List (Sem Value × Sem Value)} (h0 : pairs ≠ []) (hlen : pairs.length ≤ 15) {Q : Value → Shared → Prop}
    (h : wpAny (model prog w) A bt (fun u s1 => wpAny (model prog w) A (mergeMapping s.heap.objs.size u false) (fun _ s2 => wpAny (model prog w) A (subDict pairs) (fun q s3 => wpAny (model prog w) A (mergeMapping s.heap.objs.size (.ref q) false) (fun _ s4 => Q (.ref s.heap.objs.size) s4)
      (fun _ _ => False) s3) E s2) (fun _ _ => False) s1) E { s with heap := s.heap.push { cls := .type "dict", data := .dict #[] } }) :
    wpAny (model prog w) A (dictDisplay ((none, bt) :: pairs.map fun p => (some p.1, p.2))) Q E s := by
  unfold dictDisplay
  dsimp only
  rw [List.forIn_cons]
  simp only [List.isEmpty_nil, if_true, pure_bind]
  refine wpAny_bind (wpAny_bind ?_)
  refine wpAny_bind (wpAny_alloc ?_)
  refine wpAny_bind (wpAny_holding (wpAny_mono h (fun u s1 h1 => ?_) fun _ _ e => e))
  refine wpAny_bind ?_
  refine wpAny_onRaise (wpAny_tryCatch (wpAny_onRaise (wpAny_holding (wpAny_mono h1 (fun _ s2 h2 => ?_) fun _ _ e => e.elim))))
  refine wpAny_pure ?_
  show wpAny _ _ (forIn (List.map (fun p => (some p.fst, p.snd)) pairs) (some s.heap.objs.size, []) _) _ _ _
  rw [forIn_gather' (some s.heap.objs.size) _ (fun p run h => by
    have hne : ((run ++ [(p.1, p.2)]).length == 17) = false := by simp; omega
    simp only [hne, Bool.false_eq_true, if_false]) pairs [] (by simp; omega)]
  refine wpAny_pure ?_
  have he : pairs.isEmpty = false := by
    cases pairs with
    | nil => exact absurd rfl h0
    | cons _ _ => rfl
  simp only [List.nil_append, he, Bool.false_eq_true, if_false]
  refine wpAny_bind (wpAny_bind (wpAny_holding (wpAny_mono h2 (fun q s3 h3 => ?_) fun _ _ e => e)))
  refine wpAny_bind (wpAny_onRaise (wpAny_holding (wpAny_mono h3 (fun _ s4 h4 => ?_) fun _ _ e => e.elim)))
  exact wpAny_pure (wpAny_pure h4)
end
section
variable {C : Addr} {X : Cx}
/-- { **b, k: v, ..} -/
def tDispS (tb : TE) (trs : List (TE × TE)) : TE := fun σ H Q => ∀ p, H p = none → tb σ (upd H p (.dK [])) fun x H1 => H1 p = some (.dK []) ∧ ∃ a kvsA, x = .ref a ∧ a ≠ p ∧ H1 a = some (.dK kvsA) ∧ kvsA.length ≤ 15 ∧ mergeK [] kvsA = kvsA ∧
  ∀ q, upd H1 p (.dK kvsA) q = none → tPairs trs σ (upd (upd H1 p (.dK kvsA)) q (.dK [])) fun ps H3 => H3 p = some (.dK kvsA) ∧ H3 q = some (.dK []) ∧ p ≠ q ∧ ∃ kvsB, ps = kvsB.map (fun kv => (kV kv.1, kv.2)) ∧ kvsB.length ≤ 15 ∧
    Q (.ref p) (upd (upd H3 q (.dK (mergeK [] kvsB))) p (.dK (mergeK kvsA (mergeK [] kvsB))))
theorem zip_star {b : Expr} {ks : List (Option Expr)} {vs : List Expr} {env : Env} {pos : Pos} (hall : ks.all (·.isSome) = true) (hl : ks.length = vs.length) :
    (evalEachOpt (none :: ks) env).zip ((evalEach (b :: vs) env).map fun v => do let x ← v; standAt pos; pure x) = (none, do let x ← eval b env; standAt pos; pure x) :: (pairTrees ks vs env pos).map fun p => (some p.1, p.2) := by
  rw [← zip_pairTrees ks vs env pos hall hl]
  rfl
theorem pe_dispS {pos : Pos} {b : Expr} {ks : List (Option Expr)} {vs : List Expr} {tb : TE} {trs : List (TE × TE)} (hb : PE X b tb) (h : PPs X pos ks vs trs) (hall : ks.all (·.isSome) = true) (hl : ks.length = vs.length) (h0 : ks ≠ []) (h15 : ks.length ≤ 15) :
    PE X (.Dict (none :: ks) (b :: vs) pos) (tDispS tb trs) := by
  refine ⟨fun pins s σ H Q I q => ?_⟩
  have hn := I.hok.fresh (Nat.le_refl s.heap.objs.size)
  have I1 := I.laid (a := s.heap.objs.size) (o := .dK []) (h' := s.heap.push { cls := .type "dict", data := .dict #[] }) (t' := s.toks) (fun _ _ q => Heap.get?_push_of_some _ q) (Nat.le_refl _) (dk_empty s.heap I.big)
  have hpl := pairTrees_length ks vs X.env pos hall hl
  rw [arm_eval_Dict, zip_star hall hl]
  refine wpAny_bind (wpAny_standAt (wpAny_display_star (fun z => ?_) (by rw [hpl]; exact h15) ?_))
  · rw [z] at hpl
    exact h0 (List.length_eq_zero_iff.mp hpl.symm)
  refine wpAny_bind (thn (hb.run pins _ σ _ _ I1 (q _ hn)) fun u s1 ⟨x, H1, I2, rx, e1, a, kvsA, ex, ne, ea, lA, mA, q1⟩ => wpAny_bind (wpAny_standAt (wpAny_pure ?_)))
  subst ex
  obtain rfl : u = Value.ref a := rx
  obtain ⟨z1, hd1, vs1, r1, dd1⟩ := dk_of I2.hok e1
  cases r1
  obtain ⟨z2, hd2, vs2, r2, dd2⟩ := dk_of I2.hok ea
  refine merge_ok (knd := mixKind X.prog X.w) (Ne.symm ne) hd2 dd1 dd2 (by rw [List.length_nil, ← r2.length, sizeLine_eq]; omega) fun h' dA sb => ?_
  have he : ∃ q, h'.get? s.heap.objs.size = some q := let ⟨q, _, _, hq, _⟩ := dA; ⟨q, hq⟩
  have zA : (mergeK [] kvsA).length ≤ sizeLine := by rw [mA, sizeLine_eq]; omega
  have I3 := d_write (t' := s1.toks) I2 (by rw [e1]; exact True.intro) sb he (dk_new zA hd1 (KV.merge r2 .nil) dA)
  rw [mA] at I3
  have hn3 := I3.hok.fresh (Nat.le_refl h'.objs.size)
  have I4 := I3.laid (a := h'.objs.size) (o := .dK []) (h' := h'.push { cls := .type "dict", data := .dict #[] }) (t' := s1.toks) (fun _ _ q => Heap.get?_push_of_some _ q) (Nat.le_refl _) (dk_empty h' I3.big)
  refine wpAny_subDict (knd := mixKind X.prog X.w) (by rw [hpl]; exact h15) (thn (h.run pins _ σ _ _ I4 (q1 _ hn3)) fun ws s2 ⟨ps, H3, I5, rel, e3, e4, npq, kvsB, ep, lB, q3⟩ => ?_)
  subst ep
  obtain ⟨rs, c, rk⟩ := carries_of (P := X.prog) (w := X.w) rel
  obtain ⟨z3, hd3, vs3, r3, dd3⟩ := dk_of I5.hok e4
  cases r3
  refine ⟨rs, c, dd3, fun h2 dB sb2 => ?_⟩
  have hB : (mergeK [] kvsB).length ≤ 15 := by
    have h1 := length_mergeK kvsB []
    rw [List.length_nil] at h1
    omega
  have he2 : ∃ q, h2.get? h'.objs.size = some q := let ⟨q, _, _, hq, _⟩ := dB; ⟨q, hq⟩
  have I6 := d_write (t' := s2.toks + ws.length) I5 (by rw [e4]; exact True.intro) sb2 he2 (dk_new (by rw [sizeLine_eq]; omega) hd3 (KV.merge rk .nil) dB)
  have e5 : upd H3 h'.objs.size (.dK (mergeK [] kvsB)) s.heap.objs.size = some (.dK kvsA) := by rw [upd_ne npq]; exact e3
  obtain ⟨z5, hd5, vs5, r5, dd5⟩ := dk_of I6.hok e5
  have e6 : upd H3 h'.objs.size (.dK (mergeK [] kvsB)) h'.objs.size = some (.dK (mergeK [] kvsB)) := upd_same
  obtain ⟨z6, hd6, vs6, r6, dd6⟩ := dk_of I6.hok e6
  refine merge_ok (knd := mixKind X.prog X.w) npq hd6 dd5 dd6 (by rw [← r5.length, ← r6.length, sizeLine_eq]; omega) fun h3 dC sb3 => ?_
  have he3 : ∃ q, h3.get? s.heap.objs.size = some q := let ⟨q, _, _, hq, _⟩ := dC; ⟨q, hq⟩
  have zC : (mergeK kvsA (mergeK [] kvsB)).length ≤ sizeLine := by
    have h1 := length_mergeK (mergeK [] kvsB) kvsA
    rw [sizeLine_eq]
    omega
  exact ⟨.ref s.heap.objs.size, _, d_write (t' := s2.toks + ws.length) I6 (by rw [e5]; exact True.intro) sb3 he3 (dk_new zC hd5 (KV.merge r6 r5) dC), rfl, q3⟩
theorem look_app : ∀ {a b : List (List Nat × D)} {k : List Nat}, lookD (a ++ b) k = none → lookD a k = none ∧ lookD b k = none
  | [], b, k, h => ⟨rfl, h⟩
  | (x, d) :: r, b, k, h => by
    have h' : cnd (beqL x k) (some d) (lookD (r ++ b) k) = none := h
    cases e : beqL x k with
    | true => rw [e] at h'; cases h'
    | false =>
      rw [e] at h'
      obtain ⟨h1, h2⟩ := look_app (a := r) (b := b) (k := k) h'
      refine ⟨?_, h2⟩
      show cnd (beqL x k) (some d) (lookD r k) = none
      rw [e]
      exact h1
theorem nodK_app : ∀ {a b : List (List Nat × D)}, nodK (a ++ b) = true → nodK a = true ∧ nodK b = true
  | [], b, h => ⟨rfl, h⟩
  | (x, d) :: r, b, h => by
    have h' : nodK ((x, d) :: (r ++ b)) = true := h
    unfold nodK at h'
    split at h'
    · cases h'
    · rename_i e
      obtain ⟨h1, h2⟩ := nodK_app h'
      refine ⟨?_, h2⟩
      unfold nodK
      rw [(look_app e).1]
      exact h1
theorem valV_app : ∀ {a b : List (Key × V)} {k : Key}, valV (a ++ b) k = none → valV a k = none
  | [], b, k, h => rfl
  | p :: r, b, k, h => by
    rw [List.cons_append] at h
    by_cases e : p.1 = k
    · rw [valV_pos e] at h; cases h
    · rw [valV_neg e] at h
      rw [valV_neg e]
      exact valV_app h
theorem nod_app : ∀ {a b : List (Key × V)}, NoD (a ++ b) → ∀ q ∈ b, valV a q.1 = none
  | [], b, h, q, hq => rfl
  | p :: r, b, h, q, hq => by
    have h1 : valV (r ++ b) p.1 = none ∧ NoD (r ++ b) := h
    have e : ¬ p.1 = q.1 := fun z => by
      have := valV_mem (l := r ++ b) (q := q) (List.mem_append_right _ hq)
      rw [← z] at this
      exact this h1.1
    rw [valV_neg e]
    exact nod_app h1.2 q hq
theorem RepK.append {c : Cw} {H : Hp} : ∀ {a b : List (List Nat × D)} {vs ws : List (Str × V)}, RepK c H a vs → RepK c H b ws → RepK c H (a ++ b) (vs ++ ws)
  | [], _, _, _, h, g => by rw [show _ = _ from h]; exact g
  | (k, d) :: r, _, _, _, h, g => by
    obtain ⟨v, t, h1, h2, h3⟩ := h
    subst h1
    exact ⟨v, _, rfl, h2, RepK.append h3 g⟩
theorem px_dicS {pos : Pos} {b : Expr} {ks : List (Option Expr)} {vs : List Expr} {f : RE} {g : RK} (hu : X.A.units + 64 < cLine) (hb : PX C X b f) (hd : DX C X pos ks vs g ∧ DOk g) (hall : ks.all (·.isSome) = true := by rfl) (hl : ks.length = vs.length := by rfl)
    (h0 : ks ≠ [] := by exact List.cons_ne_nil _ _) (h15 : ks.length ≤ 15 := by decide) : PX C X (.Dict (none :: ks) (b :: vs) pos) (eDicS f g) := by
  obtain ⟨⟨trs, pp, rd⟩, dk⟩ := hd
  obtain ⟨tb, pb, rb⟩ := hb
  refine ⟨_, pe_dispS pb pp hall hl h0 h15, fun σ H ρ d Q h e q p hp => ?_⟩
  unfold eDicS at e
  split at e
  · rename_i a ea
    split at e
    · rename_i bb eb
      cases y1 : Nat.beq a.length 0 with
      | true => rw [y1] at e; cases e
      | false =>
        rw [y1] at e
        cases y2 : Nat.beq bb.length 0 with
        | true => rw [y2] at e; cases e
        | false =>
          rw [y2] at e
          obtain ⟨y3, y4⟩ := cond_some (show cnd (a.all fun p => valOk p.2) (mkDic (a ++ bb)) none = some d from e)
          obtain ⟨y5, y6, y7⟩ := mkDic_some y4
          subst y7
          rw [List.length_append] at y5
          obtain ⟨nA, nB⟩ := nodK_app y6
          have vB := dk ρ bb eb
          have s0 : Same H (upd H p (.dK [])) := same_new hp
          refine rb σ _ ρ _ _ (h.same s0) ea fun vx H1 s1 r1 => ?_
          have hp1 : H1 p = some (.dK []) := s1 _ _ upd_same
          obtain ⟨aa, ws, h1, h2, h3⟩ := r1
          have ne : aa ≠ p := fun z => by
            have h2' : H1 aa = some (.dK (kvH ws)) := h2
            rw [z, hp1] at h2'
            have : ws = [] := by
              cases ws with
              | nil => rfl
              | cons _ _ => cases h2'
            rw [this] at h3
            have := h3.length
            rw [List.length_nil] at this
            rw [← this] at y1
            cases y1
          refine ⟨hp1, aa, kvH ws, h1, ne, h2, by rw [List.length_map, h3.length]; omega, by rw [merge_nod _ [] (fun _ _ => rfl) (nodK_nod nA h3), List.nil_append], fun q2 hq2 => ?_⟩
          have npq : p ≠ q2 := fun z => by rw [← z, upd_same] at hq2; cases hq2
          have sA : Same H (upd H1 p (.dK (kvH ws))) := same_disp hp s1
          have sB := sA.trans (same_new (o := .dK []) hq2)
          refine rd σ _ ρ bb _ (h.same sB) eb fun ws2 H3 s3 r3 => ?_
          have e3 : H3 p = some (.dK (kvH ws)) := s3 _ _ (by rw [upd_ne npq, upd_same])
          have e4 : H3 q2 = some (.dK []) := s3 _ _ upd_same
          refine ⟨e3, e4, npq, kvH ws2, by unfold kvV kvH; rw [List.map_map]; rfl, by rw [List.length_map, r3.length]; omega, ?_⟩
          have RA : RepK (cw C X) H3 a ws := ((VOk_upd (o := .dK (kvH ws)) hp1 y3 h3).same (same_new (o := .dK []) hq2)).same s3
          have RAB := RA.append r3
          have nAB : NoD (kvH ws ++ kvH ws2) := by
            have := nodK_nod y6 RAB
            unfold kvH at this ⊢
            rw [List.map_append] at this
            exact this
          have mB : mergeK [] (kvH ws2) = kvH ws2 := by rw [merge_nod _ [] (fun _ _ => rfl) (nodK_nod nB r3), List.nil_append]
          rw [mB, merge_nod _ _ (nod_app nAB) (nodK_nod nB r3)]
          have vAB : VOk (a ++ bb) = true := by
            show (a ++ bb).all _ = true
            rw [List.all_append]
            exact Bool.and_eq_true_iff.mpr ⟨y3, vB⟩
          refine q _ _ (fun x u ex => ?_) ⟨p, ws ++ ws2, rfl, ?_, ?_⟩
          · have x1 : x ≠ p := ne_of_none ex hp
            have x2 : x ≠ q2 := ne_of_none (sA _ _ ex) hq2
            rw [upd_ne x1, upd_ne x2]
            exact s3 _ _ (sB _ _ ex)
          · show upd _ p _ p = some (.dK ((ws ++ ws2).map _))
            rw [upd_same, List.map_append]
          · have t1 := VOk_upd (o := .dK (kvH ws2)) e4 vAB RAB
            exact VOk_upd (l0 := kvH ws) (by rw [upd_ne npq]; exact e3) vAB t1
    · cases e
  · cases e
end
end
end Rp
set_option Elab.async false
set_option linter.all false
set_option maxRecDepth 100000
set_option maxHeartbeats 1000000
namespace Rp
noncomputable section
open PySem PySem.Spec PyProof.Rows L2 SX
/-! ### a def by its body -/
theorem getR_pad : ∀ (ds : List D) (z i : Nat) (d : D), (padR ds z)[i]? = some (some d) → ds[i]? = some d
  | [], z, i, d, h => by
    have : (List.replicate z (none : Option D))[i]? = some (some d) := h
    rw [List.getElem?_replicate] at this
    split at this <;> cases this
  | x :: ds, z, 0, d, h => by
    have h' : some (some x) = some (some d) := h
    cases h'
    rfl
  | x :: ds, z, i + 1, d, h => getR_pad ds z i d h
theorem pad_len : ∀ (ds : List D) (z : Nat), (padR ds z).length = ds.length + z
  | [], z => by show (List.replicate z _).length = _; rw [List.length_replicate, List.length_nil, Nat.zero_add]
  | x :: ds, z => by
    show (padR ds z).length + 1 = _
    rw [pad_len ds z, List.length_cons]
    omega
theorem start_rep {c : Cw} {H : Hp} {ds : List D} {vs : List V} {N : List Str} {n z : Nat} (r : RepL c H ds vs) (hn : ds.length = n) (hN : N.length = n + z) : SRep c H (L2.start N vs) (padR ds z) := by
  have hl := r.length
  refine ⟨by rw [pad_len]; unfold L2.start; rw [List.length_append, List.length_map, List.length_replicate]; omega, fun i d e => ?_⟩
  obtain ⟨v, z1, z2⟩ := r.get (getR_pad ds z i d e)
  refine ⟨v, ?_, z2⟩
  unfold L2.start
  have hi : i < vs.length := (List.getElem?_eq_some_iff.mp z1).1
  rw [List.getElem?_append_left (by simpa using hi), List.getElem?_map, z1]
  rfl
theorem runF_some {n z : Nat} {b : RS} {ds : List D} {d : D} (h : runF n z b ds = some d) : ds.length = n ∧ ((b (padR ds z) = some (.rt d)) ∨ (∃ ρ, b (padR ds z) = some (.nx ρ)) ∧ d = .non) := by
  unfold runF at h
  obtain ⟨h1, h2⟩ := cond_some h
  refine ⟨by simpa using h1, ?_⟩
  split at h2
  · rename_i e
    cases h2
    exact .inl e
  · rename_i ρ e
    cases h2
    exact .inr ⟨⟨ρ, e⟩, rfl⟩
  · cases h2
theorem runF_read {c : Cw} {n z : Nat} {b : RS} {N : List Str} {vs : List V} {H : Hp} {Q : VK} {t : TS} (hN : N.length = n + z)
    (rd : ∀ σ H ρ r (D : Ends), SRep c H σ ρ → b ρ = some r → Aft c H D r → t D σ H) (h : spM c (runF n z b) vs H Q E0) : t { nx := fun _ H' => Q .non H', rt := Q } (L2.start N vs) H := by
  obtain ⟨ds, d, r, e, q⟩ := h
  obtain ⟨e1, e2⟩ := runF_some e
  have s := start_rep (N := N) (z := z) r e1 hN
  rcases e2 with e2 | ⟨⟨ρ, e2⟩, rfl⟩
  · exact rd _ H _ _ _ s e2 q
  · exact rd _ H _ _ { nx := fun _ H' => Q .non H', rt := Q } s e2 (fun σ' H' s' _ => q _ H' s' rfl)
abbrev CxD (P : Program) (w : World) (K : PySem.W.Frag) (mg : Str → Option Value) (base : Heap) (N : List Str) (qual : Str) (scope : Scope) (f : Addr) (cdv : Value) (A : Around) (outer : List Env) (s : Shared) (H : Hp) (E : XK) : Cx :=
  (cxOf L2.CX0 P w K mg base N qual scope f cdv A outer s H E).nox
section
variable {P : Program} {w : World} {K : PySem.W.Frag} {mg : Str → Option Value} {base : Heap} {C : Addr}
/-- a def as the head has it: no defaults -/
abbrev FnP (K : PySem.W.Frag) (x qual : Str) (st : Stmt) (f : Addr) (fd : FuncData) : Prop := FunD K x qual (defArgs st) (defBody st) (defScope st) [] [] f fd
theorem fn_body {x qual : Str} {params : Arguments} {body : List Stmt} {scope : Scope} {dvs : List V} {kws : List (Str × V)} {f : Addr} {fd : FuncData} {N ps : List Str} {k n z : Nat} {b : RS} (F : FunD K x qual params body scope dvs kws f fd) (S : FnScope N ps scope) (hn : ps.length = n) (hN : N.length = n + z)
    (hb : ∀ (cdv : Value) (A : Around) (outer : List Env) (s : Shared) (H : Hp) (E : XK), Room k (A.deeper (envOfC qual scope s.heap.objs.size f cdv)) → BX C (CxD P w K mg base N qual scope f cdv A outer s H E) body b) :
    FnOk P w K mg base L2.CX0 (k + 1) f fd ps (spM ⟨C, K, w⟩ (runF n z b)) := by
  refine F.ok S (fun vs H Q E h => ?_) fun cdv A outer s H vs Q E hr h => ?_
  · obtain ⟨ds, d, r, e, q⟩ := h
    rw [r.length, (runF_some e).1, hn]
  · obtain ⟨t, pt, rd⟩ := hb cdv A outer s H E hr
    exact ⟨t, PSs.nox pt, runF_read hN rd h⟩
theorem FnOk.all {f : Addr} {fd : FuncData} {ps : List Str} {k : Nat} {sp : Sp} (F : FnOk P w K mg base L2.CX0 k f fd ps sp) (b : Binds K fd ps []) : FnR P w K mg base L2.CX0 k f sp :=
  (FnOk.raw F b .nil).imp fun vs H Q E h => by rw [List.append_nil]; exact h
/-- a def of the module -/
structure DfC (K : PySem.W.Frag) (mg : Str → Option Value) (x : Str) (st : Stmt) : Prop where
  ex : ∃ f fd, FnP K x x st f fd ∧ mg x = some (.ref f)
/-- a method -/
structure MeC (K : PySem.W.Frag) (C : Addr) (m qual : Str) (st : Stmt) (dvs : List V) : Prop where
  ex : ∃ f fd, FunD K m qual (defArgs st) (defBody st) (defScope st) dvs [] f fd ∧ Meth K C m f
abbrev BindsAll (x qual : Str) (st : Stmt) (ps : List Str) : Prop := ∀ (kV doc pm : Value) (an : Option Addr) (cdv ct : Value) (us : List Value), us.length = ps.length →
  bindArgs (PySem.W.fnOf x qual (defArgs st) (defBody st) (defScope st) .none kV doc pm an cdv ct) ⟨us, []⟩ = pure (ps.zip us)
theorem fnc {x : Str} {st : Stmt} {N ps : List Str} {k n z : Nat} {b : RS} (d : DfC K mg x st) (S : FnScope N ps (defScope st)) (hn : ps.length = n) (hN : N.length = n + z) (hbi : BindsAll x x st ps)
    (hb : ∀ (f : Addr) (cdv : Value) (A : Around) (outer : List Env) (s : Shared) (H : Hp) (E : XK), Room k (A.deeper (envOfC x (defScope st) s.heap.objs.size f cdv)) → BX C (CxD P w K mg base N x (defScope st) f cdv A outer s H E) (defBody st) b) :
    FnC P w K mg base C (k + 1) x (runF n z b) := by
  obtain ⟨f, fd, F, hm⟩ := d.ex
  exact ⟨f, FnOk.all (fn_body F S hn hN (hb f)) (F.bindsN hbi), hm, F.kp⟩
theorem mtc {m qual : Str} {st : Stmt} {N ps : List Str} {k n z : Nat} {b : RS} (d : MeC K C m qual st []) (S : FnScope N ps (defScope st)) (hn : ps.length = n) (hN : N.length = n + z) (hbi : BindsAll m qual st ps)
    (hb : ∀ (f : Addr) (cdv : Value) (A : Around) (outer : List Env) (s : Shared) (H : Hp) (E : XK), Room k (A.deeper (envOfC qual (defScope st) s.heap.objs.size f cdv)) → BX C (CxD P w K mg base N qual (defScope st) f cdv A outer s H E) (defBody st) b) :
    MtC P w K mg base C (k + 1) m (runF n z b) := by
  obtain ⟨f, fd, F, me⟩ := d.ex
  exact ⟨f, me, FnOk.all (fn_body F S hn hN (hb f)) (F.bindsN hbi)⟩
/-- nothing is promised -/
theorem fnc0 {x : Str} {st : Stmt} {k : Nat} (d : DfC K mg x st) : FnC P w K mg base C k x (fun _ => none) := by
  obtain ⟨f, fd, F, hm⟩ := d.ex
  exact ⟨f, fun A outer s H us vs Q E hr e0 r hs => (by obtain ⟨ds, d, _, e, _⟩ := hs; cases e), hm, F.kp⟩
theorem FnC.mono {x : Str} {j k : Nat} {m : List D → Option D} (F : FnC P w K mg base C j x m) (h : j ≤ k) : FnC P w K mg base C k x m := by
  obtain ⟨f, F, r⟩ := F.ex
  exact ⟨f, F.mono h, r⟩
/-- a method whose third parameter is () where it lacks -/
theorem mtp {m qual : Str} {st : Stmt} {N ps : List Str} {k z : Nat} {b : RS} {dv : V} (d : MeC K C m qual st [dv]) (hdv : ∀ H, Rep ⟨C, K, w⟩ H (.tup []) dv) (S : FnScope N ps (defScope st)) (hn : ps.length = 3) (hN : N.length = 3 + z)
    (hb2 : ∀ (T : Addr) (kV doc pm : Value) (an : Option Addr) (cdv ct : Value) (us its : List Value), us.length = 2 → its.length = 1 →
      ∃ k, bindArgs (PySem.W.fnOf m qual (defArgs st) (defBody st) (defScope st) (.ref T) kV doc pm an cdv ct) ⟨us, []⟩ = seqItems? (.ref T) >>= k ∧ k (some its.toArray) = pure (ps.zip (us ++ its.drop 0)))
    (hb3 : ∀ (T : Addr) (kV doc pm : Value) (an : Option Addr) (cdv ct : Value) (us its : List Value), us.length = 3 → its.length = 1 →
      ∃ k, bindArgs (PySem.W.fnOf m qual (defArgs st) (defBody st) (defScope st) (.ref T) kV doc pm an cdv ct) ⟨us, []⟩ = seqItems? (.ref T) >>= k ∧ k (some its.toArray) = pure (ps.zip (us ++ its.drop 1)))
    (hb : ∀ (f : Addr) (cdv : Value) (A : Around) (outer : List Env) (s : Shared) (H : Hp) (E : XK), Room k (A.deeper (envOfC qual (defScope st) s.heap.objs.size f cdv)) → BX C (CxD P w K mg base N qual (defScope st) f cdv A outer s H E) (defBody st) b) :
    MtC P w K mg base C (k + 1) m (runP z b) := by
  obtain ⟨f, fd, F, me⟩ := d.ex
  have ok := fn_body (P := P) (w := w) (mg := mg) (base := base) (C := C) F S hn hN (hb f)
  obtain ⟨d2, v2, b2⟩ := FunD.binds1 F 2 0 (List.cons_ne_nil _ _) (by rw [hn]; rfl) hb2
  obtain ⟨d3, v3, b3⟩ := FunD.binds1 F 3 1 (List.cons_ne_nil _ _) (by rw [hn]; rfl) hb3
  have r2 := FnOk.raw ok b2 v2
  have r3 := FnOk.raw ok b3 v3
  refine ⟨f, me, fun A outer s H us vs Q E hr e0 r hs => ?_⟩
  obtain ⟨ds, d, rr, e, q⟩ := hs
  unfold runP at e
  cases h2 : Nat.beq ds.length 2 with
  | true =>
    rw [h2] at e
    have e' : runF 3 z b (ds ++ [D.tup []]) = some d := e
    exact r2 A outer s H us vs Q E hr e0 r ⟨ds ++ [D.tup []], d, rr.append ⟨dv, [], rfl, hdv H, rfl⟩, e', q⟩
  | false =>
    rw [h2] at e
    have e' : runF 3 z b ds = some d := e
    exact r3 A outer s H us vs Q E hr e0 r ⟨ds, d, by rw [show [dv].drop 1 = [] from rfl, List.append_nil]; exact rr, e', q⟩
theorem cxup0 : StX.CXUp L2.CX0 := fun _ _ _ _ _ _ _ _ _ _ _ h => h
/-- a method with a star parameter behind self -/
theorem mtv {m qual : Str} {st : Stmt} {N : List Str} {k z : Nat} {b : RS} {ps1 pv : Str} (d : MeC K C m qual st []) (S : FnScope N ([ps1] ++ [pv]) (defScope st)) (hN : N.length = 2 + z)
    (hbi : ∀ (kV doc pm : Value) (an : Option Addr) (cdv ct : Value) (us rest : List Value), us.length = 1 → bindArgs (PySem.W.fnOf m qual (defArgs st) (defBody st) (defScope st) .none kV doc pm an cdv ct) ⟨us ++ rest, []⟩ = (newTuple rest >>= fun t => pure ([ps1].zip us ++ [(pv, t)])))
    (hb : ∀ (f : Addr) (cdv : Value) (A : Around) (outer : List Env) (s : Shared) (H : Hp) (E : XK), Room k (A.deeper (envOfC qual (defScope st) s.heap.objs.size f cdv)) → BX C (CxD P w K mg base N qual (defScope st) f cdv A outer s H E) (defBody st) b) :
    MtC P w K mg base C (k + 1) m (runV z b) := by
  obtain ⟨f, fd, F, me⟩ := d.ex
  obtain ⟨oc, od, dV, kV, doc, pm, an, cdv, ct, osl, rfl, lk, hcd, hD, hK⟩ := F.ex
  have hD2 : dV = .none := by
    rcases hD with ⟨_, e⟩ | ⟨e, _⟩
    · exact e
    · exact absurd rfl e
  subst hD2
  refine ⟨f, me, (StX.fn_star (k := k) (sp := spM ⟨C, K, w⟩ (runF 2 z b)) lk hcd S cxup0 (fun us rest hl => hbi kV doc pm an cdv ct us rest hl) (fun A outer s H vs Q E hr h => ?_)).imp fun vs H Q E h => ?_⟩
  · obtain ⟨t, pt, rd⟩ := hb f cdv A outer s H E hr
    exact ⟨t, PSs.nox pt, runF_read hN rd h⟩
  · obtain ⟨ds, d, rr, e, q⟩ := h
    cases ds with
    | nil => cases e
    | cons s0 rest =>
      obtain ⟨v, vr, h1, h2, h3⟩ := rr
      unfold runV at e
      cases e1 : mkTup rest with
      | none => simp only [e1] at e; cases e
      | some t =>
        simp only [e1] at e
        obtain ⟨z1, z2⟩ := mkTup_rep e1 h3
        refine ⟨[v], vr, h1, rfl, z1, fun p hp => ?_⟩
        exact ⟨[s0, t], d, ⟨v, [V.ref p], rfl, h2.same (same_new hp), V.ref p, [], rfl, z2 p hp, rfl⟩, e, q.mono (same_new hp)⟩
end
end
end Rp
set_option Elab.async false
set_option linter.all false
set_option maxRecDepth 100000
set_option maxHeartbeats 1000000
namespace Rp
noncomputable section
open PySem PySem.Spec PyProof.Rows L2 SX
/-! ### what does not lean on a list -/
theorem SqT.upl {K : PySem.W.Frag} {H : Hp} {a b : Addr} {xs ys vs : List V} (ha : H a = some (.lst xs)) (h : SqT K H b vs) : SqT K (upd H a (.lst ys)) b vs := by
  rcases h with (h | ⟨o, h⟩) | h
  · exact .inl (.inl (by rw [upd_ne (fun z => by rw [z, ha] at h; cases h)]; exact h))
  · exact .inl (.inr ⟨o, by rw [upd_ne (fun z => by rw [z, ha] at h; cases h)]; exact h⟩)
  · exact .inr h
mutual
theorem Rep.upl {c : Cw} {H : Hp} {a : Addr} {xs ys : List V} (ha : H a = some (.lst xs)) : ∀ (d : D) {v : V}, dat1 d = true → Rep c H d v → Rep c (upd H a (.lst ys)) d v
  | .non, v, _, h => h
  | .bl _, v, _, h => h
  | .int _, v, _, h => h
  | .str _, v, _, h => h
  | .tup ds, v, _, h => by
    obtain ⟨b, vs, h1, h2, h3, h4⟩ := h
    exact ⟨b, vs, h1, SqT.upl ha h2, RepL.upl ha ds h4 h3, h4⟩
  | .tupx _, v, e, _ => by cases e
  | .lst _, v, e, _ => by cases e
  | .lstx _, v, e, _ => by cases e
  | .st .., v, e, _ => by cases e
  | .dic _, v, e, _ => by cases e
theorem RepL.upl {c : Cw} {H : Hp} {a : Addr} {xs ys : List V} (ha : H a = some (.lst xs)) : ∀ (d : List D) {v : List V}, d.all dat1 = true → RepL c H d v → RepL c (upd H a (.lst ys)) d v
  | [], v, _, h => h
  | d :: ds, v, e, h => by
    obtain ⟨x, r, h1, h2, h3⟩ := h
    have e2 : (dat1 d && ds.all dat1) = true := e
    obtain ⟨e3, e4⟩ := Bool.and_eq_true_iff.mp e2
    exact ⟨x, r, h1, Rep.upl ha d e3 h2, RepL.upl ha ds e4 h3⟩
end
theorem cnd_and {a b : Bool} (h : cnd a b false = true) : a = true ∧ b = true := by
  cases a with
  | true => exact ⟨rfl, h⟩
  | false => cases h
theorem noL1_upl {c : Cw} {H : Hp} {a : Addr} {xs ys : List V} (ha : H a = some (.lst xs)) {d : D} {v : V} (e : noL1 d = true) (r : Rep c H d v) : Rep c (upd H a (.lst ys)) d v := by
  cases d with
  | st l g f p t =>
    obtain ⟨e1, e⟩ := cnd_and e
    obtain ⟨e2, e⟩ := cnd_and e
    obtain ⟨e3, e⟩ := cnd_and e
    obtain ⟨e4, e5⟩ := cnd_and e
    obtain ⟨b, dx, vl, vg, vf, vp, vt, h1, h2, h3, h4, h5, h6, h7⟩ := r
    exact ⟨b, dx, vl, vg, vf, vp, vt, h1, by rw [upd_ne (fun z => by rw [z, ha] at h2; cases h2)]; exact h2, Rep.upl ha l e1 h3, Rep.upl ha g e2 h4, Rep.upl ha f e3 h5, Rep.upl ha p e4 h6, Rep.upl ha t e5 h7⟩
  | tupx _ => cases e
  | lst _ => cases e
  | lstx _ => cases e
  | dic _ => cases e
  | non => exact Rep.upl ha _ e r
  | bl _ => exact Rep.upl ha _ e r
  | int _ => exact Rep.upl ha _ e r
  | str _ => exact Rep.upl ha _ e r
  | tup _ => exact Rep.upl ha _ e r
theorem noL1s_upl {c : Cw} {H : Hp} {a : Addr} {xs ys : List V} (ha : H a = some (.lst xs)) : ∀ {ds : List D} {vs : List V}, ds.all noL1 = true → RepL c H ds vs → RepL c (upd H a (.lst ys)) ds vs
  | [], _, _, h => h
  | d :: ds, _, e, h => by
    obtain ⟨x, r, h1, h2, h3⟩ := h
    have e2 : (noL1 d && ds.all noL1) = true := e
    obtain ⟨e3, e4⟩ := Bool.and_eq_true_iff.mp e2
    exact ⟨x, r, h1, noL1_upl ha e3 h2, noL1s_upl ha e4 h3⟩
theorem noL_upl {c : Cw} {H : Hp} {a : Addr} {xs ys : List V} (ha : H a = some (.lst xs)) {d : D} {v : V} (e : noL d = true) (r : Rep c H d v) : Rep c (upd H a (.lst ys)) d v := by
  cases d with
  | tupx ds =>
    obtain ⟨b, vs, h1, h2, h3⟩ := r
    exact ⟨b, vs, h1, SqT.upl ha h2, noL1s_upl ha e h3⟩
  | st l g f p t => exact noL1_upl ha e r
  | lst _ => cases e
  | lstx _ => cases e
  | dic _ => cases e
  | non => exact Rep.upl ha _ e r
  | bl _ => exact Rep.upl ha _ e r
  | int _ => exact Rep.upl ha _ e r
  | str _ => exact Rep.upl ha _ e r
  | tup _ => exact Rep.upl ha _ e r
theorem noLs_upl {c : Cw} {H : Hp} {a : Addr} {xs ys : List V} (ha : H a = some (.lst xs)) : ∀ {ds : List D} {vs : List V}, ds.all noL = true → RepL c H ds vs → RepL c (upd H a (.lst ys)) ds vs
  | [], _, _, h => h
  | d :: ds, _, e, h => by
    obtain ⟨x, r, h1, h2, h3⟩ := h
    have e2 : (noL d && ds.all noL) = true := e
    obtain ⟨e3, e4⟩ := Bool.and_eq_true_iff.mp e2
    exact ⟨x, r, h1, noL_upl ha e3 h2, noLs_upl ha e4 h3⟩
theorem okApp_at : ∀ {i : Nat} {ρ : Rho} {j : Nat} {d : D}, okApp i ρ = true → j ≠ i → ρ[j]? = some (some d) → noL d = true
  | _, [], j, d, _, _, e => by simp at e
  | 0, x :: r, 0, d, _, ne, _ => absurd rfl ne
  | 0, x :: r, j + 1, d, h, _, e => by
    have h' := List.all_eq_true.mp h (some d) (List.mem_of_getElem? (by simpa using e))
    exact h'
  | i + 1, x :: r, 0, d, h, _, e => by
    obtain ⟨h1, _⟩ := cnd_and h
    have e' : x = some d := by simpa using e
    subst e'
    exact h1
  | i + 1, x :: r, j + 1, d, h, ne, e => okApp_at (i := i) (j := j) (cnd_and h).2 (fun z => ne (congrArg Nat.succ z)) (by simpa using e)
/-! ### statements that keep a list of their own at a slot -/
def OwnL (B : Hp) (σ : L2.St) (i : Nat) : Prop := ∀ a, σ[i]? = some (some (.ref a)) → B a = none
theorem OwnL.set {B : Hp} {σ : L2.St} {i j : Nat} {v : V} (h : OwnL B σ i) (ne : j ≠ i) : OwnL B (σ.set j (some v)) i := fun a e => h a (by rw [List.getElem?_set_ne ne] at e; exact e)
theorem OwnL.new {B : Hp} {σ : L2.St} {i : Nat} {v : V} (h : ∀ a, v = .ref a → B a = none) : OwnL B (σ.set i (some v)) i := fun a e => by
  rw [List.getElem?_set] at e
  simp only [if_true] at e
  split at e
  · exact h a (by simpa using e)
  · cases e
def AftL (c : Cw) (i : Nat) (B : Hp) (D : Ends) : R → Prop
  | .nx ρ => ∀ σ' H', Same B H' → SRep c H' σ' ρ → OwnL B σ' i → D.nx σ' H'
  | .rt d => ∀ v H', Same B H' → Rep c H' d v → (isLx d = true → ∀ a, v = .ref a → B a = none) → D.rt v H'
  | .bk ρ => ∀ σ' H', Same B H' → SRep c H' σ' ρ → OwnL B σ' i → D.bk σ' H'
  | .ct ρ => ∀ σ' H', Same B H' → SRep c H' σ' ρ → OwnL B σ' i → D.ct σ' H'
def LS (i : Nat) (C : Addr) (X : Cx) (st : Stmt) (f : RS) : Prop :=
  ∃ t, PS X st t ∧ ∀ B σ H ρ r (D : Ends), Same B H → SRep (cw C X) H σ ρ → OwnL B σ i → f ρ = some r → AftL (cw C X) i B D r → t D σ H
def LB (i : Nat) (C : Addr) (X : Cx) (st : List Stmt) (f : RS) : Prop :=
  ∃ t, PSs X st t ∧ ∀ B σ H ρ r (D : Ends), Same B H → SRep (cw C X) H σ ρ → OwnL B σ i → f ρ = some r → AftL (cw C X) i B D r → t D σ H
/-- a value that is a new object -/
def FX (C : Addr) (X : Cx) (e : Expr) (f : RE) : Prop :=
  ∃ t, PE X e t ∧ ∀ σ H ρ d (Q : VK), SRep (cw C X) H σ ρ → f ρ = some d → (∀ v H', Same H H' → Rep (cw C X) H' d v → (∀ a, v = .ref a → H a = none) → Q v H') → t σ H Q
section
variable {C : Addr} {X : Cx} {i : Nat}
theorem lb_nil : LB i C X [] sNx := ⟨_, pss_nil, fun B σ H ρ r D s h o e q => by cases e; exact q σ H s h o⟩
theorem lb_one {st : Stmt} {f : RS} (h : LS i C X st f) : LB i C X [st] f := by
  obtain ⟨t, p, r⟩ := h
  exact ⟨_, pss_one p, r⟩
theorem lb_cons {st : Stmt} {rest : List Stmt} {f g : RS} (h1 : LS i C X st f) (h2 : LB i C X rest g) : LB i C X (st :: rest) (sSeq f g) := by
  obtain ⟨t, p, r1⟩ := h1
  obtain ⟨u, p2, r2⟩ := h2
  refine ⟨_, pss_cons p p2, fun B σ H ρ r D s h o e q => ?_⟩
  unfold sSeq at e
  cases e1 : f ρ with
  | none => rw [e1] at e; cases e
  | some a =>
    rw [e1] at e
    refine r1 B σ H ρ a _ s h o e1 ?_
    cases a with
    | nx ρ' => exact fun σ' H' s h' o' => r2 B σ' H' ρ' r D s h' o' e q
    | rt d => cases e; exact q
    | bk ρ' => cases e; exact q
    | ct ρ' => cases e; exact q
theorem ls_ret {e : Expr} {f : RE} {pos : Pos} (h : PX C X e f) : LS i C X (.Return (some e) pos) (sRetN f) := by
  obtain ⟨t, p, r⟩ := h
  refine ⟨_, ps_ret p, fun B σ H ρ a D s h o e q => ?_⟩
  unfold sRetN at e
  cases e1 : f ρ with
  | none => rw [e1] at e; cases e
  | some d =>
    rw [e1] at e
    cases hx : isLx d with
    | true => simp only [hx] at e; cases e
    | false =>
      simp only [hx] at e
      cases e
      exact r σ H ρ d _ h e1 fun v H' s' r' => q v H' (s.trans s') r' (fun z => by rw [hx] at z; cases z)
theorem ls_retOwn {x : Str} {np pos : Pos} (hx : PE X (.Name x np) (tVar i)) : LS i C X (.Return (some (.Name x np)) pos) (sRet (eVar i)) := by
  refine ⟨_, ps_ret hx, fun B σ H ρ a D s h o e q => ?_⟩
  unfold sRet at e
  cases e1 : eVar i ρ with
  | none => rw [e1] at e; cases e
  | some d =>
    rw [e1] at e
    cases e
    obtain ⟨v, w1, w2⟩ := h.2 i d (getR_some e1)
    exact ⟨v, w1, q v H s w2 fun _ a ea => o a (by rw [w1, ea])⟩
theorem ls_if {c : Expr} {a b : List Stmt} {t : RT} {f g : RS} {pos : Pos} (hc : TX C X c t) (ha : LB i C X a f) (hb : LB i C X b g) : LS i C X (.If c a b pos) (sIf t f g) := by
  obtain ⟨tc, pc, rc⟩ := hc
  obtain ⟨ta, pa, ra⟩ := ha
  obtain ⟨tb, pb, rb⟩ := hb
  refine ⟨_, ps_if pc pa pb, fun B σ H ρ r D s h o e q => ?_⟩
  unfold sIf at e
  split at e
  · rename_i e1
    refine rc σ H ρ true _ h e1 fun H1 s1 => ?_
    rw [if_pos rfl]
    exact ra B σ H1 ρ r D (s.trans s1) (h.same s1) o e q
  · rename_i e1
    refine rc σ H ρ false _ h e1 fun H1 s1 => ?_
    rw [if_neg Bool.false_ne_true]
    exact rb B σ H1 ρ r D (s.trans s1) (h.same s1) o e q
  · cases e
theorem ls_cont {pos : Pos} : LS i C X (.Continue pos) sCont := ⟨_, ps_continue, fun B σ H ρ r D s h o e q => by cases e; exact q σ H s h o⟩
theorem ls_while {c : Expr} {body : List Stmt} {t : RT} {f : RS} {pos : Pos} (n : Nat) (hp : PassesOwn (model X.prog X.w) X.A X.env X.xe) (hc : TX C X c t) (hb : LB i C X body f) : LS i C X (.While c body [] pos) (whileD t f n) := by
  obtain ⟨tc, pc, rc⟩ := hc
  obtain ⟨tb, pb, rb⟩ := hb
  refine ⟨_, ps_while hp pc pb, fun B σ H ρ r D s h o e q => ?_⟩
  refine ⟨fun m σ' H' => ∃ ρ', Same B H' ∧ SRep (cw C X) H' σ' ρ' ∧ OwnL B σ' i ∧ whileD t f m ρ' = some r, ⟨n, ρ, s, h, o, e⟩, ?_⟩
  rintro m σ1 H1 ⟨ρ1, s1, h1, o1, e1⟩
  cases m with
  | zero => cases e1
  | succ m =>
    unfold whileD at e1
    cases e2 : t ρ1 with
    | none => rw [e2] at e1; cases e1
    | some b =>
      rw [e2] at e1
      refine rc σ1 H1 ρ1 b _ h1 e2 fun H2 s2 => ?_
      have s12 := s1.trans s2
      cases b with
      | false =>
        cases e1
        rw [if_neg Bool.false_ne_true]
        exact q σ1 H2 s12 (h1.same s2) o1
      | true =>
        rw [if_pos rfl]
        refine ⟨fun σ' H' => ∃ ρ', Same B H' ∧ SRep (cw C X) H' σ' ρ' ∧ OwnL B σ' i ∧ whileD t f m ρ' = some r, fun σ' H' z => ⟨m, Nat.lt_succ_self m, z⟩, ?_⟩
        have e1' : (match f ρ1 with
          | some (.nx ρ2) => whileD t f m ρ2
          | some (.ct ρ2) => whileD t f m ρ2
          | some (.bk ρ2) => some (.nx ρ2)
          | r => r) = some r := e1
        cases e3 : f ρ1 with
        | none => rw [e3] at e1'; cases e1'
        | some a =>
          rw [e3] at e1'
          refine rb B σ1 H2 ρ1 a _ s12 (h1.same s2) o1 e3 ?_
          cases a with
          | nx ρ3 => exact fun σ3 H3 s3 h3 o3 => ⟨ρ3, s3, h3, o3, e1'⟩
          | ct ρ3 => exact fun σ3 H3 s3 h3 o3 => ⟨ρ3, s3, h3, o3, e1'⟩
          | bk ρ3 =>
            cases e1'
            exact fun σ3 H3 s3 h3 o3 => q σ3 H3 s3 h3 o3
          | rt d =>
            cases e1'
            exact q
theorem ls_set {j : Nat} {x : Str} {e : Expr} {f : RE} {pos pos' : Pos} (hN : X.N.Nodup) (he : PX C X e f) (ne : j ≠ i := by decide) (hi : X.N[j]? = some x := by rfl) (hx : Loc X.env.scope x := by first | exact Or.inl rfl | exact Or.inr rfl) (hs : swapsWith e (some (.Name x pos')) pos.line X.env = pure false := by rfl)
    (hf : X.fn x = true ∨ X.env.scope.names.lookup x = some .local := by first | exact .inl rfl | exact .inr rfl) : LS i C X (.Assign [.Name x pos'] e pos) (sSet j f) := by
  obtain ⟨t, p, r⟩ := he
  refine ⟨_, ps_set hN hi hx p hs hf, fun B σ H ρ a D s h o e q => ?_⟩
  unfold sSet at e
  cases e1 : f ρ with
  | none => rw [e1] at e; cases e
  | some d =>
    rw [e1] at e
    cases e
    exact r σ H ρ d _ h e1 fun v H1 s1 r1 => q _ H1 (s.trans s1) ((h.same s1).set j r1) (o.set ne)
theorem new_B {B H : Hp} {v : V} (s : Same B H) (h : ∀ a, v = .ref a → H a = none) : ∀ a, v = .ref a → B a = none := fun a e => by
  cases hb : B a with
  | none => rfl
  | some u =>
    have := s _ _ hb
    rw [h a e] at this
    cases this
theorem ls_setF {x : Str} {e : Expr} {f : RE} {pos pos' : Pos} (hN : X.N.Nodup) (he : FX C X e f) (hi : X.N[i]? = some x := by rfl) (hx : Loc X.env.scope x := by first | exact Or.inl rfl | exact Or.inr rfl) (hs : swapsWith e (some (.Name x pos')) pos.line X.env = pure false := by rfl)
    (hf : X.fn x = true ∨ X.env.scope.names.lookup x = some .local := by first | exact .inl rfl | exact .inr rfl) : LS i C X (.Assign [.Name x pos'] e pos) (sSet i f) := by
  obtain ⟨t, p, r⟩ := he
  refine ⟨_, ps_set hN hi hx p hs hf, fun B σ H ρ a D s h o e q => ?_⟩
  unfold sSet at e
  cases e1 : f ρ with
  | none => rw [e1] at e; cases e
  | some d =>
    rw [e1] at e
    cases e
    exact r σ H ρ d _ h e1 fun v H1 s1 r1 nw => q _ H1 (s.trans s1) ((h.same s1).set i r1) (OwnL.new (new_B s nw))
section
variable {j k : Nat} {x y : Str} {a b : Expr} {f g : RE} {px py pt pos : Pos} {kt k2 pt2}
theorem ls_par (hc : X.calm = true) (hN : X.N.Nodup) (ha : PX C X a f) (hb : PX C X b g) (hj0 : j ≠ i := by decide) (hk0 : k ≠ i := by decide) (hi : X.N[j]? = some x := by rfl) (hj : X.N[k]? = some y := by rfl) (hij : j ≠ k := by decide)
    (hx : X.env.scope.names.lookup x = some .local := by rfl) (hy : X.env.scope.names.lookup y = some .local := by rfl)
    (hs1 : starEach [a, b] X.env = (false, eval a X.env) :: starEach [b] X.env := by rfl) (hs2 : starEach [b] X.env = (false, eval b X.env) :: starEach [] X.env := by rfl)
    (hw : swappedStores [.Tuple [.Name x px, .Name y py] kt pt] (.Tuple [a, b] k2 pt2) X.env = pure (some [x, y]) := by rfl)
    (hs : swapsWithSole [.Tuple [.Name x px, .Name y py] kt pt] (.Tuple [a, b] k2 pt2) pos.line X.env = pure false := by rfl) :
    LS i C X (.Assign [.Tuple [.Name x px, .Name y py] kt pt] (.Tuple [a, b] k2 pt2) pos) (sPar j k f g) := by
  obtain ⟨ta, pa, ra⟩ := ha
  obtain ⟨tb, pb, rb⟩ := hb
  refine ⟨_, ps_par hc hN hi hj hij hx hy (pa_cons pa (pa_cons pb pa_nil hs2) hs1) hw hs, fun B σ H ρ r D s h o e q => ?_⟩
  unfold sPar at e
  cases e1 : f ρ with
  | none => rw [e1] at e; cases e
  | some d =>
    rw [e1] at e
    cases e2 : g ρ with
    | none => rw [e2] at e; cases e
    | some d2 =>
      rw [e2] at e
      cases e
      refine ra σ H ρ d _ h e1 fun v H1 s1 r1 => ?_
      refine rb σ H1 ρ d2 _ (h.same s1) e2 fun u H2 s2 r2 => ?_
      exact ⟨v, u, rfl, q _ H2 (s.trans (s1.trans s2)) (((h.same (s1.trans s2)).set j (r1.same s2)).set k r2) ((o.set hj0).set hk0)⟩
/-- the first one is the own slot's new list -/
theorem ls_parF (hc : X.calm = true) (hN : X.N.Nodup) (ha : FX C X a f) (hb : PX C X b g) (hk0 : k ≠ i := by decide) (hi : X.N[i]? = some x := by rfl) (hj : X.N[k]? = some y := by rfl) (hij : i ≠ k := by decide)
    (hx : X.env.scope.names.lookup x = some .local := by rfl) (hy : X.env.scope.names.lookup y = some .local := by rfl)
    (hs1 : starEach [a, b] X.env = (false, eval a X.env) :: starEach [b] X.env := by rfl) (hs2 : starEach [b] X.env = (false, eval b X.env) :: starEach [] X.env := by rfl)
    (hw : swappedStores [.Tuple [.Name x px, .Name y py] kt pt] (.Tuple [a, b] k2 pt2) X.env = pure (some [x, y]) := by rfl)
    (hs : swapsWithSole [.Tuple [.Name x px, .Name y py] kt pt] (.Tuple [a, b] k2 pt2) pos.line X.env = pure false := by rfl) :
    LS i C X (.Assign [.Tuple [.Name x px, .Name y py] kt pt] (.Tuple [a, b] k2 pt2) pos) (sPar i k f g) := by
  obtain ⟨ta, pa, ra⟩ := ha
  obtain ⟨tb, pb, rb⟩ := hb
  refine ⟨_, ps_par hc hN hi hj hij hx hy (pa_cons pa (pa_cons pb pa_nil hs2) hs1) hw hs, fun B σ H ρ r D s h o e q => ?_⟩
  unfold sPar at e
  cases e1 : f ρ with
  | none => rw [e1] at e; cases e
  | some d =>
    rw [e1] at e
    cases e2 : g ρ with
    | none => rw [e2] at e; cases e
    | some d2 =>
      rw [e2] at e
      cases e
      refine ra σ H ρ d _ h e1 fun v H1 s1 r1 nw => ?_
      refine rb σ H1 ρ d2 _ (h.same s1) e2 fun u H2 s2 r2 => ?_
      exact ⟨v, u, rfl, q _ H2 (s.trans (s1.trans s2)) (((h.same (s1.trans s2)).set i (r1.same s2)).set k r2) ((OwnL.new (new_B s nw)).set hk0)⟩
end
/-! ### several targets -/
def GL (i : Nat) (C : Addr) (X : Cx) (ts : List Expr) (is : List Nat) : Prop :=
  ∃ t, PGs X ts t ∧ ∀ B σ H ρ ds vs ρ' (Q : L2.St → Hp → Prop), SRep (cw C X) H σ ρ → OwnL B σ i → RepL (cw C X) H ds vs → setAll is ds ρ = some ρ' → (∀ σ', SRep (cw C X) H σ' ρ' → OwnL B σ' i → Q σ' H) → t vs σ H Q
theorem gl_nil : GL i C X [] [] := ⟨_, pgs_nil, fun B σ H ρ ds vs ρ' Q h o r e q => by
  cases ds with
  | nil => cases e; exact ⟨r, q σ h o⟩
  | cons _ _ => cases e⟩
theorem gl_cons {x : Str} {p : Pos} {es : List Expr} {is : List Nat} (j : Nat) (hN : X.N.Nodup) (hr : GL i C X es is) (ne : j ≠ i := by decide) (hi : X.N[j]? = some x := by rfl) (hx : Loc X.env.scope x := by first | exact Or.inl rfl | exact Or.inr rfl)
    (hf : X.fn x = true ∨ X.env.scope.names.lookup x = some .local := by first | exact .inl rfl | exact .inr rfl) (hs : (assignEach (.Name x p :: es) X.env).map (·.2) = assign (.Name x p) X.env :: (assignEach es X.env).map (·.2) := by rfl) : GL i C X (.Name x p :: es) (j :: is) := by
  obtain ⟨t, pg, r⟩ := hr
  refine ⟨_, pgs_cons (pg_name hN hi hx hf) pg hs, fun B σ H ρ ds vs ρ' Q h o rr e q => ?_⟩
  cases ds with
  | nil => cases e
  | cons d ds =>
    obtain ⟨v, r2, h1, h2, h3⟩ := rr
    exact ⟨v, r2, h1, r B _ H _ ds r2 ρ' Q (h.set j h2) (o.set ne) h3 e q⟩
theorem ls_unp {ts : List Expr} {e : Expr} {is : List Nat} {n : Nat} {f : RE} {kk : Nat} {p pos : Pos} (hc : X.calm = true) (hg : GL i C X ts is) (he : PX C X e f) (hl : is.length = n := by rfl) (hn : (assignEach ts X.env).length = n := by rfl) (hst : (assignEach ts X.env).findIdx? (·.1) = none := by rfl)
    (hs : swapsWithSole [.Tuple ts kk p] e pos.line X.env = pure false := by rfl) (hw : swappedStores [.Tuple ts kk p] e X.env = pure none := by rfl)
    (h1 : (assignEach [.Tuple ts kk p] X.env).map (·.2) = [assign (.Tuple ts kk p) X.env] := by rfl) : LS i C X (.Assign [.Tuple ts kk p] e pos) (sUnp is f) := by
  obtain ⟨t, pe, re⟩ := he
  obtain ⟨tg, pg, rg⟩ := hg
  refine ⟨_, ps_asg pe (pg_tup hc pg hn hst) hs hw h1, fun B σ H ρ a D s h o e q => ?_⟩
  unfold sUnp at e
  cases e1 : f ρ with
  | none => rw [e1] at e; cases e
  | some d =>
    rw [e1] at e
    cases e2 : tupOf d with
    | none => simp only [e2] at e; cases e
    | some l =>
      simp only [e2] at e
      cases e3 : setAll is l ρ with
      | none => rw [e3] at e; cases e
      | some ρ' =>
        rw [e3] at e
        cases e
        refine re σ H ρ d _ h e1 fun v H1 s1 r1 => ?_
        obtain ⟨b, vs, w1, w2, w3⟩ := tupOf_rep e2 r1
        exact ⟨b, vs, w1, w2, by rw [w3.length, setAll_len e3, hl], rg B σ H1 ρ l vs ρ' _ (h.same s1) o w3 e3 fun σ' h' o' => q σ' H1 (s.trans s1) h' o'⟩
/-- x, a, .. = [], e, .. : x the own slot -/
theorem ls_init {x : Str} {px0 lp : Pos} {ts : List Expr} {es : List Expr} {is : List Nat} {n : Nat} {g : RA} {kk k2 : Nat} {p p2 pos : Pos} (hc : X.calm = true) (hN : X.N.Nodup) (hg : GL i C X ts is) (he : AX C X es g) (hl : is.length + 1 = n := by rfl) (hn : (assignEach (.Name x px0 :: ts) X.env).length = n := by rfl) (hst : (assignEach (.Name x px0 :: ts) X.env).findIdx? (·.1) = none := by rfl)
    (hi : X.N[i]? = some x := by rfl) (hx : Loc X.env.scope x := by first | exact Or.inl rfl | exact Or.inr rfl) (hf : X.fn x = true ∨ X.env.scope.names.lookup x = some .local := by first | exact .inl rfl | exact .inr rfl)
    (hsn : (assignEach (.Name x px0 :: ts) X.env).map (·.2) = assign (.Name x px0) X.env :: (assignEach ts X.env).map (·.2) := by rfl)
    (hs0 : starEach (.List [] lp :: es) X.env = (false, eval (.List [] lp) X.env) :: starEach es X.env := by rfl)
    (hs : swapsWithSole [.Tuple (.Name x px0 :: ts) kk p] (.Tuple (.List [] lp :: es) k2 p2) pos.line X.env = pure false := by rfl) (hw : swappedStores [.Tuple (.Name x px0 :: ts) kk p] (.Tuple (.List [] lp :: es) k2 p2) X.env = pure none := by rfl)
    (h1 : (assignEach [.Tuple (.Name x px0 :: ts) kk p] X.env).map (·.2) = [assign (.Tuple (.Name x px0 :: ts) kk p) X.env] := by rfl) :
    LS i C X (.Assign [.Tuple (.Name x px0 :: ts) kk p] (.Tuple (.List [] lp :: es) k2 p2) pos) (sUnp (i :: is) (eA mkTup (aCons (eA mkLst aNil) g))) := by
  obtain ⟨ta, pa, ra⟩ := he
  obtain ⟨tg, pg, rg⟩ := hg
  refine ⟨_, ps_asg (pe_tup (pa_cons (pe_lst pa_nil) pa hs0)) (pg_tup hc (pgs_cons (pg_name hN hi hx hf) pg hsn) hn hst) hs hw h1, fun B σ H ρ a D0 s h o e q => ?_⟩
  unfold sUnp at e
  cases e1 : eA mkTup (aCons (eA mkLst aNil) g) ρ with
  | none => rw [e1] at e; cases e
  | some d =>
    rw [e1] at e
    obtain ⟨ds0, e4, e5⟩ := eA_some e1
    unfold aCons at e4
    have e6 : eA mkLst aNil ρ = some (.lst []) := rfl
    rw [e6] at e4
    cases e7 : g ρ with
    | none => rw [e7] at e4; cases e4
    | some ds =>
      rw [e7] at e4
      cases e4
      obtain ⟨e8, e9⟩ := cond_some e5
      have e10 : d = .tupx (.lst [] :: ds) := by
        have : cnd ((D.lst [] :: ds).all dat1) (some (D.tup (.lst [] :: ds))) (some (D.tupx (.lst [] :: ds))) = some d := e9
        rw [show (D.lst [] :: ds).all dat1 = false from rfl] at this
        cases this
        rfl
      subst e10
      have e' : (match setAll (i :: is) (.lst [] :: ds) ρ with
        | some ρ' => some (R.nx ρ')
        | none => none) = some a := e
      cases e3 : setAll (i :: is) (.lst [] :: ds) ρ with
      | none => rw [e3] at e'; cases e'
      | some ρ' =>
        rw [e3] at e'
        cases e'
        refine ⟨Nat.zero_le _, fun b hb => ?_⟩
        have s1 : Same H (upd H b (.lst [])) := same_new hb
        refine ra σ _ ρ ds _ (h.same s1) e7 fun vs H2 s2 r2 => ?_
        have hz : (V.ref b :: vs).length ≤ sizeLine := by
          rw [List.length_cons, r2.length]
          exact small4 e8
        refine ⟨hz, fun T hT => ?_⟩
        have s3 := (s1.trans s2).trans (same_new (o := .tup (V.ref b :: vs)) hT)
        have rb : Rep (cw C X) (upd H2 T (.tup (V.ref b :: vs))) (.lst []) (.ref b) := Rep.same ((s2.trans (same_new hT))) (.lst []) ⟨b, [], rfl, upd_same, rfl, rfl⟩
        refine ⟨T, V.ref b :: vs, rfl, SqT.of upd_same, ?_, V.ref b, vs, rfl, ?_⟩
        · have := setAll_len e3
          rw [List.length_cons, r2.length]
          rw [List.length_cons, List.length_cons] at this
          omega
        · have own : OwnL B (σ.set i (some (V.ref b))) i := OwnL.new (new_B s fun a ea => by cases ea; exact hb)
          exact rg B _ _ (ρ.set i (some (.lst []))) ds vs ρ' _ ((h.same s3).set i rb) own (r2.same (same_new hT)) e3 fun σ' h' o' => q σ' _ (s.trans s3) h' o'
/-! ### new lists -/
theorem fx_nil {pos : Pos} : FX C X (.List [] pos) (eA mkLst aNil) := by
  refine ⟨_, pe_lst pa_nil, fun σ H ρ d Q h e q => ?_⟩
  cases e
  exact ⟨Nat.zero_le _, fun p hp => q _ _ (same_new hp) ⟨p, [], rfl, upd_same, rfl, rfl⟩ fun a ea => by cases ea; exact hp⟩
theorem fx_nilX {pos : Pos} : FX C X (.List [] pos) (eA mkLstX aNil) := by
  refine ⟨_, pe_lst pa_nil, fun σ H ρ d Q h e q => ?_⟩
  cases e
  exact ⟨Nat.zero_le _, fun p hp => q _ _ (same_new hp) ⟨p, [], rfl, upd_same, rfl⟩ fun a ea => by cases ea; exact hp⟩
/-- + of two lists -/
theorem fx_add {a b : Expr} {f g : RE} {pos : Pos} (ha : PX C X a f) (hb : PX C X b g) : FX C X (.BinOp a .Add b pos) (o2 dAddL f g) := by
  obtain ⟨ta, pa, ra⟩ := ha
  obtain ⟨tb, pb, rb⟩ := hb
  refine ⟨_, pe_op op_cat pa pb, fun σ H ρ d Q h e q => ?_⟩
  obtain ⟨x, y, e1, e2, e3⟩ := o2_some e
  cases x with
  | lst l =>
    refine ra σ H ρ _ _ h e1 fun vx H1 s1 r1 => rb σ H1 ρ y _ (h.same s1) e2 fun vy H2 s2 r2 => ?_
    cases y with
    | lst b =>
      obtain ⟨p, vs, h1, h2, h3, h4⟩ := r1.same s2
      obtain ⟨p', vs', h1', h2', h3', h4'⟩ := r2
      obtain ⟨z1, z2⟩ := mkLst_rep (c := cw C X) (H := H2) e3 (h3.append h3')
      rw [List.length_append] at z1
      have s12 := s1.trans s2
      refine ⟨p, p', vs, vs', h1, h1', h2, h2', z1, fun l hl => q _ _ (s12.trans (same_new hl)) (z2 l hl) fun a ea => ?_⟩
      cases ea
      cases hh : H l with
      | none => rfl
      | some u =>
        have := s12 _ _ hh
        rw [hl] at this
        cases this
    | _ => cases e3
  | _ => cases e3
/-! ### append -/
theorem sApp_some {i : Nat} {f : RE} {ρ : Rho} {a : R} (e : sApp i f ρ = some a) : ∃ l d xs l', getR ρ i = some l ∧ f ρ = some d ∧ lstOf l = some xs ∧ xs.length ≤ 4095 ∧ okApp i ρ = true ∧ noL d = true ∧ a = .nx (ρ.set i (some l')) ∧
    ((l = .lst xs ∧ l' = .lst (xs ++ [d]) ∧ dat1 d = true) ∨ (l = .lstx xs ∧ l' = .lstx (xs ++ [d]) ∧ xs.all noL = true)) := by
  unfold sApp at e
  cases e1 : getR ρ i with
  | none => rw [e1] at e; cases e
  | some l =>
    rw [e1] at e
    cases e2 : f ρ with
    | none => simp only [e2] at e; cases e
    | some d =>
      simp only [e2] at e
      cases e3 : lstOf l with
      | none => simp only [e3] at e; cases e
      | some xs =>
        simp only [e3] at e
        obtain ⟨z1, e⟩ := cond_some e
        obtain ⟨z2, e⟩ := cond_some e
        obtain ⟨z3, e⟩ := cond_some e
        cases l with
        | lst l =>
          cases e3
          obtain ⟨z4, e⟩ := cond_some (show cnd (dat1 d) (some (R.nx (ρ.set i (some (.lst (xs ++ [d])))))) none = some a from e)
          cases e
          exact ⟨_, d, xs, _, rfl, rfl, rfl, Nat.le_of_ble_eq_true z1, z2, z3, rfl, .inl ⟨rfl, rfl, z4⟩⟩
        | lstx l =>
          cases e3
          obtain ⟨z4, e⟩ := cond_some (show cnd (xs.all noL) (some (R.nx (ρ.set i (some (.lstx (xs ++ [d])))))) none = some a from e)
          cases e
          exact ⟨_, d, xs, _, rfl, rfl, rfl, Nat.le_of_ble_eq_true z1, z2, z3, rfl, .inr ⟨rfl, rfl, z4⟩⟩
        | _ => cases e3
theorem noL_of {d : D} (h : dat1 d = true) : noL d = true := by cases d <;> first | exact h | cases h
theorem tyV_lst {K : PySem.W.Frag} {H : Hp} {b : Addr} {vs : List V} (h : H b = some (.lst vs)) : tyV K "list" (.ref b) H := .inl ⟨rfl, vs, SqL.of h⟩
theorem ls_app {x : Str} {e : Expr} {f : RE} {np apos cpos pos : Pos} (he : PX C X e f) (hx : PE X (.Name x np) (tVar i))
    (hbase : attributeBase (.Name x np) "append" X.env (eval (.Name x np) X.env) = eval (.Name x np) X.env := by rfl)
    (hfew : ((backTo cpos (starEach [e] X.env)).all (fun x => !x.1) && (backToKw cpos (keywordEach [] X.env)).all (fun x => x.1.isSome)
      && decide (([e] : List Expr).length + ([] : List Keyword).length + (if ([] : List Keyword).isEmpty then 0 else 1) < 30)) = true := by rfl)
    (hline : (apos.endLine == cpos.line) = true := by rfl) (hs : starEach [e] X.env = (false, eval e X.env) :: starEach [] X.env := by rfl) (hplain : (backTo cpos (starEach [] X.env)).any (·.1) = false := by rfl)
    (hsw : swapsWith (.Call (.Attribute (.Name x np) "append" apos) [e] [] cpos) none pos.line X.env = pure false := by rfl) : LS i C X (.Expr (.Call (.Attribute (.Name x np) "append" apos) [e] [] cpos) pos) (sApp i f) := by
  obtain ⟨te, pe, re⟩ := he
  refine ⟨_, ps_expr (pe_bm PySem.F.plainAttrs_list PySem.F.slot_list_append PySem.F.type_list_append mt_append hx (pa_cons pe pa_nil hs) hbase hfew hline hs hplain) hsw, fun B σ H ρ a D0 s h o e q => ?_⟩
  obtain ⟨l0, d, xs, l1, e1, e2, e3, e4, e5, e6, e7, e8⟩ := sApp_some e
  subst e7
  obtain ⟨v, w1, w2⟩ := h.2 i l0 (getR_some e1)
  obtain ⟨b, vs, w3, w4, w5⟩ := lstOf_rep e3 w2
  subst w3
  refine ⟨V.ref b, w1, tyV_lst w4, re σ H ρ d _ h e2 fun u H2 s2 r2 => ?_⟩
  have hb2 : H2 b = some (.lst vs) := s2 _ _ w4
  have hB : B b = none := o b w1
  have sB : Same B (upd H2 b (.lst (vs ++ [u]))) := fun c uu ec => by
    rw [upd_ne (ne_of_none ec hB)]
    exact s2 _ _ (s _ _ ec)
  have r3 : Rep (cw C X) (upd H2 b (.lst (vs ++ [u]))) d u := noL_upl hb2 e6 r2
  refine ⟨b, vs, u, rfl, rfl, hb2, by rw [w5.length, sizeLine_eq]; omega, ?_⟩
  refine q _ _ sB ⟨by simpa using h.1, fun j dj ej => ?_⟩ o
  by_cases hj : j = i
  · subst hj
    have hlt : j < ρ.length := (List.getElem?_eq_some_iff.mp (getR_some e1)).1
    rw [List.getElem?_set_self hlt] at ej
    cases ej
    refine ⟨V.ref b, w1, ?_⟩
    rcases e8 with ⟨z1, z2, z3⟩ | ⟨z1, z2, z3⟩
    · subst z1 z2
      obtain ⟨b2, vs2, y1, y2, y3, y4⟩ := w2
      cases y1
      have hall : xs.all noL = true := List.all_eq_true.mpr fun z hz => noL_of (List.all_eq_true.mp y4 z hz)
      refine ⟨b, vs ++ [u], rfl, upd_same, (noLs_upl hb2 hall (w5.same s2)).append ⟨u, [], rfl, r3, rfl⟩, ?_⟩
      rw [List.all_append, y4, List.all_cons, z3]
      rfl
    · subst z1 z2
      exact ⟨b, vs ++ [u], rfl, upd_same, (noLs_upl hb2 z3 (w5.same s2)).append ⟨u, [], rfl, r3, rfl⟩⟩
  · rw [List.getElem?_set_ne (Ne.symm hj)] at ej
    obtain ⟨v2, z1, z2⟩ := h.2 j dj ej
    exact ⟨v2, z1, noL_upl hb2 (okApp_at e5 hj ej) (z2.same s2)⟩
end
/-! ### for over scalars beside an own list -/
section
variable {C : Addr} {X : Cx} {i : Nat}
theorem sForL_some {A : D → Rho → Option Rho} {l : RA} {f : RS} {ρ : Rho} {r : R} (e : sForL i A l f ρ = some r) : ∃ l0 ds, getR ρ i = some l0 ∧ lstOf l0 = some [] ∧ l ρ = some ds ∧ ds ≠ [] ∧ ds.all isSc = true ∧ forD A f ds ρ = some r := by
  unfold sForL at e
  cases e1 : getR ρ i with
  | none => rw [e1] at e; cases e
  | some l0 =>
    rw [e1] at e
    cases e2 : lstOf l0 with
    | none => simp only [e2] at e; cases e
    | some xs =>
      simp only [e2] at e
      cases xs with
      | cons _ _ => cases e
      | nil =>
        cases e3 : l ρ with
        | none => simp only [e3] at e; cases e
        | some ds =>
          simp only [e3] at e
          cases ds with
          | nil => cases e
          | cons d ds =>
            obtain ⟨z1, z2⟩ := cond_some e
            exact ⟨l0, _, rfl, e2, rfl, List.cons_ne_nil _ _, z1, z2⟩
def iAny (K : PySem.W.Frag) (tl : TE) : TI := fun σ H Rr => iList K tl σ H Rr ∨ iTup K tl σ H Rr
theorem pi_any {tg l : Expr} {tl : TE} (hl : PE X l tl) : PI X tg l (iAny X.K tl) :=
  ⟨fun pins s σ H Rr I h => h.elim ((pi_list hl).run pins s σ H Rr I) ((pi_tup hl).run pins s σ H Rr I)⟩
/-- one heap without the address a -/
def hide (a : Addr) (H : Hp) : Hp := fun b => if b = a then none else H b
theorem hide_le {a : Addr} {H : Hp} : Same (hide a H) H := fun b u e => by
  unfold hide at e
  split at e
  · cases e
  · exact e
theorem hide_at {a b : Addr} {H : Hp} (h : b ≠ a) : hide a H b = H b := if_neg h
theorem ls_for {x : Str} {p : Pos} {iter : Expr} {body : List Stmt} {g : RE} {f : RS} {pos : Pos} (j : Nat) (hp : PassesOwn (model X.prog X.w) X.A X.env X.xe) (hc : X.calm = true) (hN : X.N.Nodup) (hi : PX C X iter g) (hb : LB i C X body f) (ne : j ≠ i := by decide)
    (hj : X.N[j]? = some x := by rfl) (hx : Loc X.env.scope x := by first | exact Or.inl rfl | exact Or.inr rfl) (hf : X.fn x = true ∨ X.env.scope.names.lookup x = some .local := by first | exact .inl rfl | exact .inr rfl)
    (hs : ∀ x, foldedSetIterable iter X.env x = pure x := by intro _; rfl) : LS i C X (.For (.Name x p) iter body [] pos) (sForL i (aName j) (seqAny g) f) := by
  obtain ⟨ti, pi, ri⟩ := hi
  obtain ⟨tb, pb, rb⟩ := hb
  refine ⟨_, ps_for hp hc (pi_any pi) (pg_name hN hj hx hf) pb hs, fun B σ H ρ r D0 s h o e q => ?_⟩
  obtain ⟨l0, ds, e1, e2, e3, e4, e5, e6⟩ := sForL_some e
  obtain ⟨v0, w1, w2⟩ := h.2 i l0 (getR_some e1)
  obtain ⟨a, vs0, w3, w4, w5⟩ := lstOf_rep e2 w2
  subst w3
  have hB : B a = none := o a w1
  -- the walk, once the items are known
  have core : ∀ {J : It} {n : Nat} {G : Hp → Prop} {Y : Nat → Hp → V → Hp → Prop} {H1 : Hp}, Same H H1 → Walk J n G Y → n = ds.length → (∀ H', Same (hide a H1) H' → G H') →
      (∀ (k : Nat) H' x H'', k < n → Y k H' x H'' → H'' = H' ∧ ∃ d, ds[k]? = some d ∧ Rep (cw C X) H'' d x) →
      ∃ W : Nat → Nat → L2.St → Hp → Prop, (∃ m, W 0 m σ H1) ∧ ∀ k m σ H, W k m σ H →
      (J.stop k H ∧ D0.nx σ H) ∨ (J.go k H ∧ ∃ N : L2.St → Hp → Prop, (∀ σ' H', N σ' H' → ∃ m', m' < m ∧ W (k + 1) m' σ' H') ∧ ∀ x H', J.yld k H x H' → gName j x σ H' fun σ2 H2 => tb { D0 with nx := N, ct := N, bk := D0.nx } σ2 H2) := by
    intro J n G Y H1 s1 w hn hG hY
    subst hn
    have back : ∀ {H' : Hp}, Same (hide a H1) H' → Same B H' := fun s2 b u eb => s2 b u (by rw [hide_at (ne_of_none eb hB)]; exact s1 _ _ (s _ _ eb))
    have backO : ∀ {σ' : L2.St}, OwnL (hide a H1) σ' i → OwnL B σ' i := fun o' b eb => by
      cases hb : B b with
      | none => rfl
      | some u =>
        have z := o' b eb
        rw [hide_at (ne_of_none hb hB), s1 _ _ (s _ _ hb)] at z
        cases z
    have backB : ∀ {b : Addr}, hide a H1 b = none → B b = none := fun {b} eb => by
      cases hb : B b with
      | none => rfl
      | some u =>
        rw [hide_at (ne_of_none hb hB), s1 _ _ (s _ _ hb)] at eb
        cases eb
    refine for_it w (fun k σ' H' => ∃ ρ', Same (hide a H1) H' ∧ SRep (cw C X) H' σ' ρ' ∧ OwnL (hide a H1) σ' i ∧ forD (aName j) f (ds.drop k) ρ' = some r)
      ⟨ρ, hide_le, h.same s1, fun b eb => by rw [w1] at eb; cases eb; exact if_pos rfl, by rw [List.drop_zero]; exact e6⟩ (fun k σ' H' _ ⟨_, s2, _⟩ => hG H' s2) ?_ ?_
    · rintro k x σ1 H2 H3 hk ⟨ρ1, s2, h1, o1, e7⟩ y
      obtain ⟨rfl, d, hd, rd⟩ := hY k H2 x H3 hk y
      rw [dropD_at ds k d hd] at e7
      have e7' : (match f (ρ1.set j (some d)) with
        | some (.nx ρ2) => forD (aName j) f (ds.drop (k + 1)) ρ2
        | some (.ct ρ2) => forD (aName j) f (ds.drop (k + 1)) ρ2
        | some (.bk ρ2) => some (.nx ρ2)
        | r => r) = some r := e7
      cases e8 : f (ρ1.set j (some d)) with
      | none => rw [e8] at e7'; cases e7'
      | some b =>
        rw [e8] at e7'
        refine rb (hide a H1) _ _ _ b _ s2 (h1.set j rd) (o1.set ne) e8 ?_
        cases b with
        | nx ρ3 => exact fun σ3 H4 s3 h3 o3 => ⟨ρ3, s3, h3, o3, e7'⟩
        | ct ρ3 => exact fun σ3 H4 s3 h3 o3 => ⟨ρ3, s3, h3, o3, e7'⟩
        | bk ρ3 => cases e7'; exact fun σ3 H4 s3 h3 o3 => q σ3 H4 (back s3) h3 (backO o3)
        | rt d3 => cases e7'; exact fun v H4 s3 r3 nw => q v H4 (back s3) r3 fun z a ea => backB (nw z a ea)
    · rintro σ1 H2 ⟨ρ1, s2, h1, o1, e7⟩
      rw [List.drop_length] at e7
      cases e7
      exact q σ1 H2 (back s2) h1 (backO o1)
  have len0 : vs0 = [] := w5
  subst len0
  have items : ∀ {vs : List V} {H1 : Hp} (k : Nat) (H' : Hp) (x : V) (H'' : Hp), RepL (cw C X) H1 ds vs → k < vs.length → (H'' = H' ∧ vs[k]? = some x) → H'' = H' ∧ ∃ d, ds[k]? = some d ∧ Rep (cw C X) H'' d x := by
    rintro vs H1 k H' x H'' rl hk ⟨rfl, y⟩
    have hk2 : k < ds.length := by rw [← rl.length]; exact hk
    obtain ⟨v2, z1, z2⟩ := rl.get (i := k) (d := ds[k]) (by simp [hk2])
    rw [y] at z1
    cases z1
    exact ⟨rfl, ds[k], by simp [hk2], rep_sc (List.all_eq_true.mp e5 _ (List.getElem_mem hk2)) z2⟩
  unfold seqAny at e3
  split at e3
  · rename_i l eg
    cases e3
    refine .inr (ri σ H ρ _ _ h eg fun v H1 s1 r1 => ?_)
    obtain ⟨b, vs, h1, h2, h3, h4⟩ := r1
    have nab : SqT X.K (hide a H1) b vs := by
      have w4' := s1 _ _ w4
      rcases h2 with (h2 | ⟨ob, h2⟩) | h2
      · exact .inl (.inl (by rw [hide_at (fun z => by rw [z, w4'] at h2; cases h2)]; exact h2))
      · exact .inl (.inr ⟨ob, by rw [hide_at (fun z => by rw [z, w4'] at h2; cases h2)]; exact h2⟩)
      · exact .inr h2
    exact ⟨b, h1, ⟨vs, h2⟩, core s1 (walk_tup (a := b) (xs := vs)) h3.length (fun H' s2 => SqT.same s2 nab) fun k H' x H'' hk y => items k H' x H'' h3 hk y⟩
  · rename_i l eg
    cases e3
    refine .inl (ri σ H ρ _ _ h eg fun v H1 s1 r1 => ?_)
    obtain ⟨b, vs, h1, h2, h3, h4⟩ := r1
    have nab : b ≠ a := fun z => by
      rw [z, s1 _ _ w4] at h2
      cases h2
      have := h3.length
      exact e4 (List.length_eq_zero_iff.mp this.symm)
    exact ⟨b, h1, ⟨vs, SqL.of h2⟩, core s1 (walk_list (K := X.K) (a := b) (xs := vs)) h3.length (fun H' s2 => SqL.of (s2 _ _ (by rw [hide_at nab]; exact h2))) fun k H' x H'' hk y => items k H' x H'' h3 hk y⟩
  · cases e3
end
/-! ### a def whose body keeps a list of its own -/
/-- a promise by data; a list of anything is new -/
def spMF (c : Cw) (m : List D → Option D) : Sp := fun vs H Q _ => ∃ ds d, RepL c H ds vs ∧ m ds = some d ∧ ∀ v H', Same H H' → Rep c H' d v → (isLx d = true → ∀ a, v = .ref a → H a = none) → Q v H'
theorem runF_readF {c : Cw} {n z i : Nat} {b : RS} {N : List Str} {vs : List V} {H : Hp} {Q : VK} {t : TS} (hN : N.length = n + z) (hi : n ≤ i)
    (rd : ∀ B σ H ρ r (D : Ends), Same B H → SRep c H σ ρ → OwnL B σ i → b ρ = some r → AftL c i B D r → t D σ H) (h : spMF c (runF n z b) vs H Q E0) : t { nx := fun _ H' => Q .non H', rt := Q } (L2.start N vs) H := by
  obtain ⟨ds, d, r, e, q⟩ := h
  obtain ⟨e1, e2⟩ := runF_some e
  have s := start_rep (N := N) (z := z) r e1 hN
  have o : OwnL H (L2.start N vs) i := fun a ea => by
    unfold L2.start at ea
    rw [List.getElem?_append_right (by rw [List.length_map, r.length, e1]; exact hi), List.getElem?_replicate] at ea
    split at ea <;> cases ea
  rcases e2 with e2 | ⟨⟨ρ, e2⟩, rfl⟩
  · exact rd H _ H _ _ _ (Same.refl H) s o e2 q
  · exact rd H _ H _ _ { nx := fun _ H' => Q .non H', rt := Q } (Same.refl H) s o e2 (fun σ' H' s' _ _ => q _ H' s' rfl fun z => by cases z)
structure FnF (P : Program) (w : World) (K : PySem.W.Frag) (mg : Str → Option Value) (base : Heap) (C : Addr) (k : Nat) (x : Str) (m : List D → Option D) : Prop where
  ex : ∃ f, FnR P w K mg base L2.CX0 k f (spMF ⟨C, K, w⟩ m) ∧ mg x = some (.ref f) ∧ PySem.W.keepIn K (.ref f) = true
section
variable {P : Program} {w : World} {K : PySem.W.Frag} {mg : Str → Option Value} {base : Heap} {C : Addr}
theorem fncF (i : Nat) {x : Str} {st : Stmt} {N ps : List Str} {k n z : Nat} {b : RS} (d : DfC K mg x st) (S : FnScope N ps (defScope st)) (hn : ps.length = n) (hN : N.length = n + z) (hi : n ≤ i) (hbi : BindsAll x x st ps)
    (hb : ∀ (f : Addr) (cdv : Value) (A : Around) (outer : List Env) (s : Shared) (H : Hp) (E : XK), Room k (A.deeper (envOfC x (defScope st) s.heap.objs.size f cdv)) → LB i C (CxD P w K mg base N x (defScope st) f cdv A outer s H E) (defBody st) b) :
    FnF P w K mg base C (k + 1) x (runF n z b) := by
  obtain ⟨f, fd, F, hm⟩ := d.ex
  have ok : FnOk P w K mg base L2.CX0 (k + 1) f fd ps (spMF ⟨C, K, w⟩ (runF n z b)) := by
    refine F.ok S (fun vs H Q E h => ?_) fun cdv A outer s H vs Q E hr h => ?_
    · obtain ⟨ds, d, r, e, q⟩ := h
      rw [r.length, (runF_some e).1, hn]
    · obtain ⟨t, pt, rd⟩ := hb f cdv A outer s H E hr
      exact ⟨t, PSs.nox pt, runF_readF hN hi rd h⟩
  exact ⟨f, FnOk.all ok (F.bindsN hbi), hm, F.kp⟩
theorem FnF.c {k : Nat} {x : Str} {m : List D → Option D} (F : FnF P w K mg base C k x m) : FnC P w K mg base C k x m := by
  obtain ⟨f, F, r⟩ := F.ex
  exact ⟨f, F.imp fun vs H Q E h => (by obtain ⟨ds, d, r, e, q⟩ := h; exact ⟨ds, d, r, e, fun v H' s' r' _ => q v H' s' r'⟩), r⟩
theorem fncL (i : Nat) {x : Str} {st : Stmt} {N ps : List Str} {k n z : Nat} {b : RS} (d : DfC K mg x st) (S : FnScope N ps (defScope st)) (hn : ps.length = n) (hN : N.length = n + z) (hi : n ≤ i) (hbi : BindsAll x x st ps)
    (hb : ∀ (f : Addr) (cdv : Value) (A : Around) (outer : List Env) (s : Shared) (H : Hp) (E : XK), Room k (A.deeper (envOfC x (defScope st) s.heap.objs.size f cdv)) → LB i C (CxD P w K mg base N x (defScope st) f cdv A outer s H E) (defBody st) b) :
    FnC P w K mg base C (k + 1) x (runF n z b) := (fncF i d S hn hN hi hbi hb).c
end
/-! ### a call whose list is new -/
section
variable {C : Addr} {X : Cx}
def onlyF : D → Option D
  | .str s => some (.str s)
  | .lstx l => some (.lstx l)
  | _ => none
theorem fx_call {k j : Nat} {x : Str} {m : List D → Option D} {p pos : Pos} {e : Expr} {es : List Expr} {f : RA} (F : FnF X.prog X.w X.K X.mg X.base C k x m) (hr : Room j X.A) (hk : k ≤ j) (ha : AX C X (e :: es) f) (hg : Gl X x := by rfl)
    (hd : (x == ("__debug__" : Str)) = false := by decide) (he : starEach (e :: es) X.env = (false, eval e X.env) :: starEach es X.env := by rfl) (hpl : (backTo pos (starEach es X.env)).any (·.1) = false := by rfl) :
    FX C X (.Call (.Name x p) (e :: es) [] pos) (e1 onlyF (eA m f)) := by
  obtain ⟨fa, F, hm, kp⟩ := F.ex
  obtain ⟨t, pa, ra⟩ := ha
  refine ⟨fun σ H Q => t σ H fun vs H1 => spMF (cw C X) m vs H1 Q E0, ⟨fun pins s σ H Q I h => ?_⟩, fun σ H ρ d Q h e q => ?_⟩
  · refine wpAny_Call_Name_kw (ld_glob I hg hm ?_ hd)
    refine PySem.W.callWith_K (h₀ := X.base) I.ok.mod.kin kp (thn (pa.run pos pins s σ H _ I h) fun us s1 ⟨vs, H1, I1, r, q⟩ => ⟨I1.kIn, ?_⟩) he hpl
    exact wpAny_call (run_fnR F (hr.mono hk) pass0 I1 r q)
  · obtain ⟨d0, ea, eb⟩ := e1_some e
    obtain ⟨ds, e1, e2⟩ := eA_some ea
    refine ra σ H ρ ds _ h e1 fun vs H1 s1 r1 => ⟨ds, d0, r1, e2, fun v H2 s2 r2 nw => ?_⟩
    cases d0 with
    | str s => cases eb; exact q v H2 (s1.trans s2) r2 fun a ea => by rw [r2.1] at ea; cases ea
    | lstx l =>
      cases eb
      exact q v H2 (s1.trans s2) r2 fun a ea => by
        cases hh : H a with
        | none => rfl
        | some u =>
          have := s1 _ _ hh
          rw [nw rfl a ea] at this
          cases this
    | _ => cases eb
theorem fx_lstX {es : List Expr} {f : RA} {pos : Pos} (h : AX C X es f) : FX C X (.List es pos) (eA mkLstX f) := by
  obtain ⟨t, p, r⟩ := h
  refine ⟨_, pe_lst p, fun σ H ρ d Q h e q => ?_⟩
  obtain ⟨ds, e1, e2⟩ := eA_some e
  refine r σ H ρ ds _ h e1 fun vs H1 s1 r1 => ?_
  obtain ⟨e3, e4⟩ := cond_some e2
  cases e4
  refine ⟨by rw [r1.length]; exact small4 e3, fun p hp => q _ _ (s1.trans (same_new hp)) ⟨p, vs, rfl, upd_same, r1.same (same_new hp)⟩ fun a ea => ?_⟩
  cases ea
  cases hh : H p with
  | none => rfl
  | some u =>
    have := s1 _ _ hh
    rw [hp] at this
    cases this
theorem fx_ifExp {c a b : Expr} {t : RT} {f g : RE} {pos : Pos} (hc : TX C X c t) (ha : FX C X a f) (hb : FX C X b g) : FX C X (.IfExp c a b pos) (ifE t f g) := by
  obtain ⟨tc, pc, rc⟩ := hc
  obtain ⟨ta, pa, ra⟩ := ha
  obtain ⟨tb, pb, rb⟩ := hb
  have up : ∀ {H H1 : Hp} {v : V}, Same H H1 → (∀ a, v = .ref a → H1 a = none) → ∀ a, v = .ref a → H a = none := fun s1 nw a ea => by
    cases hh : (_ : Hp) a with
    | none => exact hh
    | some u =>
      have := s1 _ _ hh
      rw [nw a ea] at this
      cases this
  refine ⟨_, pe_ifExp pc pa pb, fun σ H ρ d Q h e q => ?_⟩
  unfold ifE at e
  split at e
  · rename_i e1
    refine rc σ H ρ true _ h e1 fun H1 s1 => ?_
    rw [if_pos rfl]
    exact ra σ H1 ρ d _ (h.same s1) e fun v H2 s2 r2 nw => q v H2 (s1.trans s2) r2 (up s1 nw)
  · rename_i e1
    refine rc σ H ρ false _ h e1 fun H1 s1 => ?_
    rw [if_neg Bool.false_ne_true]
    exact rb σ H1 ρ d _ (h.same s1) e fun v H2 s2 r2 nw => q v H2 (s1.trans s2) r2 (up s1 nw)
  · cases e
end
end
end Rp
set_option Elab.async false
set_option linter.all false
set_option maxRecDepth 100000
set_option maxHeartbeats 1000000
namespace Rp
noncomputable section
open PySem PySem.Spec PyProof.Rows L2 SX
/-! ### what does not lean on an object that changes -/
structure Big (o : HO) : Prop where
  t : ∀ u, o ≠ .tup u
  f : ∀ ob u, o ≠ .frz ob u
  i : ∀ C dx fs, o ≠ .ins C dx fs
theorem big_lst {xs : List V} : Big (.lst xs) := ⟨fun _ z => (by cases z), fun _ _ z => (by cases z), fun _ _ _ z => (by cases z)⟩
theorem big_dK {xs : List (Key × V)} : Big (.dK xs) := ⟨fun _ z => (by cases z), fun _ _ z => (by cases z), fun _ _ _ z => (by cases z)⟩
theorem SqT.hide {K : PySem.W.Frag} {H : Hp} {a b : Addr} {o : HO} {vs : List V} (ha : H a = some o) (ho : Big o) (h : SqT K H b vs) : SqT K (hide a H) b vs := by
  rcases h with (h | ⟨ob, h⟩) | h
  · exact .inl (.inl (by rw [hide_at (fun z => by rw [z, ha] at h; exact ho.t _ (Option.some.inj h))]; exact h))
  · exact .inl (.inr ⟨ob, by rw [hide_at (fun z => by rw [z, ha] at h; exact ho.f _ _ (Option.some.inj h))]; exact h⟩)
  · exact .inr h
mutual
theorem Rep.hide {c : Cw} {H : Hp} {a : Addr} {o : HO} (ha : H a = some o) (ho : Big o) : ∀ (d : D) {v : V}, dat1 d = true → Rep c H d v → Rep c (Rp.hide a H) d v
  | .non, v, _, h => h
  | .bl _, v, _, h => h
  | .int _, v, _, h => h
  | .str _, v, _, h => h
  | .tup ds, v, _, h => by
    obtain ⟨b, vs, h1, h2, h3, h4⟩ := h
    exact ⟨b, vs, h1, SqT.hide ha ho h2, RepL.hide ha ho ds h4 h3, h4⟩
  | .tupx _, v, e, _ => by cases e
  | .lst _, v, e, _ => by cases e
  | .lstx _, v, e, _ => by cases e
  | .st .., v, e, _ => by cases e
  | .dic _, v, e, _ => by cases e
theorem RepL.hide {c : Cw} {H : Hp} {a : Addr} {o : HO} (ha : H a = some o) (ho : Big o) : ∀ (d : List D) {v : List V}, d.all dat1 = true → RepL c H d v → RepL c (Rp.hide a H) d v
  | [], v, _, h => h
  | d :: ds, v, e, h => by
    obtain ⟨x, r, h1, h2, h3⟩ := h
    have e2 : (dat1 d && ds.all dat1) = true := e
    obtain ⟨e3, e4⟩ := Bool.and_eq_true_iff.mp e2
    exact ⟨x, r, h1, Rep.hide ha ho d e3 h2, RepL.hide ha ho ds e4 h3⟩
end
theorem noL1_hide {c : Cw} {H : Hp} {a : Addr} {o : HO} (ha : H a = some o) (ho : Big o) {d : D} {v : V} (e : noL1 d = true) (r : Rep c H d v) : Rep c (hide a H) d v := by
  cases d with
  | st l g f p t =>
    obtain ⟨e1, e⟩ := cnd_and e
    obtain ⟨e2, e⟩ := cnd_and e
    obtain ⟨e3, e⟩ := cnd_and e
    obtain ⟨e4, e5⟩ := cnd_and e
    obtain ⟨b, dx, vl, vg, vf, vp, vt, h1, h2, h3, h4, h5, h6, h7⟩ := r
    exact ⟨b, dx, vl, vg, vf, vp, vt, h1, by rw [hide_at (fun z => by rw [z, ha] at h2; exact ho.i _ _ _ (Option.some.inj h2))]; exact h2, Rep.hide ha ho l e1 h3, Rep.hide ha ho g e2 h4, Rep.hide ha ho f e3 h5, Rep.hide ha ho p e4 h6, Rep.hide ha ho t e5 h7⟩
  | tupx _ => cases e
  | lst _ => cases e
  | lstx _ => cases e
  | dic _ => cases e
  | non => exact Rep.hide ha ho _ e r
  | bl _ => exact Rep.hide ha ho _ e r
  | int _ => exact Rep.hide ha ho _ e r
  | str _ => exact Rep.hide ha ho _ e r
  | tup _ => exact Rep.hide ha ho _ e r
theorem noL1s_hide {c : Cw} {H : Hp} {a : Addr} {o : HO} (ha : H a = some o) (ho : Big o) : ∀ {ds : List D} {vs : List V}, ds.all noL1 = true → RepL c H ds vs → RepL c (hide a H) ds vs
  | [], _, _, h => h
  | d :: ds, _, e, h => by
    obtain ⟨x, r, h1, h2, h3⟩ := h
    have e2 : (noL1 d && ds.all noL1) = true := e
    obtain ⟨e3, e4⟩ := Bool.and_eq_true_iff.mp e2
    exact ⟨x, r, h1, noL1_hide ha ho e3 h2, noL1s_hide ha ho e4 h3⟩
theorem noL_hide {c : Cw} {H : Hp} {a : Addr} {o : HO} (ha : H a = some o) (ho : Big o) {d : D} {v : V} (e : noL d = true) (r : Rep c H d v) : Rep c (hide a H) d v := by
  cases d with
  | tupx ds =>
    obtain ⟨b, vs, h1, h2, h3⟩ := r
    exact ⟨b, vs, h1, SqT.hide ha ho h2, noL1s_hide ha ho e h3⟩
  | st l g f p t => exact noL1_hide ha ho e r
  | lst _ => cases e
  | lstx _ => cases e
  | dic _ => cases e
  | non => exact Rep.hide ha ho _ e r
  | bl _ => exact Rep.hide ha ho _ e r
  | int _ => exact Rep.hide ha ho _ e r
  | str _ => exact Rep.hide ha ho _ e r
  | tup _ => exact Rep.hide ha ho _ e r
theorem noLs_hide {c : Cw} {H : Hp} {a : Addr} {o : HO} (ha : H a = some o) (ho : Big o) : ∀ {ds : List D} {vs : List V}, ds.all noL = true → RepL c H ds vs → RepL c (hide a H) ds vs
  | [], _, _, h => h
  | d :: ds, _, e, h => by
    obtain ⟨x, r, h1, h2, h3⟩ := h
    have e2 : (noL d && ds.all noL) = true := e
    obtain ⟨e3, e4⟩ := Bool.and_eq_true_iff.mp e2
    exact ⟨x, r, h1, noL_hide ha ho e3 h2, noLs_hide ha ho e4 h3⟩
/-! ### d.update(e) -/
def rUpdate : V → List V → Hp → VK → Prop := fun x vs H Q => ∃ a b kvs more, x = .ref a ∧ vs = [.ref b] ∧ a ≠ b ∧ H a = some (.dK kvs) ∧ H b = some (.dK more) ∧ kvs.length + more.length ≤ 4000 ∧ Q .non (upd H a (.dK (mergeK kvs more)))
theorem mt_update {X : Cx} : MtM X "dict.update" rUpdate := by
  intro pins s σ H x vs v us Q I rx rv h
  obtain ⟨a, b, kvs, more, rfl, rfl, ne, ea, eb, hl, q⟩ := h
  cases rx
  obtain ⟨u, rfl, ru⟩ := rv.one
  cases ru
  obtain ⟨z1, hd1, vs1, r1, dd1⟩ := dk_of I.hok ea
  obtain ⟨z2, hd2, vs2, r2, dd2⟩ := dk_of I.hok eb
  have hle := length_mergeK more kvs
  refine call_meetsIn PySem.F.slot_dict_update dd1.typeIs PySem.F.entry_dict_update (PySem.F.args_dict_update_2 _ _) (meets_dict_update (mixKind X.prog X.w) a b ne hd2)
    ⟨vs1, vs2, dd1, dd2, by rw [← r1.length, ← r2.length, sizeLine_eq]; omega, fun h' dA _ sb => ?_⟩
  have he : ∃ q, h'.get? a = some q := let ⟨q, _, _, hq, _⟩ := dA; ⟨q, hq⟩
  exact ⟨.non, _, d_write (t' := s.toks) I (by rw [ea]; exact True.intro) sb he (dk_new (by rw [sizeLine_eq]; omega) hd1 (KV.merge r2 r1) dA), rfl, q⟩
/-! ### a dict of ints -/
abbrev kvI (ks : List Int) : List (Key × V) := ks.map fun k => (Sum.inl k, V.bl true)
theorem kvI_any (ks : List Int) (i : Int) : ((kvI ks).any fun kv => decide (kv.1 = Sum.inl i)) = decide (i ∈ ks) := by
  induction ks with
  | nil => rfl
  | cons k r ih =>
    show (decide ((Sum.inl k : Key) = Sum.inl i) || _) = _
    have ih' : ((List.map (fun k => ((Sum.inl k : Key), V.bl true)) r).any fun kv => decide (kv.1 = Sum.inl i)) = decide (i ∈ r) := ih
    rw [ih']
    by_cases e : k = i
    · subst e; simp
    · have e2 : ¬ (Sum.inl k : Key) = Sum.inl i := fun z => e (Sum.inl.inj z)
      rw [decide_eq_false e2, Bool.false_or]
      by_cases m : i ∈ r
      · rw [decide_eq_true m, decide_eq_true (List.mem_cons_of_mem _ m)]
      · rw [decide_eq_false m, decide_eq_false]
        intro z
        rcases List.mem_cons.mp z with z | z
        · exact e z.symm
        · exact m z
theorem putI (ks : List Int) (i : Int) : putK (kvI ks) (Sum.inl i) (V.bl true) = kvI (addI ks i) := by
  unfold putK addI
  rw [kvI_any]
  by_cases m : i ∈ ks
  · rw [decide_eq_true m, if_pos rfl, if_pos m]
    unfold kvI
    rw [List.map_map]
    refine List.map_congr_left fun k _ => ?_
    show (if (Sum.inl k : Key) = Sum.inl i then ((Sum.inl k : Key), V.bl true) else (Sum.inl k, V.bl true)) = _
    split <;> rfl
  · rw [decide_eq_false m, if_neg Bool.false_ne_true, if_neg m]
    unfold kvI
    rw [List.map_append]
    rfl
theorem mergeI (ks : List Int) : ∀ ms : List Int, mergeK (kvI ks) (kvI ms) = kvI (ms.foldl addI ks) := by
  intro ms
  induction ms generalizing ks with
  | nil => rfl
  | cons m r ih =>
    show mergeK (putK (kvI ks) (Sum.inl m) (V.bl true)) (kvI r) = _
    rw [putI, ih]
    rfl
theorem mergeI0 (i j : Int) : mergeK [] (kvI [i, j]) = kvI ([i, j].foldl addI []) := mergeI [] [i, j]
/-! ### sorted ints -/
theorem sorted_unique : ∀ {a b : List Int}, a.Perm b → a.Pairwise (· ≤ ·) → b.Pairwise (· ≤ ·) → a = b
  | [], b, p, _, _ => by rw [List.Perm.nil_eq p]
  | x :: a, [], p, _, _ => by
    have := p.length_eq
    cases this
  | x :: a, y :: b, p, ha, hb => by
    obtain ⟨ha1, ha2⟩ := List.pairwise_cons.mp ha
    obtain ⟨hb1, hb2⟩ := List.pairwise_cons.mp hb
    have e : x = y := by
      have hx : x ∈ y :: b := p.subset List.mem_cons_self
      have hy : y ∈ x :: a := p.symm.subset List.mem_cons_self
      have l1 : y ≤ x := by
        rcases List.mem_cons.mp hx with z | z
        · omega
        · exact hb1 x z
      have l2 : x ≤ y := by
        rcases List.mem_cons.mp hy with z | z
        · omega
        · exact ha1 y z
      omega
    subst e
    rw [sorted_unique ((List.perm_cons x).mp p) ha2 hb2]
theorem insI_perm (i : Int) : ∀ l : List Int, (insI i l).Perm (i :: l)
  | [] => List.Perm.refl _
  | j :: r => by
    unfold insI
    cases iLt j i with
    | true => exact ((insI_perm i r).cons j).trans (List.Perm.swap i j r)
    | false => exact List.Perm.refl _
theorem insI_sorted (i : Int) : ∀ l : List Int, l.Pairwise (· ≤ ·) → (insI i l).Pairwise (· ≤ ·)
  | [], _ => List.pairwise_cons.mpr ⟨fun a h => (by cases h), List.Pairwise.nil⟩
  | j :: r, h => by
    obtain ⟨h1, h2⟩ := List.pairwise_cons.mp h
    unfold insI
    cases e : iLt j i with
    | true =>
      rw [iLt_eq] at e
      have e2 := of_decide_eq_true e
      refine List.pairwise_cons.mpr ⟨fun a ha => ?_, insI_sorted i r h2⟩
      rcases List.mem_cons.mp ((insI_perm i r).subset ha) with z | z
      · omega
      · exact h1 a z
    | false =>
      rw [iLt_eq] at e
      have e2 := of_decide_eq_false e
      refine List.pairwise_cons.mpr ⟨fun a ha => ?_, h⟩
      rcases List.mem_cons.mp ha with z | z
      · omega
      · have := h1 a z
        omega
theorem sortI_ok : ∀ l : List Int, (sortI l).Perm l ∧ (sortI l).Pairwise (· ≤ ·)
  | [] => ⟨List.Perm.refl _, List.Pairwise.nil⟩
  | i :: r => ⟨(insI_perm i _).trans ((sortI_ok r).1.cons i), insI_sorted i _ (sortI_ok r).2⟩
theorem sortI_unique {a b : List Int} (p : a.Perm b) (s : a.Pairwise (· ≤ ·)) : a = sortI b :=
  sorted_unique (p.trans (sortI_ok b).1.symm) s (sortI_ok b).2
end
end Rp
set_option Elab.async false
set_option linter.all false
set_option maxRecDepth 100000
set_option maxHeartbeats 1000000
namespace Rp
noncomputable section
open PySem PySem.Spec PyProof.Rows L2 SX
/-! ### data as keys -/
mutual
def keyN : D → NestedKey
  | .non => .none
  | .bl b => .num (if b then 1 else 0)
  | .int i => .num i
  | .str s => .text (S s)
  | .tup ds => .tup (keyNs ds)
  | _ => .none
def keyNs : List D → List NestedKey
  | [] => []
  | d :: ds => keyN d :: keyNs ds
end
section
variable {X : Cx} {pins : List (Addr × Obj)} {σ : L2.St} {H : Hp} {s : Shared} {C : Addr}
mutual
theorem nested_is (I : Inv X pins σ H s) : ∀ (d : D) {v : V} {u : Value}, dat1 d = true → Rep (cw C X) H d v → RelV v u → NestedIs s.heap (keyN d) u
  | .non, v, u, _, h, r => by
    rw [show v = _ from h] at r
    cases u with
    | none => exact .none
    | _ => cases r
  | .bl b, v, u, _, h, r => by
    rw [show v = _ from h] at r
    obtain rfl : u = Value.bool b := r
    exact .bool rfl
  | .int i, v, u, _, h, r => by
    rw [show v = _ from h] at r
    obtain ⟨t, rfl⟩ := (show ∃ t, u = Value.int i t from r)
    exact .int i t
  | .str x, v, u, _, h, r => by
    rw [show v = _ from h.1] at r
    obtain ⟨t, rfl⟩ := (show ∃ t, u = Value.str (S x) t from r)
    exact .text (S x) t
  | .tup ds, v, u, _, h, r => by
    obtain ⟨a, vs, h1, h2, h3, h4⟩ := h
    subst h1
    obtain rfl : u = Value.ref a := r
    obtain ⟨its, rv, ⟨o, e1, e2, n, e3⟩, _⟩ := I.tuple h2
    exact .tup e1 e2 e3 (by rw [List.toList_toArray]; exact nested_all I ds h4 h3 rv)
  | .tupx _, _, _, e, _, _ => by cases e
  | .lst _, _, _, e, _, _ => by cases e
  | .lstx _, _, _, e, _, _ => by cases e
  | .st .., _, _, e, _, _ => by cases e
  | .dic _, _, _, e, _, _ => by cases e
theorem nested_all (I : Inv X pins σ H s) : ∀ (ds : List D) {vs : List V} {us : List Value}, ds.all dat1 = true → RepL (cw C X) H ds vs → Vals vs us → NestedAll s.heap (keyNs ds) us
  | [], vs, us, _, h, r => by
    rw [show vs = _ from h] at r
    cases r
    exact .nil
  | d :: ds, vs, us, e, h, r => by
    obtain ⟨x, t, h1, h2, h3⟩ := h
    subst h1
    have e2 : (dat1 d && ds.all dat1) = true := e
    obtain ⟨e3, e4⟩ := Bool.and_eq_true_iff.mp e2
    cases r with
    | cons r1 r2 => exact .cons (nested_is I d e3 h2 r1) (nested_all I ds e4 h3 r2)
end
end
mutual
theorem key_depth : ∀ (d : D) (n : Nat), dpLe d n = true → (keyN d).depth ≤ n
  | .non, n, _ => Nat.zero_le _
  | .bl _, n, _ => Nat.zero_le _
  | .int _, n, _ => Nat.zero_le _
  | .str _, n, _ => Nat.zero_le _
  | .tup ds, n, h => by
    cases n with
    | zero => cases h
    | succ m =>
      have h' : dpLeL ds m = true := h
      have := keys_depth ds m h'
      show NestedKey.depthAll (keyNs ds) + 1 ≤ m + 1
      omega
  | .tupx _, n, h => by cases h
  | .lst _, n, _ => Nat.zero_le _
  | .lstx _, n, h => by cases h
  | .st .., n, h => by cases h
  | .dic _, n, h => by cases h
theorem keys_depth : ∀ (ds : List D) (n : Nat), dpLeL ds n = true → NestedKey.depthAll (keyNs ds) ≤ n
  | [], n, _ => Nat.zero_le _
  | d :: ds, n, h => by
    have h' : cnd (dpLe d n) (dpLeL ds n) false = true := h
    obtain ⟨h1, h2⟩ := cnd_and h'
    have a := key_depth d n h1
    have b := keys_depth ds n h2
    show max (keyN d).depth (NestedKey.depthAll (keyNs ds)) ≤ n
    omega
end
theorem num01 (a : Bool) : (if a = true then (1 : Int) else 0) = cnd a 1 0 := by cases a <;> rfl
mutual
def deep : D → Bool
  | .tup ds => deepL ds
  | .tupx _ => false
  | .lst _ => false
  | .lstx _ => false
  | .st .. => false
  | .dic _ => false
  | _ => true
def deepL : List D → Bool
  | [] => true
  | d :: ds => deep d && deepL ds
end
mutual
theorem Rep.deep {c : Cw} {H : Hp} : ∀ (d : D) {v : V}, dat1 d = true → Rep c H d v → Rp.deep d = true
  | .non, _, _, _ => rfl
  | .bl _, _, _, _ => rfl
  | .int _, _, _, _ => rfl
  | .str _, _, _, _ => rfl
  | .tup ds, v, _, h => by
    obtain ⟨a, vs, h1, h2, h3, h4⟩ := h
    exact RepL.deep ds h4 h3
  | .tupx _, _, e, _ => by cases e
  | .lst _, _, e, _ => by cases e
  | .lstx _, _, e, _ => by cases e
  | .st .., _, e, _ => by cases e
  | .dic _, _, e, _ => by cases e
theorem RepL.deep {c : Cw} {H : Hp} : ∀ (ds : List D) {vs : List V}, ds.all dat1 = true → RepL c H ds vs → deepL ds = true
  | [], _, _, _ => rfl
  | d :: ds, _, e, h => by
    obtain ⟨x, t, h1, h2, h3⟩ := h
    have e2 : (dat1 d && ds.all dat1) = true := e
    obtain ⟨e3, e4⟩ := Bool.and_eq_true_iff.mp e2
    show (Rp.deep d && deepL ds) = true
    rw [Rep.deep d e3 h2, RepL.deep ds e4 h3]
    rfl
end
mutual
theorem eqD_key : ∀ (d e : D), deep d = true → deep e = true → eqD d e = NestedKey.beq (keyN d) (keyN e)
  | .non, e, _, h => by cases e <;> first | rfl | cases h
  | .bl a, e, _, h => by
    cases e with
    | bl b =>
      show (a == b) = decide (_ = _)
      cases a <;> cases b <;> rfl
    | int j =>
      show beqI (cnd a 1 0) j = decide (_ = _)
      rw [beqI_eq, num01]
      rfl
    | _ => first | rfl | cases h
  | .int i, e, _, h => by
    cases e with
    | bl b =>
      show beqI i (cnd b 1 0) = decide (_ = _)
      rw [beqI_eq, num01]
      rfl
    | int j =>
      show beqI i j = decide (_ = _)
      rw [beqI_eq]
      rfl
    | _ => first | rfl | cases h
  | .str a, e, _, h => by
    cases e with
    | str b =>
      show beqL a b = decide (S a = S b)
      rw [← S_beq']
      rfl
    | _ => first | rfl | cases h
  | .tup xs, e, hx, h => by
    cases e with
    | tup ys => exact eqDs_key xs ys hx h
    | _ => first | rfl | cases h
  | .tupx _, _, e, _ => by cases e
  | .lst _, _, e, _ => by cases e
  | .lstx _, _, e, _ => by cases e
  | .st .., _, e, _ => by cases e
  | .dic _, _, e, _ => by cases e
theorem eqDs_key : ∀ (d e : List D), deepL d = true → deepL e = true → eqDs d e = NestedKey.beqAll (keyNs d) (keyNs e)
  | [], e, _, _ => by cases e <;> rfl
  | x :: xs, e, hx, he => by
    cases e with
    | nil => rfl
    | cons y ys =>
      have e2 : (deep x && deepL xs) = true := hx
      have e3 : (deep y && deepL ys) = true := he
      obtain ⟨a1, a2⟩ := Bool.and_eq_true_iff.mp e2
      obtain ⟨b1, b2⟩ := Bool.and_eq_true_iff.mp e3
      show cnd (eqD x y) (eqDs xs ys) false = (NestedKey.beq _ _ && NestedKey.beqAll _ _)
      rw [eqD_key x y a1 b1, eqDs_key xs ys a2 b2]
      cases NestedKey.beq (keyN x) (keyN y) <;> rfl
end
/-! ### the dict of keys that were seen -/
abbrev XsN := List (NestedKey × Addr × Value)
def seenP (P : Program) (w : World) (a : Addr) (xs : XsN) : Heap → Prop := fun h => (a == sysModules) = false ∧ ∃ o es ep, h.get? a = some o ∧ o.ExactDict ∧ o.data = .dict es ep ∧ es.toList = xs.map (entryOfKey (nestedKind P w)) ∧ (xs.map (·.1)).Nodup
theorem seenP_st {P : Program} {w : World} {a : Addr} {xs : XsN} (h1 h2 : Heap) (x : seenP P w a xs h1) (k : ∀ o, h1.get? a = some o → h2.get? a = some o) : seenP P w a xs h2 :=
  let ⟨z, o, es, ep, h, r⟩ := x; ⟨z, o, es, ep, k o h, r⟩
/-- what is known of the keys -/
def KeysR (c : Cw) (H : Hp) : List D → XsN → Prop := Paired fun d x => x.1 = keyN d ∧ dat1 d = true ∧ dpLe d 8 = true ∧ Rep c H d (.ref x.2.1)
theorem KeysR.same {c : Cw} {H H' : Hp} (e : Same H H') {ks : List D} {xs : XsN} (h : KeysR c H ks xs) : KeysR c H' ks xs := Paired.mapP h fun d x z => ⟨z.1, z.2.1, z.2.2.1, z.2.2.2.same e⟩
theorem KeysR.hide {c : Cw} {H : Hp} {a : Addr} {o : HO} (ha : H a = some o) (ho : Big o) {ks : List D} {xs : XsN} (h : KeysR c H ks xs) : KeysR c (hide a H) ks xs := Paired.mapP h fun d x z => ⟨z.1, z.2.1, z.2.2.1, Rep.hide ha ho d z.2.1 z.2.2.2⟩
theorem big_ext {φ : Heap → Prop} : Big (.ext φ) := ⟨fun _ z => (by cases z), fun _ _ z => (by cases z), fun _ _ _ z => (by cases z)⟩
section
variable {X : Cx} {pins : List (Addr × Obj)} {σ : L2.St} {H : Hp} {s : Shared} {C : Addr}
theorem seen_dict (I : Inv X pins σ H s) {a : Addr} {xs : XsN} {ks : List D} (e : H a = some (.ext (seenP X.prog X.w a xs))) (k : KeysR (cw C X) H ks xs) : s.heap.DictOfH (nestedKind X.prog X.w) a xs := by
  obtain ⟨⟨_, o, es, ep, h1, h2, h3, h4, h5⟩, _⟩ := I.hok a _ e
  refine ⟨o, es, ep, h1, h2, h3, h4, fun x hx => ?_, h5⟩
  have : ∀ {ks : List D} {xs : XsN}, KeysR (cw C X) H ks xs → ∀ x ∈ xs, (nestedKind X.prog X.w).is s.heap x.1 x.2.1 := by
    intro ks xs k
    induction k with
    | nil => intro x hx; cases hx
    | cons r t ih =>
      intro x hx
      rcases List.mem_cons.mp hx with z | z
      · subst z
        obtain ⟨z1, z2, z3, z4⟩ := r
        rw [z1]
        exact ⟨nested_is (C := C) I _ z2 z4 rfl, key_depth _ 8 z3⟩
      · exact ih x z
  exact this k x hx
theorem keys_any {c : Cw} {H : Hp} {k : D} {v : V} (hk : dat1 k = true) (rk : Rep c H k v) : ∀ {ks : List D} {xs : XsN}, KeysR c H ks xs → (atKey xs (keyN k)).isSome = ks.any fun x => eqD x k := by
  intro ks xs h
  induction h with
  | nil => rfl
  | @cons d x ds xs r t ih =>
    obtain ⟨z1, z2, z3, z4⟩ := r
    rw [List.any_cons, eqD_key d k (Rep.deep d z2 z4) (Rep.deep k hk rk), ← NestedKey.decide_eq, ← z1]
    by_cases e : x.1 = keyN k
    · rw [decide_eq_true e, Bool.true_or]
      simp [atKey, e]
    · rw [decide_eq_false e, Bool.false_or, ← ih]
      simp [atKey, e]
theorem seen_new {H' : Hp} {h' : Heap} {a : Addr} {xs : XsN} (z : (a == sysModules) = false) (d : h'.DictOfH (nestedKind X.prog X.w) a xs) : ObjOk X.prog X.w H' h' a (.ext (seenP X.prog X.w a xs)) := by
  obtain ⟨o, es, ep, h1, h2, h3, h4, _, h5⟩ := d
  exact ⟨⟨z, o, es, ep, h1, h2, h3, h4, h5⟩, ⟨o, h1⟩, fun h1 h2 x k => seenP_st h1 h2 x k⟩
end
section
variable {X : Cx} {C : Addr}
def tNewSeen (P : Program) (w : World) : TE := fun _ H Q => ∀ p, H p = none → Q (.ref p) (upd H p (.ext (seenP P w p [])))
theorem pe_newSeen {pos : Pos} : PE X (.Dict [] [] pos) (tNewSeen X.prog X.w) := ⟨fun pins s σ H Q I h =>
  wpAny_Dict_empty ⟨.ref s.heap.objs.size, _, I.laid (a := s.heap.objs.size) (o := .ext (seenP X.prog X.w s.heap.objs.size [])) (t' := s.toks) (fun _ _ q => Heap.get?_push_of_some _ q) (Nat.le_refl _)
    (seen_new (beq_eq_false_iff_ne.mpr (Ne.symm (Nat.ne_of_lt I.big))) (Heap.DictOfH.new s.heap)), rfl, h _ (I.hok.fresh (Nat.le_refl _))⟩⟩
/-- the key at y, the dict at x -/
def KeyAt (c : Cw) (P : Program) (H : Hp) (x y : V) (a b : Addr) (xs : XsN) (ks : List D) (k : D) : Prop :=
  x = .ref a ∧ y = .ref b ∧ H a = some (.ext (seenP P c.w a xs)) ∧ KeysR c H ks xs ∧ dat1 k = true ∧ dpLe k 8 = true ∧ Rep c H k (.ref b)
def tNotSeen (c : Cw) (P : Program) (ty td : TE) : TE := fun σ H Q => ty σ H fun y H1 => td σ H1 fun x H2 => ∃ a b xs ks k, KeyAt c P H2 x y a b xs ks k ∧ Q (.bl (!(ks.any fun z => eqD z k))) H2
theorem pc_notseen {i o : Expr} {ty td : TE} (hu : X.A.units + 64 < cLine) (hi : PE X i ty) (ho : PE X o td) : PC X .NotIn i o (tNotSeen (cw C X) X.prog ty td) := by
  refine ⟨fun pins s σ H Q I h => ?_⟩
  refine thn (hi.run pins s σ H _ I h) fun iv s1 ⟨y, H1, I1, ry, q1⟩ => thn (ho.run pins s1 σ H1 _ I1 q1) fun u s2 ⟨x, H2, I2, rx, a, b, xs, ks, k, ⟨e1, e2, e3, e4, e5, e6, e7⟩, q2⟩ => ?_
  subst e1 e2
  obtain rfl : u = Value.ref a := rx
  obtain rfl : iv = Value.ref b := ry
  have hd : (a == sysModules) = false := (I2.hok a _ e3).1.1
  have dd := seen_dict (C := C) I2 e3 e4
  have hk : (nestedKind X.prog X.w).is s2.heap (keyN k) b := ⟨nested_is (C := C) I2 k e5 e7 rfl, key_depth k 8 e6⟩
  have room : (nestedKind X.prog X.w).room X.A.in1 := by show X.A.units + 1 + 8 < cLine; omega
  refine notIn_keyed room hk hd ⟨xs, dd, rfl⟩ ?_
  rw [valueAt_pairsH, Option.isSome_map, keys_any e5 e7 e4]
  exact ⟨.bl _, H2, I2.tok _, rfl, q2⟩
def sPutSeen (c : Cw) (P : Program) (td ty : TE) : TS := fun D σ H => td σ H fun x H2 => ty σ H2 fun y H3 => ∃ a b xs ks k, KeyAt c P H3 x y a b xs ks k ∧ (ks.any fun z => eqD z k) = false ∧ xs.length ≤ 4001 ∧
  D.nx σ (upd H3 a (.ext (seenP P c.w a (xs ++ [(keyN k, b, .bool true)]))))
theorem ps_putSeen {o i : Expr} {pos' pos tp : Pos} {j} {td ty : TE} (hu : X.A.units + 64 < cLine) (ho : PE X o td) (hi : PE X i ty) (hs : swapsWith (.Constant (.bool true) j tp) (some (.Subscript o i pos')) pos.line X.env = pure false := by rfl) :
    PS X (.Assign [.Subscript o i pos'] (.Constant (.bool true) j tp) pos) (sPutSeen (cw C X) X.prog td ty) := by
  refine ⟨fun pins s σ H D I h => ?_⟩
  refine wpAny_Assign_Subscript (Constant_bool (thn (ho.run pins s σ H _ I h) fun u s2 ⟨x, H2, I2, rx, q2⟩ => thn (hi.run pins s2 σ H2 _ I2 q2) fun iv s3 ⟨y, H3, I3, ry, a, b, xs, ks, k, ⟨e1, e2, e3, e4, e5, e6, e7⟩, e8, e9, q3⟩ => ?_)) hs
  subst e1 e2
  obtain rfl : u = Value.ref a := rx
  obtain rfl : iv = Value.ref b := ry
  have hd : (a == sysModules) = false := (I3.hok a _ e3).1.1
  have dd := seen_dict (C := C) I3 e3 e4
  have hk : (nestedKind X.prog X.w).is s3.heap (keyN k) b := ⟨nested_is (C := C) I3 k e5 e7 rfl, key_depth k 8 e6⟩
  have room : (nestedKind X.prog X.w).room X.A.in1 := by show X.A.units + 1 + 8 < cLine; omega
  have hn : atKey xs (keyN k) = none := by
    have := keys_any e5 e7 e4
    rw [e8] at this
    cases hh : atKey xs (keyN k) with
    | none => rfl
    | some z => rw [hh] at this; cases this
  refine wpAny_setItem_heap room hk dd (fun h' d' sb => ?_) (by rw [sizeLine_eq]; omega)
  rw [storedH_new hn] at d'
  have he : ∃ q, h'.get? a = some q := let ⟨q, _, _, hq, _⟩ := d'; ⟨q, hq⟩
  exact ⟨σ, _, d_write (t' := s3.toks + (nestedKind X.prog X.w).draws (keyN k)) I3 (by rw [e3]; exact True.intro) sb he (seen_new hd d'), q3⟩
/-! ### a list of anything against [] -/
def rNeE (K : PySem.W.Frag) : R2 := fun x y H Q => ∃ a b xs, x = .ref a ∧ y = .ref b ∧ SqL K H a xs ∧ SqL K H b [] ∧ Q (.bl (!xs.isEmpty)) H
theorem op_neE (hu : X.A.units + 64 < cLine) : OpR X (compareOp .NotEq) (rNeE X.K) := by
  intro pins s σ H x y v u Q I rx ry h
  obtain ⟨a, b, xs, ex, ey, ha, hb, q⟩ := h
  subst ex ey
  obtain rfl : v = Value.ref a := rx
  obtain rfl : u = Value.ref b := ry
  cases xs with
  | nil => exact op_neD hu pins s σ H (.ref a) (.ref b) _ _ Q I rfl rfl ⟨.list [], .list [], .lst ha .nil, .lst hb .nil, rfl, rfl, q⟩
  | cons z zs =>
    obtain ⟨its, rv, ⟨o, n, o1, o2, o3, o4⟩, _⟩ := I.list ha
    obtain ⟨its2, rv2, ⟨p, m, p1, p2, p3, p4⟩, _⟩ := I.list hb
    cases rv2
    refine SeqAt.RcNeAt.lists_lengths (items := its.toArray) (items2 := #[]) ⟨o, o1, o2, n, o4⟩ ⟨p, p1, p2, m, p4⟩ ?_ (by omega) X.prog X.w X.xe _ ⟨.bl _, H, I, rfl, q⟩
    cases rv
    rfl
end
end
end Rp
set_option Elab.async false
set_option linter.all false
set_option maxRecDepth 100000
set_option maxHeartbeats 1000000
namespace Rp
noncomputable section
def g_KEYWORDS : D := (.tup [(.str [97, 110, 100]), (.str [98, 114, 101, 97, 107]), (.str [100, 101, 102]), (.str [101, 108, 105, 102]), (.str [101, 108, 115, 101]), (.str [101, 120, 99, 101, 112, 116]), (.str [102, 105, 110, 97, 108, 108, 121]), (.str [102, 111, 114]), (.str [105, 102]), (.str [105, 110]), (.str [110, 111, 116]), (.str [111, 114]), (.str [112, 97, 115, 115]), (.str [114, 101, 116, 117, 114, 110]), (.str [116, 114, 121]), (.str [119, 104, 105, 108, 101])])
def g_LETTERS : D := (.str [97, 98, 99, 100, 101, 102, 103, 104, 105, 106, 107, 108, 109, 110, 111, 112, 113, 114, 115, 116, 117, 118, 119, 120, 121, 122, 65, 66, 67, 68, 69, 70, 71, 72, 73, 74, 75, 76, 77, 78, 79, 80, 81, 82, 83, 84, 85, 86, 87, 88, 89, 90, 95])
def g_DIGITS_signs : D := (.str [48, 49, 50, 51, 52, 53, 54, 55, 56, 57])
def g_OTHERS : D := (.str [32, 33, 34, 35, 36, 38, 39, 40, 41, 42, 43, 44, 45, 46, 47, 58, 59, 60, 61, 62, 63, 64, 91, 92, 93, 94, 96, 123, 124, 125, 126])
def g_DIGITS_states : D := (.str [48, 49, 50, 51, 52, 53, 54, 55, 56, 57])
def g_BINARY_WORDS : D := (.tup [(.str [97, 110, 100]), (.str [111, 114]), (.str [105, 110])])
def g_HEADERS : D := (.tup [(.str [105, 102]), (.str [119, 104, 105, 108, 101]), (.str [102, 111, 114]), (.str [100, 101, 102]), (.str [116, 114, 121])])
def g_CHAINS : D := (.tup [(.str [116, 97, 114, 103, 101, 116]), (.str [99, 104, 97, 105, 110])])
def g_DONE : D := (.tup [(.str [116, 97, 114, 103, 101, 116]), (.str [99, 104, 97, 105, 110]), (.str [97, 102, 116, 101, 114]), (.str [115, 101, 97, 108, 101, 100]), (.str [110, 97, 109, 101, 100])])
def g_STARTS : D := (.tup [(.str [98, 101, 103, 105, 110]), (.str [109, 111, 114, 101]), (.str [115, 117, 105, 116, 101])])
def g_OPERANDS : D := (.tup [(.str [98, 101, 103, 105, 110]), (.str [109, 111, 114, 101]), (.str [115, 117, 105, 116, 101]), (.str [109, 97, 121, 98, 101]), (.str [111, 112, 101, 114, 97, 110, 100]), (.str [102, 105, 114, 115, 116]), (.str [97, 114, 103])])
def g_LINE_ENDS : D := (.tup [(.str [116, 97, 114, 103, 101, 116]), (.str [99, 104, 97, 105, 110]), (.str [97, 102, 116, 101, 114]), (.str [115, 101, 97, 108, 101, 100]), (.str [101, 110, 100]), (.str [109, 97, 121, 98, 101]), (.str [109, 111, 114, 101]), (.str [115, 117, 105, 116, 101])])
def g_ANY_WORD : D := (.tup [(.str [98, 101, 103, 105, 110]), (.str [109, 111, 114, 101]), (.str [115, 117, 105, 116, 101]), (.str [109, 97, 121, 98, 101]), (.str [111, 112, 101, 114, 97, 110, 100]), (.str [102, 105, 114, 115, 116]), (.str [97, 114, 103]), (.str [115, 116, 97, 116, 101, 109, 101, 110, 116]), (.str [110, 97, 109, 101]), (.str [99, 104, 97, 105, 110, 110, 97, 109, 101]), (.str [100, 101, 102, 110, 97, 109, 101]), (.str [102, 111, 114, 110, 97, 109, 101]), (.str [101, 120, 99, 101, 112, 116, 110, 97, 109, 101]), (.str [112, 97, 114, 97, 109])])
def g_CLAUSES : List (List Nat × D) := [([], (.tup [])), ([105, 102], (.tup [(.str [101, 108, 105, 102]), (.str [101, 108, 115, 101])])), ([116, 114, 121], (.tup [(.str [101, 120, 99, 101, 112, 116]), (.str [102, 105, 110, 97, 108, 108, 121])])), ([101, 120, 99, 101, 112, 116], (.tup [(.str [101, 120, 99, 101, 112, 116]), (.str [102, 105, 110, 97, 108, 108, 121])]))]
def g_CLOSERS : List (List Nat × D) := [([40], (.str [41])), ([99], (.str [41])), ([112], (.str [41])), ([91], (.str [93])), ([105], (.str [93])), ([123, 107], (.str [125])), ([123, 118], (.str [125])), ([102], (.str [125]))]
def g_NAMES : D := (.tup [(.str [110, 97, 109, 101]), (.str [99, 104, 97, 105, 110, 110, 97, 109, 101]), (.str [100, 101, 102, 110, 97, 109, 101]), (.str [102, 111, 114, 110, 97, 109, 101])])
def g_PIECES : D := (.tup [(.str [48]), (.str [120]), (.str [46, 120]), (.str [61, 48]), (.str [41]), (.str [93]), (.str [125]), (.str [34]), (.str [39]), (.str [34, 34, 34]), (.str [39, 39, 39]), (.str [58]), (.str [44]), (.str [59]), (.str [10]), (.str [105, 110, 32])])
def g_WORDS : D := (.tup [(.str [114, 101, 116, 117, 114, 110, 59]), (.str [98, 114, 101, 97, 107, 59]), (.str [101, 108, 115, 101, 58]), (.str [101, 108, 105, 102, 32, 48, 58]), (.str [101, 120, 99, 101, 112, 116, 58]), (.str [102, 105, 110, 97, 108, 108, 121, 58])])
def g_ROWS : D := (.tup [(.str [120, 10]), (.str [114, 101, 116, 117, 114, 110, 10]), (.str [98, 114, 101, 97, 107, 10]), (.str [101, 108, 115, 101, 58, 48, 10]), (.str [101, 108, 105, 102, 32, 48, 58, 48, 10]), (.str [101, 120, 99, 101, 112, 116, 58, 48, 10]), (.str [102, 105, 110, 97, 108, 108, 121, 58, 48, 10])])
/-- the defaults of State -/
def g_dd : List D := [.tup [], .tup [.str [115, 116, 97, 114, 116], .int 0, .tup []], .tup [], .str [], .tup []]
def b_consists_of : RS :=
  (sRet (andE (e1 is_str (eVar 0)) (eA (f1 all1) (aCons (eLc (aName 2) (seqStr (eVar 0)) tYesR (o2 dIn (eVar 2) (eVar 1)) [2]) aNil))))
def m_consists_of : List D → Option D := runF 2 1 b_consists_of
def b_is_text : RS :=
  (sRet (eA m_consists_of (aCons (eVar 0) (aCons (o2 dAdd (o2 dAdd (o2 dAdd (eC g_LETTERS) (eC g_DIGITS_signs)) (eC g_OTHERS)) (eC (.str [10]))) aNil))))
def m_is_text : List D → Option D := runF 1 0 b_is_text
def b_with_clauses : RS :=
  (sSeq (sUnp [2, 3, 4, 5] (o2 dIx (eVar 0) (e1 dNeg (eC (.int 1)))))
    (sRet (eA mkTup (aStar (eSl (eVar 0) pNo (pSome (e1 dNeg (eC (.int 1))))) (aCons (eA mkTup (aCons (eVar 2) (aCons (eVar 1) (aCons (eVar 4) (aCons (eVar 5) aNil))))) aNil)))))
def m_with_clauses : List D → Option D := runF 2 4 b_with_clauses
def b_after_line : RS :=
  (sSeq (sIf (tOrE (asB (o2 dNotIn (e1 (fldOf .ph) (eVar 0)) (eC g_LINE_ENDS))) (asB (o2 dNe (o2 dIx (e1 (fldOf .gl) (eVar 0)) (eC (.int 0))) (eC (.str [115, 109, 97, 108, 108]))))) (sRet (eC .non)) sNx)
    (sSeq (sUnp [1, 2, 3, 4, 5] (e1 (fldOf .gl) (eVar 0)))
    (sSeq (sIf (asB (eVar 5)) (sRet (eA (mkSt g_dd) (aCons (eA mkTup aNil) (aCons (eA mkTup (aCons (eC (.str [100, 111, 110, 101])) aNil)) aNil)))) sNx)
    (sSeq (sSet 6 (ifE (asB (o2 dEq (e1 (fldOf .ph) (eVar 0)) (eC (.str [115, 117, 105, 116, 101])))) (eA mkTup (aCons (eVar 3) (aCons (eVar 4) aNil))) (eA mkTup aNil)))
    (sRet (eA (mkSt g_dd) (aCons (eA m_with_clauses (aCons (e1 (fldOf .lv) (eVar 0)) (aCons (eVar 2) aNil))) (aCons (eA mkTup (aCons (eC (.str [115, 116, 97, 114, 116])) (aCons (eC (.int 0)) (aCons (eVar 6) aNil)))) aNil))))))))
def m_after_line : List D → Option D := runF 1 6 b_after_line
def b_after_empty_line : RS :=
  (sSeq (sUnp [1, 2, 3] (e1 (fldOf .gl) (eVar 0)))
    (sSeq (sIf (asB (o2 dEq (e1 (fldOf .lv) (eVar 0)) (eA mkTup aNil))) (sRet (eA (mkSt g_dd) aNil)) sNx)
    (sSeq (sIf (tOrE (asB (o2 dNe (eVar 3) (eA mkTup aNil))) (asB (eA (f1 any1) (aCons (eLc (aName 4) (seqTup (e1 (fldOf .lv) (eVar 0))) tYesR (o2 dEq (o2 dIx (eVar 4) (eC (.int 1))) (eC (.str [116, 114, 121]))) [4]) aNil)))) (sRet (eC .non)) sNx)
    (sRet (eA (mkSt g_dd) (aCons (eA mkTup aNil) (aCons (eA mkTup (aCons (eC (.str [100, 111, 110, 101])) aNil)) aNil)))))))
def m_after_empty_line : List D → Option D := runF 1 4 b_after_empty_line
def b_line_begun : RS :=
  (sSeq (sUnp [1, 2, 3] (e1 (fldOf .gl) (eVar 0)))
    (sSeq (sIf (asB (o2 dEq (e1 (fldOf .lv) (eVar 0)) (eA mkTup aNil))) (sRet (ifE (asB (o2 dEq (eVar 2) (eC (.int 0)))) (eA (mkSt g_dd) (aCons (eA mkTup (aCons (eA mkTup (aCons (eC (.int 0)) (aCons (eC (.str [])) (aCons (eC (.bl false)) (aCons (eC (.bl false)) aNil))))) aNil)) (aCons (eA mkTup (aCons (eC (.str [108, 105, 110, 101])) (aCons (eC (.str [])) (aCons (eC (.bl true)) aNil)))) (aCons (eA mkTup aNil) (aCons (eC (.str [115, 116, 97, 116, 101, 109, 101, 110, 116])) aNil))))) (eC .non))) sNx)
    (sSeq (sIf (asB (o2 dNe (eVar 3) (eA mkTup aNil))) (sSeq (sIf (asB (o2 dLe (eVar 2) (o2 dIx (o2 dIx (e1 (fldOf .lv) (eVar 0)) (e1 dNeg (eC (.int 1)))) (eC (.int 0))))) (sRet (eC .non)) sNx)
    (sRet (eA (mkSt g_dd) (aCons (eA mkTup (aStar (e1 (fldOf .lv) (eVar 0)) (aCons (eA mkTup (aCons (eVar 2) (aCons (eC (.str [])) (aStar (eVar 3) aNil)))) aNil))) (aCons (eA mkTup (aCons (eC (.str [108, 105, 110, 101])) (aCons (eC (.str [])) (aCons (eC (.bl false)) aNil)))) (aCons (eA mkTup aNil) (aCons (eC (.str [115, 116, 97, 116, 101, 109, 101, 110, 116])) aNil))))))) sNx)
    (sSeq (sSet 4 (e1 (fldOf .lv) (eVar 0)))
    (sSeq (whileD (tAndE (asB (o2 dGt (o2 dIx (o2 dIx (eVar 4) (e1 dNeg (eC (.int 1)))) (eC (.int 0))) (eVar 2))) (asB (o2 dNe (o2 dIx (o2 dIx (eVar 4) (e1 dNeg (eC (.int 1)))) (eC (.int 1))) (eC (.str [116, 114, 121]))))) (sSet 4 (eSl (eVar 4) pNo (pSome (e1 dNeg (eC (.int 1)))))) 100)
    (sSeq (sUnp [5, 6, 7, 8] (o2 dIx (eVar 4) (e1 dNeg (eC (.int 1)))))
    (sSeq (sIf (asB (o2 dNe (eVar 5) (eVar 2))) (sRet (eC .non)) sNx)
    (sSeq (sSet 9 (ifE (tOrE (asB (o2 dEq (eVar 5) (eC (.int 0)))) (asB (o2 dEq (eVar 6) (eC (.str [116, 114, 121]))))) (eC (.str [99, 108, 97, 117, 115, 101])) (eC (.str [115, 116, 97, 116, 101, 109, 101, 110, 116]))))
    (sRet (eA (mkSt g_dd) (aCons (eA m_with_clauses (aCons (eVar 4) (aCons (eC (.str [])) aNil))) (aCons (eA mkTup (aCons (eC (.str [108, 105, 110, 101])) (aCons (eVar 6) (aCons (eC (.bl false)) aNil)))) (aCons (eA mkTup aNil) (aCons (eVar 9) aNil))))))))))))))
def m_line_begun : List D → Option D := runF 1 9 b_line_begun
def b_small_begun : RS :=
  (sSeq (sUnp [1, 2, 3, 4] (o2 dIx (e1 (fldOf .lv) (eVar 0)) (e1 dNeg (eC (.int 1)))))
    (sRet (eA (mkSt g_dd) (aCons (e1 (fldOf .lv) (eVar 0)) (aCons (eA mkTup (aCons (eC (.str [115, 109, 97, 108, 108])) (aCons (eC (.str [])) (aCons (eVar 3) (aCons (eVar 4) (aCons (o2 dIx (e1 (fldOf .gl) (eVar 0)) (eC (.int 2))) aNil)))))) (aCons (eA mkTup aNil) (aCons (eC (.str [98, 101, 103, 105, 110])) aNil)))))))
def m_small_begun : List D → Option D := runF 1 4 b_small_begun
def b_header_begun : RS :=
  (sSeq (sUnp [2, 3, 4, 5] (o2 dIx (e1 (fldOf .lv) (eVar 0)) (e1 dNeg (eC (.int 1)))))
    (sSeq (sSet 6 (o3 d_get (eDic (dCons [105, 102] (eC (.str [105, 102])) (dCons [101, 108, 105, 102] (eC (.str [105, 102])) (dCons [116, 114, 121] (eC (.str [116, 114, 121])) (dCons [101, 120, 99, 101, 112, 116] (eC (.str [101, 120, 99, 101, 112, 116])) dNil))))) (eVar 1) (eC (.str []))))
    (sSeq (sSet 7 (ifE (asB (o2 dEq (eVar 1) (eC (.str [100, 101, 102])))) (eA mkTup (aCons (eC (.bl true)) (aCons (eC (.bl false)) aNil))) (eA mkTup (aCons (eVar 4) (aCons (orE (eVar 5) (o2 dIn (eVar 1) (eA mkTup (aCons (eC (.str [119, 104, 105, 108, 101])) (aCons (eC (.str [102, 111, 114])) aNil))))) aNil)))))
    (sSeq (sSet 8 (eDic (dCons [101, 108, 115, 101] (eC (.str [99, 111, 108, 111, 110])) (dCons [116, 114, 121] (eC (.str [99, 111, 108, 111, 110])) (dCons [102, 105, 110, 97, 108, 108, 121] (eC (.str [99, 111, 108, 111, 110])) (dCons [100, 101, 102] (eC (.str [100, 101, 102, 110, 97, 109, 101])) (dCons [102, 111, 114] (eC (.str [102, 111, 114, 110, 97, 109, 101])) dNil)))))))
    (sSeq (sSet 9 (ifE (asB (o2 dEq (eVar 1) (eC (.str [101, 120, 99, 101, 112, 116])))) (eC (.str [101, 120, 99, 101, 112, 116, 110, 97, 109, 101])) (o3 d_get (eVar 8) (eVar 1) (eC (.str [111, 112, 101, 114, 97, 110, 100])))))
    (sRet (eA (mkSt g_dd) (aCons (e1 (fldOf .lv) (eVar 0)) (aCons (eA mkTup (aCons (eC (.str [104, 101, 97, 100])) (aCons (eVar 6) (aStar (eVar 7) aNil)))) (aCons (eA mkTup aNil) (aCons (eVar 9) aNil)))))))))))
def m_header_begun : List D → Option D := runF 2 8 b_header_begun
def b_State_in_phase : RS :=
  (sRet (eA (mkSt g_dd) (aCons (e1 (fldOf .lv) (eVar 0)) (aCons (e1 (fldOf .gl) (eVar 0)) (aCons (e1 (fldOf .fr) (eVar 0)) (aCons (eVar 1) (aCons (eVar 2) aNil)))))))
def m_State_in_phase : List D → Option D := runP 0 b_State_in_phase
structure Gtw_after_word where
  after_word : List D → Option D
def b_after_word (g : Gtw_after_word) : RS :=
  (sSeq (sSet 2 (e1 (fldOf .ph) (eVar 0)))
    (sSeq (sIf (asB (o2 dEq (eVar 2) (eC (.str [99, 108, 97, 117, 115, 101])))) (sRet (ifE (asB (o2 dIn (eVar 1) (e1 (dKix g_CLAUSES) (o2 dIx (e1 (fldOf .gl) (eVar 0)) (eC (.int 1)))))) (eA m_header_begun (aCons (eVar 0) (aCons (eVar 1) aNil))) (eC .non))) sNx)
    (sSeq (sIf (asB (o2 dEq (eVar 2) (eC (.str [115, 116, 97, 116, 101, 109, 101, 110, 116])))) (sSeq (sIf (tOrE (asB (o2 dIn (eVar 1) (eC g_HEADERS))) (asB (o2 dIn (eVar 1) (e1 (dKix g_CLAUSES) (o2 dIx (e1 (fldOf .gl) (eVar 0)) (eC (.int 1))))))) (sRet (eA m_header_begun (aCons (eVar 0) (aCons (eVar 1) aNil)))) sNx)
    (sRet (eA g.after_word (aCons (eA m_small_begun (aCons (eVar 0) aNil)) (aCons (eVar 1) aNil))))) sNx)
    (sSeq (sIf (asB (o2 dIn (eVar 2) (eC g_DONE))) (sRet (ifE (asB (o2 dIn (eVar 1) (eC g_BINARY_WORDS))) (eM m_State_in_phase (eVar 0) (aCons (eC (.str [111, 112, 101, 114, 97, 110, 100])) aNil)) (eC .non))) sNx)
    (sSeq (sIf (asB (o2 dEq (eVar 2) (eC (.str [102, 111, 114, 105, 110])))) (sRet (ifE (asB (o2 dEq (eVar 1) (eC (.str [105, 110])))) (eM m_State_in_phase (eVar 0) (aCons (eC (.str [111, 112, 101, 114, 97, 110, 100])) aNil)) (eC .non))) sNx)
    (sSeq (sIf (tAndE (asB (o2 dIn (eVar 2) (eC g_STARTS))) (asB (o2 dIn (eVar 1) (eA mkTup (aCons (eC (.str [112, 97, 115, 115])) (aCons (eC (.str [98, 114, 101, 97, 107])) (aCons (eC (.str [114, 101, 116, 117, 114, 110])) aNil))))))) (sSeq (sIf (asB (o2 dEq (eVar 1) (eC (.str [114, 101, 116, 117, 114, 110])))) (sRet (ifE (asB (o2 dIx (e1 (fldOf .gl) (eVar 0)) (eC (.int 2)))) (eM m_State_in_phase (eVar 0) (aCons (eC (.str [109, 97, 121, 98, 101])) aNil)) (eC .non))) sNx)
    (sRet (ifE (tOrE (asB (o2 dEq (eVar 1) (eC (.str [112, 97, 115, 115])))) (asB (o2 dIx (e1 (fldOf .gl) (eVar 0)) (eC (.int 3))))) (eM m_State_in_phase (eVar 0) (aCons (eC (.str [101, 110, 100])) aNil)) (eC .non)))) sNx)
    (sSeq (sIf (tAndE (asB (o2 dIn (eVar 2) (eC g_OPERANDS))) (asB (o2 dEq (eVar 1) (eC (.str [110, 111, 116]))))) (sRet (eM m_State_in_phase (eVar 0) (aCons (eC (.str [111, 112, 101, 114, 97, 110, 100])) aNil))) sNx)
    (sSeq (sIf (asB (o2 dIn (eVar 1) (eC g_KEYWORDS))) (sRet (eC .non)) sNx)
    (sSeq (sIf (asB (o2 dIn (eVar 2) (eC g_OPERANDS))) (sRet (eM m_State_in_phase (eVar 0) (aCons (ifE (asB (o2 dIn (eVar 2) (eC g_STARTS))) (eC (.str [116, 97, 114, 103, 101, 116])) (ifE (asB (o2 dEq (eVar 2) (eC (.str [97, 114, 103])))) (eC (.str [110, 97, 109, 101, 100])) (eC (.str [97, 102, 116, 101, 114])))) aNil))) sNx)
    (sSeq (sSet 3 (eDic (dCons [110, 97, 109, 101] (eC (.str [97, 102, 116, 101, 114])) (dCons [99, 104, 97, 105, 110, 110, 97, 109, 101] (eC (.str [116, 97, 114, 103, 101, 116])) (dCons [100, 101, 102, 110, 97, 109, 101] (eC (.str [100, 101, 102, 111, 112, 101, 110])) (dCons [102, 111, 114, 110, 97, 109, 101] (eC (.str [102, 111, 114, 105, 110])) dNil))))))
    (sRet (eM m_State_in_phase (eVar 0) (aCons (o2 dDix (eDicS (eVar 3) (dCons [101, 120, 99, 101, 112, 116, 110, 97, 109, 101] (eC (.str [99, 111, 108, 111, 110])) (dCons [112, 97, 114, 97, 109] (eC (.str [112, 97, 114, 97, 109, 100, 111, 110, 101])) dNil))) (eVar 2)) aNil)))))))))))))
def tw_after_word : Nat → Gtw_after_word
  | 0 => ⟨fun _ => none⟩
  | n + 1 => ⟨runF 2 2 (b_after_word (tw_after_word n))⟩
def b_may_assign : RS :=
  (sSeq (sIf (asB (o2 dEq (eVar 1) (eC (.str [110, 97, 109, 101, 100])))) (sRet (eC (.bl true))) sNx)
    (sRet (andE (o2 dEq (eVar 1) (eC (.str [116, 97, 114, 103, 101, 116]))) (andE (o2 dEq (o2 dIx (e1 (fldOf .gl) (eVar 0)) (eC (.int 0))) (eC (.str [115, 109, 97, 108, 108]))) (o2 dEq (e1 (fldOf .fr) (eVar 0)) (eA mkTup aNil))))))
def m_may_assign : List D → Option D := runF 2 0 b_may_assign
def b_State_with_token : RS :=
  (sRet (eA (mkSt g_dd) (aCons (e1 (fldOf .lv) (eVar 0)) (aCons (e1 (fldOf .gl) (eVar 0)) (aCons (e1 (fldOf .fr) (eVar 0)) (aCons (e1 (fldOf .ph) (eVar 0)) (aCons (eVar 1) aNil)))))))
def m_State_with_token : List D → Option D := runV 0 b_State_with_token
def b_after_short : RS :=
  (sSeq (sUnp [2, 3, 4, 5] (e1 (fldOf .tk) (eVar 0)))
    (sSeq (sIf (asB (o2 dEq (eVar 1) (eC (.str [10])))) (sRet (eC .non)) sNx)
    (sSeq (sIf (tAndE (tNotE (asB (eVar 5))) (asB (o2 dEq (eVar 1) (eVar 3)))) (sRet (eM m_State_in_phase (eVar 0) (aCons (eVar 4) aNil))) sNx)
    (sRet (eM m_State_with_token (eVar 0) (aCons (eC (.str [115, 104, 111, 114, 116])) (aCons (eVar 3) (aCons (eVar 4) (aCons (andE (asV (tNotE (asB (eVar 5)))) (o2 dEq (eVar 1) (eC (.str [92])))) aNil)))))))))
def m_after_short : List D → Option D := runF 2 4 b_after_short
def b_after_long : RS :=
  (sSeq (sUnp [2, 3, 4, 5, 6] (e1 (fldOf .tk) (eVar 0)))
    (sSeq (sIf (tOrE (asB (eVar 6)) (asB (o2 dNotIn (eVar 1) (eA mkTup (aCons (eVar 3) (aCons (eC (.str [92])) aNil)))))) (sRet (eM m_State_with_token (eVar 0) (aCons (eC (.str [108, 111, 110, 103])) (aCons (eVar 3) (aCons (eVar 4) (aCons (eC (.int 0)) (aCons (eC (.bl false)) aNil))))))) sNx)
    (sSeq (sIf (asB (o2 dEq (eVar 1) (eC (.str [92])))) (sRet (eM m_State_with_token (eVar 0) (aCons (eC (.str [108, 111, 110, 103])) (aCons (eVar 3) (aCons (eVar 4) (aCons (eC (.int 0)) (aCons (eC (.bl true)) aNil))))))) sNx)
    (sRet (ifE (asB (o2 dEq (eVar 5) (eC (.int 2)))) (eM m_State_in_phase (eVar 0) (aCons (eVar 4) aNil)) (eM m_State_with_token (eVar 0) (aCons (eC (.str [108, 111, 110, 103])) (aCons (eVar 3) (aCons (eVar 4) (aCons (o2 dAdd (eVar 5) (eC (.int 1))) (aCons (eC (.bl false)) aNil)))))))))))
def m_after_long : List D → Option D := runF 2 5 b_after_long
def b_State_opened : RS :=
  (sRet (eA (mkSt g_dd) (aCons (e1 (fldOf .lv) (eVar 0)) (aCons (e1 (fldOf .gl) (eVar 0)) (aCons (eA mkTup (aStar (e1 (fldOf .fr) (eVar 0)) (aCons (eA mkTup (aCons (eVar 1) (aCons (eVar 2) aNil))) aNil))) (aCons (eVar 3) aNil))))))
def m_State_opened : List D → Option D := runF 4 0 b_State_opened
def b_after_template : RS :=
  (sSeq (sUnp [2, 3, 4] (e1 (fldOf .tk) (eVar 0)))
    (sSeq (sIf (tOrE (asB (o2 dEq (eVar 1) (eC (.str [10])))) (tAndE (asB (o2 dEq (eVar 1) (eC (.str [125])))) (tNotE (asB (eVar 4))))) (sRet (eC .non)) sNx)
    (sSeq (sIf (asB (eVar 4)) (sRet (eM m_State_with_token (eVar 0) (aCons (eC (.str [116, 101, 109, 112, 108, 97, 116, 101])) (aCons (eVar 3) (aCons (eC (.bl false)) aNil))))) sNx)
    (sSeq (sIf (asB (o2 dEq (eVar 1) (eC (.str [123])))) (sRet (eM m_State_opened (eVar 0) (aCons (eC (.str [102])) (aCons (eVar 3) (aCons (eC (.str [111, 112, 101, 114, 97, 110, 100])) aNil))))) sNx)
    (sRet (ifE (asB (o2 dEq (eVar 1) (eC (.str [34])))) (eM m_State_in_phase (eVar 0) (aCons (eVar 3) aNil)) (eM m_State_with_token (eVar 0) (aCons (eC (.str [116, 101, 109, 112, 108, 97, 116, 101])) (aCons (eVar 3) (aCons (o2 dEq (eVar 1) (eC (.str [92]))) aNil))))))))))
def m_after_template : List D → Option D := runF 2 3 b_after_template
def b_State_closed : RS :=
  (sSeq (sUnp [1, 2] (o2 dIx (e1 (fldOf .fr) (eVar 0)) (e1 dNeg (eC (.int 1)))))
    (sSeq (sSet 3 (ifE (asB (o2 dEq (eVar 1) (eC (.str [102])))) (eA mkTup (aCons (eC (.str [116, 101, 109, 112, 108, 97, 116, 101])) (aCons (eVar 2) (aCons (eC (.bl false)) aNil)))) (eA mkTup aNil)))
    (sRet (eA (mkSt g_dd) (aCons (e1 (fldOf .lv) (eVar 0)) (aCons (e1 (fldOf .gl) (eVar 0)) (aCons (eSl (e1 (fldOf .fr) (eVar 0)) pNo (pSome (e1 dNeg (eC (.int 1))))) (aCons (eVar 2) (aCons (eVar 3) aNil)))))))))
def m_State_closed : List D → Option D := runF 1 3 b_State_closed
def b_State_is_prefix : RS :=
  (sSeq (sIf (asB (o2 dIn (e1 (fldOf .ph) (eVar 0)) (eC g_ANY_WORD))) (sRet (eC (.bl true))) sNx)
    (sSeq (sSet 2 (eA mkTup aNil))
    (sSeq (sIf (asB (o2 dIn (e1 (fldOf .ph) (eVar 0)) (eC g_DONE))) (sSet 2 (eC g_BINARY_WORDS)) (sIf (asB (o2 dEq (e1 (fldOf .ph) (eVar 0)) (eC (.str [102, 111, 114, 105, 110])))) (sSet 2 (eA mkTup (aCons (eC (.str [105, 110])) aNil))) (sIf (asB (o2 dEq (e1 (fldOf .ph) (eVar 0)) (eC (.str [99, 108, 97, 117, 115, 101])))) (sSet 2 (e1 (dKix g_CLAUSES) (o2 dIx (e1 (fldOf .gl) (eVar 0)) (eC (.int 1))))) sNx)))
    (sRet (eA (f1 any1) (aCons (eLc (aName 3) (seqTup (eVar 2)) tYesR (o2 d_startswith (eVar 3) (eVar 1)) [3]) aNil))))))
def m_State_is_prefix : List D → Option D := runF 2 2 b_State_is_prefix
def b_State_innermost : RS :=
  (sRet (ifE (asB (o2 dNe (e1 (fldOf .fr) (eVar 0)) (eA mkTup aNil))) (o2 dIx (o2 dIx (e1 (fldOf .fr) (eVar 0)) (e1 dNeg (eC (.int 1)))) (eC (.int 0))) (eC (.str []))))
def m_State_innermost : List D → Option D := runF 1 0 b_State_innermost
def b_State_reframed : RS :=
  (sSeq (sSet 3 (o2 dIx (o2 dIx (e1 (fldOf .fr) (eVar 0)) (e1 dNeg (eC (.int 1)))) (eC (.int 1))))
    (sRet (eA (mkSt g_dd) (aCons (e1 (fldOf .lv) (eVar 0)) (aCons (e1 (fldOf .gl) (eVar 0)) (aCons (eA mkTup (aStar (eSl (e1 (fldOf .fr) (eVar 0)) pNo (pSome (e1 dNeg (eC (.int 1))))) (aCons (eA mkTup (aCons (eVar 1) (aCons (eVar 3) aNil))) aNil))) (aCons (eVar 2) aNil)))))))
def m_State_reframed : List D → Option D := runF 3 1 b_State_reframed
def b_after_colon : RS :=
  (sSeq (sIf (asB (o2 dEq (eM m_State_innermost (eVar 0) aNil) (eC (.str [123, 107])))) (sRet (eM m_State_reframed (eVar 0) (aCons (eC (.str [123, 118])) (aCons (eC (.str [111, 112, 101, 114, 97, 110, 100])) aNil)))) sNx)
    (sSeq (sIf (tOrE (asB (o2 dNe (e1 (fldOf .fr) (eVar 0)) (eA mkTup aNil))) (asB (o2 dNe (o2 dIx (e1 (fldOf .gl) (eVar 0)) (eC (.int 0))) (eC (.str [104, 101, 97, 100]))))) (sRet (eC .non)) sNx)
    (sSeq (sUnp [1, 2, 3, 4] (e1 (fldOf .gl) (eVar 0)))
    (sRet (eA (mkSt g_dd) (aCons (e1 (fldOf .lv) (eVar 0)) (aCons (eA mkTup (aCons (eC (.str [115, 109, 97, 108, 108])) (aCons (eVar 2) (aCons (eVar 3) (aCons (eVar 4) (aCons (eC (.bl false)) aNil)))))) (aCons (eA mkTup aNil) (aCons (eC (.str [115, 117, 105, 116, 101])) aNil)))))))))
def m_after_colon : List D → Option D := runF 1 4 b_after_colon
def b_after_comma : RS :=
  (sSeq (sMatch (eM m_State_innermost (eVar 0) aNil) (mCase [[40], [91]] (sRet (eM m_State_in_phase (eVar 0) (aCons (eC (.str [102, 105, 114, 115, 116])) aNil)))
    (mCase [[99]] (sRet (eM m_State_in_phase (eVar 0) (aCons (eC (.str [97, 114, 103])) aNil)))
    (mCase [[123, 118]] (sRet (eM m_State_reframed (eVar 0) (aCons (eC (.str [123, 107])) (aCons (eC (.str [102, 105, 114, 115, 116])) aNil))))
    (mCase [[112]] (sRet (eM m_State_in_phase (eVar 0) (aCons (eC (.str [112, 97, 114, 97, 109])) aNil)))
    mNil)))))
    (sRet (eC .non)))
def m_after_comma : List D → Option D := runF 1 0 b_after_comma
def b_after_done_sign : RS :=
  (sSeq (sPar 2 3 (e1 (fldOf .ph) (eVar 0)) (eM m_State_innermost (eVar 0) aNil))
    (sSeq (sIf (asB (o2 dIn (eVar 1) (eC (.str [43, 45, 42, 47])))) (sRet (eM m_State_in_phase (eVar 0) (aCons (eC (.str [111, 112, 101, 114, 97, 110, 100])) aNil))) sNx)
    (sSeq (sIf (asB (o2 dIn (eVar 1) (eC (.str [60, 62])))) (sRet (eM m_State_with_token (eVar 0) (aCons (eC (.str [108, 101, 115, 115])) aNil))) sNx)
    (sSeq (sIf (asB (o2 dIn (eVar 1) (eC (.str [61, 33])))) (sRet (eM m_State_with_token (eVar 0) (aCons (ifE (asB (o2 dEq (eVar 1) (eC (.str [61])))) (eC (.str [101, 113, 117, 97, 108])) (eC (.str [98, 97, 110, 103]))) aNil))) sNx)
    (sSeq (sIf (tAndE (asB (o2 dNe (eVar 2) (eC (.str [115, 101, 97, 108, 101, 100])))) (asB (o2 dIn (eVar 1) (eC (.str [46, 40, 91]))))) (sSeq (sIf (asB (o2 dEq (eVar 1) (eC (.str [46])))) (sRet (eM m_State_in_phase (eVar 0) (aCons (ifE (asB (o2 dIn (eVar 2) (eC g_CHAINS))) (eC (.str [99, 104, 97, 105, 110, 110, 97, 109, 101])) (eC (.str [110, 97, 109, 101]))) aNil))) sNx)
    (sSeq (sIf (asB (o2 dEq (eVar 1) (eC (.str [40])))) (sRet (eM m_State_opened (eVar 0) (aCons (eC (.str [99])) (aCons (ifE (asB (o2 dIn (eVar 2) (eC g_CHAINS))) (eC (.str [99, 104, 97, 105, 110])) (eC (.str [97, 102, 116, 101, 114]))) (aCons (eC (.str [97, 114, 103])) aNil))))) sNx)
    (sRet (eM m_State_opened (eVar 0) (aCons (eC (.str [105])) (aCons (ifE (asB (o2 dIn (eVar 2) (eC g_CHAINS))) (eC (.str [116, 97, 114, 103, 101, 116])) (eC (.str [97, 102, 116, 101, 114]))) (aCons (eC (.str [111, 112, 101, 114, 97, 110, 100])) aNil))))))) sNx)
    (sSeq (sIf (asB (o2 dEq (eVar 1) (eC (.str [44])))) (sRet (eA m_after_comma (aCons (eVar 0) aNil))) sNx)
    (sSeq (sIf (asB (o2 dEq (eVar 1) (eC (.str [58])))) (sRet (eA m_after_colon (aCons (eVar 0) aNil))) sNx)
    (sSeq (sIf (asB (o2 dEq (eVar 1) (eC (.str [59])))) (sRet (ifE (tAndE (asB (o2 dEq (e1 (fldOf .fr) (eVar 0)) (eA mkTup aNil))) (asB (o2 dEq (o2 dIx (e1 (fldOf .gl) (eVar 0)) (eC (.int 0))) (eC (.str [115, 109, 97, 108, 108]))))) (eM m_State_in_phase (eVar 0) (aCons (eC (.str [109, 111, 114, 101])) aNil)) (eC .non))) sNx)
    (sRet (ifE (tAndE (asB (o2 dNotIn (eVar 3) (eA mkTup (aCons (eC (.str [])) (aCons (eC (.str [123, 107])) (aCons (eC (.str [112])) aNil)))))) (asB (o2 dEq (eVar 1) (e1 (dKix g_CLOSERS) (eVar 3))))) (eM m_State_closed (eVar 0) aNil) (eC .non)))))))))))
def m_after_done_sign : List D → Option D := runF 2 2 b_after_done_sign
def b_after_operand_sign : RS :=
  (sSeq (sSet 2 (e1 (fldOf .ph) (eVar 0)))
    (sSeq (sSet 3 (ifE (asB (o2 dIn (eVar 2) (eC g_STARTS))) (eC (.str [99, 104, 97, 105, 110])) (eC (.str [97, 102, 116, 101, 114]))))
    (sSeq (sIf (asB (o2 dIn (eVar 1) (eC g_DIGITS_states))) (sRet (eM m_State_with_token (eVar 0) (aCons (eC (.str [110, 117, 109, 98, 101, 114])) (aCons (ifE (asB (o2 dEq (eVar 1) (eC (.str [48])))) (eC (.str [48])) (eC (.str [49]))) aNil)))) sNx)
    (sSeq (sIf (asB (o2 dIn (eVar 1) (eC (.str [39, 34])))) (sRet (eM m_State_in_phase (eVar 0) (aCons (eC (.str [])) (aCons (eA mkTup (aCons (eC (.str [113, 117, 111, 116, 101])) (aCons (eVar 1) (aCons (eVar 3) aNil)))) aNil)))) sNx)
    (sSeq (sIf (asB (o2 dEq (eVar 1) (eC (.str [36])))) (sRet (eM m_State_in_phase (eVar 0) (aCons (eC (.str [])) (aCons (eA mkTup (aCons (eC (.str [100, 111, 108, 108, 97, 114])) (aCons (eVar 3) aNil))) aNil)))) sNx)
    (sSeq (sIf (asB (o2 dEq (eVar 1) (eC (.str [45])))) (sRet (eM m_State_in_phase (eVar 0) (aCons (eC (.str [111, 112, 101, 114, 97, 110, 100])) aNil))) sNx)
    (sSeq (sIf (asB (o2 dIn (eVar 1) (eC (.str [40, 91, 123])))) (sRet (eM m_State_opened (eVar 0) (aCons (ifE (asB (o2 dEq (eVar 1) (eC (.str [123])))) (eC (.str [123, 107])) (eVar 1)) (aCons (eVar 3) (aCons (eC (.str [102, 105, 114, 115, 116])) aNil))))) sNx)
    (sSeq (sIf (tAndE (asB (o2 dIn (eVar 2) (eA mkTup (aCons (eC (.str [102, 105, 114, 115, 116])) (aCons (eC (.str [97, 114, 103])) aNil))))) (asB (o2 dEq (eVar 1) (e1 (dKix g_CLOSERS) (eM m_State_innermost (eVar 0) aNil))))) (sRet (eM m_State_closed (eVar 0) aNil)) sNx)
    (sRet (ifE (tAndE (asB (o2 dEq (eVar 2) (eC (.str [109, 97, 121, 98, 101])))) (asB (o2 dEq (eVar 1) (eC (.str [59]))))) (eM m_State_in_phase (eVar 0) (aCons (eC (.str [109, 111, 114, 101])) aNil)) (eC .non)))))))))))
def m_after_operand_sign : List D → Option D := runF 2 2 b_after_operand_sign
structure Gtw_after_code_sign where
  after_code_sign : List D → Option D
def b_after_code_sign (g : Gtw_after_code_sign) : RS :=
  (sSeq (sSet 2 (e1 (fldOf .ph) (eVar 0)))
    (sSeq (sIf (asB (o2 dIn (eVar 1) (eC g_LETTERS))) (sRet (ifE (asB (eM m_State_is_prefix (eVar 0) (aCons (eVar 1) aNil))) (eM m_State_with_token (eVar 0) (aCons (eC (.str [119, 111, 114, 100])) (aCons (eVar 1) aNil))) (eC .non))) sNx)
    (sSeq (sIf (asB (o2 dEq (eVar 2) (eC (.str [115, 116, 97, 116, 101, 109, 101, 110, 116])))) (sRet (eA g.after_code_sign (aCons (eA m_small_begun (aCons (eVar 0) aNil)) (aCons (eVar 1) aNil)))) sNx)
    (sSeq (sIf (asB (o2 dIn (eVar 2) (eC g_OPERANDS))) (sRet (eA m_after_operand_sign (aCons (eVar 0) (aCons (eVar 1) aNil)))) sNx)
    (sSeq (sIf (asB (o2 dIn (eVar 2) (eC g_DONE))) (sRet (eA m_after_done_sign (aCons (eVar 0) (aCons (eVar 1) aNil)))) sNx)
    (sSeq (sIf (tAndE (asB (o2 dEq (eVar 2) (eC (.str [101, 110, 100])))) (asB (o2 dEq (eVar 1) (eC (.str [59]))))) (sRet (eM m_State_in_phase (eVar 0) (aCons (eC (.str [109, 111, 114, 101])) aNil))) sNx)
    (sSeq (sIf (tAndE (asB (o2 dIn (eVar 2) (eA mkTup (aCons (eC (.str [99, 111, 108, 111, 110])) (aCons (eC (.str [101, 120, 99, 101, 112, 116, 110, 97, 109, 101])) aNil))))) (asB (o2 dEq (eVar 1) (eC (.str [58]))))) (sRet (eA m_after_colon (aCons (eVar 0) aNil))) sNx)
    (sSeq (sIf (tAndE (asB (o2 dEq (eVar 2) (eC (.str [100, 101, 102, 111, 112, 101, 110])))) (asB (o2 dEq (eVar 1) (eC (.str [40]))))) (sRet (eM m_State_opened (eVar 0) (aCons (eC (.str [112])) (aCons (eC (.str [99, 111, 108, 111, 110])) (aCons (eC (.str [112, 97, 114, 97, 109])) aNil))))) sNx)
    (sSeq (sIf (tAndE (asB (o2 dIn (eVar 2) (eA mkTup (aCons (eC (.str [112, 97, 114, 97, 109])) (aCons (eC (.str [112, 97, 114, 97, 109, 100, 111, 110, 101])) aNil))))) (asB (o2 dEq (eVar 1) (eC (.str [41]))))) (sRet (eM m_State_closed (eVar 0) aNil)) sNx)
    (sRet (ifE (tAndE (asB (o2 dEq (eVar 2) (eC (.str [112, 97, 114, 97, 109, 100, 111, 110, 101])))) (asB (o2 dEq (eVar 1) (eC (.str [44]))))) (eA m_after_comma (aCons (eVar 0) aNil)) (eC .non))))))))))))
def tw_after_code_sign : Nat → Gtw_after_code_sign
  | 0 => ⟨fun _ => none⟩
  | n + 1 => ⟨runF 2 1 (b_after_code_sign (tw_after_code_sign n))⟩
def b_after_start_sign : RS :=
  (sSeq (sUnp [2, 3, 4] (e1 (fldOf .gl) (eVar 0)))
    (sSeq (sIf (asB (o2 dEq (eVar 1) (eC (.str [32])))) (sRet (eA (mkSt g_dd) (aCons (e1 (fldOf .lv) (eVar 0)) (aCons (eA mkTup (aCons (eC (.str [115, 116, 97, 114, 116])) (aCons (o2 dAdd (eVar 3) (eC (.int 1))) (aCons (eVar 4) aNil)))) aNil)))) sNx)
    (sSeq (sIf (asB (o2 dEq (eVar 1) (eC (.str [35])))) (sRet (eM m_State_with_token (eVar 0) (aCons (eC (.str [99, 111, 109, 109, 101, 110, 116])) aNil))) sNx)
    (sSeq (sIf (asB (o2 dEq (eVar 1) (eC (.str [10])))) (sRet (eA m_after_empty_line (aCons (eVar 0) aNil))) sNx)
    (sSeq (sSet 5 (eA m_line_begun (aCons (eVar 0) aNil)))
    (sRet (ifE (tOrE (asB (o2 dIs (eVar 5) (eC .non))) (asB (o2 dEq (eVar 1) (eC (.str [92]))))) (eC .non) (eA (tw_after_code_sign 3).after_code_sign (aCons (eVar 5) (aCons (eVar 1) aNil))))))))))
def m_after_start_sign : List D → Option D := runF 2 4 b_after_start_sign
def b_after_plain : RS :=
  (sSeq (sIf (asB (o2 dEq (o2 dIx (e1 (fldOf .gl) (eVar 0)) (eC (.int 0))) (eC (.str [100, 111, 110, 101])))) (sRet (eC .non)) sNx)
    (sSeq (sIf (asB (o2 dEq (o2 dIx (e1 (fldOf .gl) (eVar 0)) (eC (.int 0))) (eC (.str [115, 116, 97, 114, 116])))) (sRet (eA m_after_start_sign (aCons (eVar 0) (aCons (eVar 1) aNil)))) sNx)
    (sSeq (sIf (tOrE (asB (o2 dEq (eVar 1) (eC (.str [32])))) (tAndE (asB (o2 dEq (eVar 1) (eC (.str [10])))) (asB (o2 dNe (e1 (fldOf .fr) (eVar 0)) (eA mkTup aNil))))) (sRet (eVar 0)) sNx)
    (sSeq (sIf (asB (o2 dEq (eVar 1) (eC (.str [92])))) (sRet (eM m_State_with_token (eVar 0) (aCons (eC (.str [106, 111, 105, 110])) aNil))) sNx)
    (sSeq (sIf (asB (o2 dEq (eVar 1) (eC (.str [10])))) (sRet (eA m_after_line (aCons (eVar 0) aNil))) sNx)
    (sSeq (sIf (asB (o2 dEq (eVar 1) (eC (.str [35])))) (sRet (ifE (tOrE (asB (o2 dNe (e1 (fldOf .fr) (eVar 0)) (eA mkTup aNil))) (asB (o2 dIsNot (eA m_after_line (aCons (eVar 0) aNil)) (eC .non)))) (eM m_State_with_token (eVar 0) (aCons (eC (.str [99, 111, 109, 109, 101, 110, 116])) aNil)) (eC .non))) sNx)
    (sRet (eA (tw_after_code_sign 3).after_code_sign (aCons (eVar 0) (aCons (eVar 1) aNil))))))))))
def m_after_plain : List D → Option D := runF 2 0 b_after_plain
def b_after_operator : RS :=
  (sSeq (sSet 2 (o2 dIx (e1 (fldOf .tk) (eVar 0)) (eC (.int 0))))
    (sSeq (sIf (asB (o2 dEq (eVar 1) (eC (.str [61])))) (sRet (eM m_State_in_phase (eVar 0) (aCons (eC (.str [111, 112, 101, 114, 97, 110, 100])) aNil))) sNx)
    (sSeq (sIf (tOrE (asB (o2 dEq (eVar 2) (eC (.str [108, 101, 115, 115])))) (tAndE (asB (o2 dEq (eVar 2) (eC (.str [101, 113, 117, 97, 108])))) (asB (eA m_may_assign (aCons (eVar 0) (aCons (e1 (fldOf .ph) (eVar 0)) aNil)))))) (sRet (eA m_after_plain (aCons (eM m_State_in_phase (eVar 0) (aCons (eC (.str [111, 112, 101, 114, 97, 110, 100])) aNil)) (aCons (eVar 1) aNil)))) sNx)
    (sRet (eC .non)))))
def m_after_operator : List D → Option D := runF 2 1 b_after_operator
def b_after_word_sign : RS :=
  (sSeq (sSet 2 (o2 dIx (e1 (fldOf .tk) (eVar 0)) (eC (.int 1))))
    (sSeq (sIf (tOrE (asB (o2 dIn (eVar 1) (eC g_LETTERS))) (asB (o2 dIn (eVar 1) (eC g_DIGITS_states)))) (sRet (ifE (asB (eM m_State_is_prefix (eVar 0) (aCons (o2 dAdd (eVar 2) (eVar 1)) aNil))) (eM m_State_with_token (eVar 0) (aCons (eC (.str [119, 111, 114, 100])) (aCons (o2 dAdd (eVar 2) (eVar 1)) aNil))) (eC .non))) sNx)
    (sSeq (sSet 3 (eA (tw_after_word 3).after_word (aCons (eVar 0) (aCons (eVar 2) aNil))))
    (sRet (ifE (asB (o2 dIs (eVar 3) (eC .non))) (eC .non) (eA m_after_plain (aCons (eVar 3) (aCons (eVar 1) aNil))))))))
def m_after_word_sign : List D → Option D := runF 2 2 b_after_word_sign
def b_after_number : RS :=
  (sSeq (sIf (tAndE (asB (o2 dIn (eVar 1) (eC g_DIGITS_states))) (asB (o2 dEq (o2 dIx (e1 (fldOf .tk) (eVar 0)) (eC (.int 1))) (eC (.str [49]))))) (sRet (eVar 0)) sNx)
    (sSeq (sIf (tOrE (asB (o2 dIn (eVar 1) (eC g_LETTERS))) (asB (o2 dIn (eVar 1) (eC g_DIGITS_states)))) (sRet (eC .non)) sNx)
    (sRet (eA m_after_plain (aCons (eM m_State_in_phase (eVar 0) (aCons (eC (.str [115, 101, 97, 108, 101, 100])) aNil)) (aCons (eVar 1) aNil))))))
def m_after_number : List D → Option D := runF 2 0 b_after_number
def b_after_quote : RS :=
  (sSeq (sUnp [2, 3, 4] (e1 (fldOf .tk) (eVar 0)))
    (sSeq (sIf (asB (o2 dEq (eVar 2) (eC (.str [101, 109, 112, 116, 121])))) (sSeq (sIf (asB (o2 dEq (eVar 1) (eVar 3))) (sRet (eM m_State_with_token (eVar 0) (aCons (eC (.str [108, 111, 110, 103])) (aCons (eVar 3) (aCons (eVar 4) (aCons (eC (.int 0)) (aCons (eC (.bl false)) aNil))))))) sNx)
    (sRet (eA m_after_plain (aCons (eM m_State_in_phase (eVar 0) (aCons (eVar 4) aNil)) (aCons (eVar 1) aNil))))) sNx)
    (sSeq (sIf (asB (o2 dEq (eVar 1) (eVar 3))) (sRet (eM m_State_with_token (eVar 0) (aCons (eC (.str [101, 109, 112, 116, 121])) (aCons (eVar 3) (aCons (eVar 4) aNil))))) sNx)
    (sRet (eA m_after_short (aCons (eM m_State_with_token (eVar 0) (aCons (eC (.str [115, 104, 111, 114, 116])) (aCons (eVar 3) (aCons (eVar 4) (aCons (eC (.bl false)) aNil))))) (aCons (eVar 1) aNil)))))))
def m_after_quote : List D → Option D := runF 2 3 b_after_quote
def b_after_token : RS :=
  (sSeq (sMatch (o2 dIx (e1 (fldOf .tk) (eVar 0)) (eC (.int 0))) (mCase [[119, 111, 114, 100]] (sRet (eA m_after_word_sign (aCons (eVar 0) (aCons (eVar 1) aNil))))
    (mCase [[110, 117, 109, 98, 101, 114]] (sRet (eA m_after_number (aCons (eVar 0) (aCons (eVar 1) aNil))))
    (mCase [[115, 104, 111, 114, 116]] (sRet (eA m_after_short (aCons (eVar 0) (aCons (eVar 1) aNil))))
    (mCase [[108, 111, 110, 103]] (sRet (eA m_after_long (aCons (eVar 0) (aCons (eVar 1) aNil))))
    (mCase [[116, 101, 109, 112, 108, 97, 116, 101]] (sRet (eA m_after_template (aCons (eVar 0) (aCons (eVar 1) aNil))))
    (mCase [[113, 117, 111, 116, 101], [101, 109, 112, 116, 121]] (sRet (eA m_after_quote (aCons (eVar 0) (aCons (eVar 1) aNil))))
    (mCase [[108, 101, 115, 115], [101, 113, 117, 97, 108], [98, 97, 110, 103]] (sRet (eA m_after_operator (aCons (eVar 0) (aCons (eVar 1) aNil))))
    (mCase [[100, 111, 108, 108, 97, 114]] (sRet (ifE (asB (o2 dEq (eVar 1) (eC (.str [34])))) (eM m_State_with_token (eVar 0) (aCons (eC (.str [116, 101, 109, 112, 108, 97, 116, 101])) (aCons (o2 dIx (e1 (fldOf .tk) (eVar 0)) (eC (.int 1))) (aCons (eC (.bl false)) aNil)))) (eC .non)))
    (mCase [[106, 111, 105, 110]] (sRet (ifE (asB (o2 dEq (eVar 1) (eC (.str [10])))) (eM m_State_in_phase (eVar 0) (aCons (e1 (fldOf .ph) (eVar 0)) aNil)) (eC .non)))
    mNil))))))))))
    (sRet (ifE (asB (o2 dEq (eVar 1) (eC (.str [10])))) (eA m_after_plain (aCons (eM m_State_in_phase (eVar 0) (aCons (e1 (fldOf .ph) (eVar 0)) aNil)) (aCons (eVar 1) aNil))) (eVar 0))))
def m_after_token : List D → Option D := runF 2 0 b_after_token
def b_next_state : RS :=
  (sSeq (sIf (asB (o2 dEq (e1 (fldOf .tk) (eVar 0)) (eA mkTup aNil))) (sRet (eA m_after_plain (aCons (eVar 0) (aCons (eVar 1) aNil)))) sNx)
    (sSeq (sIf (tAndE (asB (o2 dEq (e1 (fldOf .tk) (eVar 0)) (eA mkTup (aCons (eC (.str [99, 111, 109, 109, 101, 110, 116])) aNil)))) (tAndE (asB (o2 dEq (o2 dIx (e1 (fldOf .gl) (eVar 0)) (eC (.int 0))) (eC (.str [115, 116, 97, 114, 116])))) (asB (o2 dEq (eVar 1) (eC (.str [10])))))) (sRet (eA (mkSt g_dd) (aCons (e1 (fldOf .lv) (eVar 0)) (aCons (eA mkTup (aCons (eC (.str [115, 116, 97, 114, 116])) (aCons (eC (.int 0)) (aCons (o2 dIx (e1 (fldOf .gl) (eVar 0)) (eC (.int 2))) aNil)))) aNil)))) sNx)
    (sRet (eA m_after_token (aCons (eVar 0) (aCons (eVar 1) aNil))))))
def m_next_state : List D → Option D := runF 2 0 b_next_state
def b_state_behind : RS :=
  (sSeq (sFor (aTup [2, 3]) (seqEnS (eVar 1)) (sSeq (sSet 4 (eA m_next_state (aCons (eVar 0) (aCons (eVar 3) aNil))))
    (sSeq (sIf (asB (o2 dIs (eVar 4) (eC .non))) (sRet (eA mkTup (aCons (eC .non) (aCons (eVar 2) aNil)))) sNx)
    (sSet 0 (eVar 4)))))
    (sRet (eA mkTup (aCons (eVar 0) (aCons (eA (f1 len1) (aCons (eVar 1) aNil)) aNil)))))
def m_state_behind : List D → Option D := runF 2 3 b_state_behind
def b_state_of : RS :=
  (sRet (eA m_state_behind (aCons (eA (mkSt g_dd) aNil) (aCons (eVar 0) aNil))))
def m_state_of : List D → Option D := runF 1 0 b_state_of
def b_is_entry_state : RS :=
  (sRet (o2 dEq (o2 dIx (e1 (fldOf .gl) (eVar 0)) (eC (.int 0))) (eC (.str [100, 111, 110, 101]))))
def m_is_entry_state : List D → Option D := runF 1 0 b_is_entry_state
def b_run_on : RS :=
  (sSeq (sFor (aName 2) (seqStr (eVar 1)) (sSet 0 (ifE (asB (o2 dIs (eVar 0) (eC .non))) (eC .non) (eA m_next_state (aCons (eVar 0) (aCons (eVar 2) aNil))))))
    (sRet (eVar 0)))
def m_run_on : List D → Option D := runF 2 1 b_run_on
def b_word_end : RS :=
  (sSeq (sSet 1 (o2 dIx (e1 (fldOf .tk) (eVar 0)) (eC (.int 1))))
    (sSeq (sIf (asB (o2 dIn (e1 (fldOf .ph) (eVar 0)) (eC g_ANY_WORD))) (sRet (ifE (asB (o2 dIsNot (eA m_next_state (aCons (eVar 0) (aCons (eC (.str [32])) aNil))) (eC .non))) (eC (.str [32])) (eC (.str [120, 32])))) sNx)
    (sSeq (sIf (asB (o2 dIn (e1 (fldOf .ph) (eVar 0)) (eC g_DONE))) (sSet 2 (eC g_BINARY_WORDS)) (sSet 2 (ifE (asB (o2 dEq (e1 (fldOf .ph) (eVar 0)) (eC (.str [102, 111, 114, 105, 110])))) (eA mkTup (aCons (eC (.str [105, 110])) aNil)) (e1 (dKix g_CLAUSES) (o2 dIx (e1 (fldOf .gl) (eVar 0)) (eC (.int 1)))))))
    (sSeq (sSet 3 (eLc (aName 4) (seqTup (eVar 2)) (asB (o2 d_startswith (eVar 4) (eVar 1))) (eVar 4) [4]))
    (sRet (o2 dAdd (eSl (o2 dIx (eVar 3) (eC (.int 0))) (pSome (eA (f1 len1) (aCons (eVar 1) aNil))) pNo) (eC (.str [32]))))))))
def m_word_end : List D → Option D := runF 1 4 b_word_end
def b_token_end : RS :=
  (sSeq (sPar 1 2 (o2 dIx (e1 (fldOf .tk) (eVar 0)) (eC (.int 0))) (e1 (fldOf .tk) (eVar 0)))
    (sSeq (sIf (asB (o2 dEq (eVar 1) (eC (.str [119, 111, 114, 100])))) (sRet (eA m_word_end (aCons (eVar 0) aNil))) sNx)
    (sSeq (sIf (asB (o2 dEq (eVar 1) (eC (.str [113, 117, 111, 116, 101])))) (sRet (o2 dIx (eVar 2) (eC (.int 1)))) sNx)
    (sSeq (sIf (asB (o2 dEq (eVar 1) (eC (.str [115, 104, 111, 114, 116])))) (sRet (ifE (asB (o2 dIx (eVar 2) (eC (.int 3)))) (o2 dAdd (eC (.str [120])) (o2 dIx (eVar 2) (eC (.int 1)))) (o2 dIx (eVar 2) (eC (.int 1))))) sNx)
    (sSeq (sIf (asB (o2 dEq (eVar 1) (eC (.str [108, 111, 110, 103])))) (sRet (ifE (asB (o2 dIx (eVar 2) (eC (.int 4)))) (o2 dAdd (eC (.str [120])) (o2 dMul (o2 dIx (eVar 2) (eC (.int 1))) (eC (.int 3)))) (o2 dMul (o2 dIx (eVar 2) (eC (.int 1))) (o2 dSub (eC (.int 3)) (o2 dIx (eVar 2) (eC (.int 3))))))) sNx)
    (sSeq (sIf (asB (o2 dEq (eVar 1) (eC (.str [116, 101, 109, 112, 108, 97, 116, 101])))) (sRet (ifE (asB (o2 dIx (eVar 2) (eC (.int 2)))) (eC (.str [120, 34])) (eC (.str [34])))) sNx)
    (sSeq (sIf (asB (o2 dIn (eVar 1) (eA mkTup (aCons (eC (.str [100, 111, 108, 108, 97, 114])) (aCons (eC (.str [106, 111, 105, 110])) (aCons (eC (.str [99, 111, 109, 109, 101, 110, 116])) aNil)))))) (sRet (ifE (asB (o2 dEq (eVar 1) (eC (.str [100, 111, 108, 108, 97, 114])))) (eC (.str [34])) (eC (.str [10])))) sNx)
    (sRet (ifE (asB (o2 dIsNot (eA m_next_state (aCons (eVar 0) (aCons (eC (.str [32])) aNil))) (eC .non))) (eC (.str [32])) (eC (.str [61])))))))))))
def m_token_end : List D → Option D := runF 1 2 b_token_end
def b_line_start : RS :=
  (sSeq (sUnp [1, 2, 3] (e1 (fldOf .gl) (eVar 0)))
    (sSeq (sIf (asB (o2 dEq (e1 (fldOf .lv) (eVar 0)) (eA mkTup aNil))) (sRet (ifE (asB (o2 dEq (eVar 2) (eC (.int 0)))) (eC (.str [48, 10])) (eC (.str [10])))) sNx)
    (sSeq (sIf (asB (o2 dNe (eVar 3) (eA mkTup aNil))) (sRet (o2 dAdd (o2 dMul (eC (.str [32])) (eA (f2 max2) (aCons (eC (.int 0)) (aCons (o2 dSub (o2 dAdd (o2 dIx (o2 dIx (e1 (fldOf .lv) (eVar 0)) (e1 dNeg (eC (.int 1)))) (eC (.int 0))) (eC (.int 1))) (eVar 2)) aNil)))) (eC (.str [48, 10])))) sNx)
    (sSeq (sSet 4 (eLc (aName 5) (seqTup (e1 (fldOf .lv) (eVar 0))) (asB (o2 dEq (o2 dIx (eVar 5) (eC (.int 1))) (eC (.str [116, 114, 121])))) (o2 dIx (eVar 5) (eC (.int 0))) [5]))
    (sSeq (sIf (asB (o2 dEq (eVar 4) (eA mkLst aNil))) (sRet (eC (.str [10]))) sNx)
    (sRet (ifE (asB (o2 dGt (eVar 2) (o2 dIx (eVar 4) (e1 dNeg (eC (.int 1)))))) (eC (.str [35, 10])) (o2 dAdd (o2 dMul (eC (.str [32])) (o2 dSub (o2 dIx (eVar 4) (e1 dNeg (eC (.int 1)))) (eVar 2))) (eC (.str [102, 105, 110, 97, 108, 108, 121, 58, 48, 10]))))))))))
def m_line_start : List D → Option D := runF 1 5 b_line_start
def b_phase_end : RS :=
  (sSeq (sPar 1 2 (e1 (fldOf .ph) (eVar 0)) (eM m_State_innermost (eVar 0) aNil))
    (sSeq (sIf (asB (o2 dIn (eVar 1) (eA mkTup (aCons (eC (.str [111, 112, 101, 114, 97, 110, 100])) (aCons (eC (.str [98, 101, 103, 105, 110])) (aCons (eC (.str [115, 117, 105, 116, 101])) aNil)))))) (sRet (eC (.str [48]))) sNx)
    (sSeq (sIf (asB (o2 dIn (eVar 1) (eC g_NAMES))) (sRet (eC (.str [120, 32]))) sNx)
    (sSeq (sIf (tOrE (asB (o2 dIn (eVar 1) (eA mkTup (aCons (eC (.str [102, 105, 114, 115, 116])) (aCons (eC (.str [97, 114, 103])) (aCons (eC (.str [112, 97, 114, 97, 109])) (aCons (eC (.str [112, 97, 114, 97, 109, 100, 111, 110, 101])) aNil))))))) (tAndE (asB (o2 dIn (eVar 1) (eC g_DONE))) (asB (o2 dNotIn (eVar 2) (eA mkTup (aCons (eC (.str [])) (aCons (eC (.str [123, 107])) aNil))))))) (sRet (e1 (dKix g_CLOSERS) (eVar 2))) sNx)
    (sSeq (sIf (asB (o2 dIn (eVar 1) (eC g_DONE))) (sRet (ifE (tOrE (asB (o2 dEq (eVar 2) (eC (.str [123, 107])))) (asB (o2 dEq (o2 dIx (e1 (fldOf .gl) (eVar 0)) (eC (.int 0))) (eC (.str [104, 101, 97, 100]))))) (eC (.str [58])) (eC (.str [10])))) sNx)
    (sRet (o3 d_get (eDic (dCons [102, 111, 114, 105, 110] (eC (.str [105, 110, 32])) (dCons [100, 101, 102, 111, 112, 101, 110] (eC (.str [40])) (dCons [99, 111, 108, 111, 110] (eC (.str [58])) (dCons [101, 120, 99, 101, 112, 116, 110, 97, 109, 101] (eC (.str [58])) dNil))))) (eVar 1) (eC (.str [10])))))))))
def m_phase_end : List D → Option D := runF 1 2 b_phase_end
def b_completion_of : RS :=
  (sSeq (sSet 1 (eC (.str [])))
    (sSeq (whileD (tNotE (asB (eA m_is_entry_state (aCons (eVar 0) aNil)))) (sSeq (sIf (asB (o2 dNe (e1 (fldOf .tk) (eVar 0)) (eA mkTup aNil))) (sSet 2 (eA m_token_end (aCons (eVar 0) aNil))) (sSet 2 (ifE (asB (o2 dEq (o2 dIx (e1 (fldOf .gl) (eVar 0)) (eC (.int 0))) (eC (.str [115, 116, 97, 114, 116])))) (eA m_line_start (aCons (eVar 0) aNil)) (eA m_phase_end (aCons (eVar 0) aNil)))))
    (sSeq (sSet 1 (o2 dAdd (eVar 1) (eVar 2)))
    (sSet 0 (eA m_run_on (aCons (eVar 0) (aCons (eVar 2) aNil)))))) 60)
    (sRet (eVar 1))))
def m_completion_of : List D → Option D := runF 1 2 b_completion_of
def b_lead_state : RS :=
  (sSeq (sIf (tOrE (tNotE (asB (eA m_is_text (aCons (eVar 0) aNil)))) (tAndE (asB (o2 dNe (eVar 0) (eC (.str [])))) (tNotE (asB (o2 d_endswith (eVar 0) (eC (.str [10]))))))) (sRet (eC .non)) sNx)
    (sRet (o2 dIx (eA m_state_of (aCons (eVar 0) aNil)) (eC (.int 0)))))
def m_lead_state : List D → Option D := runF 1 0 b_lead_state
def b_need_lead : RS :=
  (sSeq (sSet 1 (eA m_lead_state (aCons (eVar 0) aNil)))
    (sSeq (sIf (asB (o2 dIs (eVar 1) (eC .non))) sNo sNx)
    (sRet (eVar 1))))
def m_need_lead : List D → Option D := runF 1 1 b_need_lead
def b_State_parts : RS :=
  (sRet (eA mkTup (aCons (e1 (fldOf .lv) (eVar 0)) (aCons (e1 (fldOf .gl) (eVar 0)) (aCons (e1 (fldOf .fr) (eVar 0)) (aCons (e1 (fldOf .ph) (eVar 0)) (aCons (e1 (fldOf .tk) (eVar 0)) aNil)))))))
def m_State_parts : List D → Option D := runF 1 0 b_State_parts
def b_are_alike : RS :=
  (sSeq (sPar 2 3 (eA m_need_lead (aCons (eVar 0) aNil)) (eA m_need_lead (aCons (eVar 1) aNil)))
    (sRet (o2 dEq (eM m_State_parts (eVar 2) aNil) (eM m_State_parts (eVar 3) aNil))))
def m_are_alike : List D → Option D := runF 2 2 b_are_alike
/-- the widths of levels and one more each, in the order of a dict's keys -/
def lvKeys : List D → List Int → Option (List Int)
  | [], ks => some ks
  | d :: r, ks => (match dIx d (.int 0) with
    | some (.int i) => cnd (Nat.ble ks.length 1000) (lvKeys r ([i, i + 1].foldl addI ks)) none
    | _ => none)
def rowsAll (te : RE) (rows : List D) (ρ : Rho) : List Int → Option (List D)
  | [] => some []
  | i :: r => (match lcD (aName 5) tYesR te rows (wipeR (ρ.set 4 (some (.int i))) [5]) with
    | some a => (match rowsAll te rows ρ r with
      | some b => some (a ++ b)
      | none => none)
    | none => none)
def rowsList : D → List D
  | .tup l => l
  | _ => []
def e_row : RE := o2 dAdd (o2 dMul (eC (.str [32])) (eVar 4)) (eVar 5)
def rowsBody (one other : D) : Option R := match o2 dAdd (e1 (fldOf .lv) (eVar 0)) (e1 (fldOf .lv) (eVar 1)) [some one, some other, none, none, none, none] with
  | some (.tup l) => (match lvKeys l [0] with
    | some ks => cnd (Nat.ble ks.length 63) (match rowsAll e_row (rowsList g_ROWS) (List.replicate 6 none) (sortI ks) with
      | some a => (match mkLst a with
        | some b => (match dAdd (.lst [.str [10]]) b with
          | some x => some (.rt x)
          | none => none)
        | none => none)
      | none => none) none
    | none => none)
  | _ => none
def b_rows_for : RS := fun ρ => match ρ with
  | [some one, some other, _, _, _, _] => rowsBody one other
  | _ => none
def m_rows_for : List D → Option D := runF 2 4 b_rows_for
def b_pieces_for : RS :=
  (sSeq (sIf (tAndE (asB (o2 dEq (o2 dIx (e1 (fldOf .gl) (eVar 0)) (eC (.int 0))) (eC (.str [115, 116, 97, 114, 116])))) (asB (o2 dEq (o2 dIx (e1 (fldOf .gl) (eVar 1)) (eC (.int 0))) (eC (.str [115, 116, 97, 114, 116]))))) (sRet (eA m_rows_for (aCons (eVar 0) (aCons (eVar 1) aNil)))) sNx)
    (sSeq (sSet 2 (ifE (asB (o2 dIn (eC (.str [100, 101, 102, 111, 112, 101, 110])) (eA mkTup (aCons (e1 (fldOf .ph) (eVar 0)) (aCons (e1 (fldOf .ph) (eVar 1)) aNil))))) (eA mkTup (aCons (eC (.str [40])) aNil)) (eA mkTup aNil)))
    (sRet (o2 dAdd (o2 dAdd (eC g_PIECES) (eC g_WORDS)) (eVar 2)))))
def m_pieces_for : List D → Option D := runF 2 1 b_pieces_for
def b_told_apart : RS :=
  (sSeq (sIf (asB (o2 dNe (eA m_is_entry_state (aCons (eVar 0) aNil)) (eA m_is_entry_state (aCons (eVar 1) aNil)))) (sRetN (eVar 2)) sNx)
    (sSeq (sSet 3 (eA mkLstX aNil))
    (sSeq (sForL 3 (aName 4) (seqAny (eA m_pieces_for (aCons (eVar 0) (aCons (eVar 1) aNil)))) (sSeq (sPar 5 6 (eA m_run_on (aCons (eVar 0) (aCons (eVar 4) aNil))) (eA m_run_on (aCons (eVar 1) (aCons (eVar 4) aNil))))
    (sSeq (sIf (tAndE (asB (o2 dIs (eVar 5) (eC .non))) (asB (o2 dIs (eVar 6) (eC .non)))) sCont sNx)
    (sSeq (sIf (tOrE (asB (o2 dIs (eVar 5) (eC .non))) (asB (o2 dIs (eVar 6) (eC .non)))) (sRetN (o2 dAdd (o2 dAdd (eVar 2) (eVar 4)) (eA m_completion_of (aCons (ifE (asB (o2 dIs (eVar 5) (eC .non))) (eVar 6) (eVar 5)) aNil)))) sNx)
    (sIf (asB (o2 dNe (eM m_State_parts (eVar 5) aNil) (eM m_State_parts (eVar 6) aNil))) (sApp 3 (eA mkTup (aCons (eVar 5) (aCons (eVar 6) (aCons (o2 dAdd (eVar 2) (eVar 4)) aNil))))) sNx)))))
    (sRet (eVar 3)))))
def m_told_apart : List D → Option D := runF 3 4 b_told_apart
def b_nearest : RS :=
  (sSeq (sUnp [1, 2] (eA mkTup (aCons (eC (.int 0)) (aCons (eC .non) aNil))))
    (sSeq (sFor (aTup [3, 4]) (seqEnL (eVar 0)) (sSeq (sSet 5 (o2 dAdd (eA (f1 len1) (aCons (e1 (fldOf .fr) (o2 dIx (eVar 4) (eC (.int 0)))) aNil)) (eA (f1 len1) (aCons (e1 (fldOf .fr) (o2 dIx (eVar 4) (eC (.int 1)))) aNil))))
    (sIf (tOrE (asB (o2 dIs (eVar 2) (eC .non))) (asB (o2 dLt (eVar 5) (eVar 2)))) (sPar 1 2 (eVar 3) (eVar 5)) sNx)))
    (sRet (eVar 1))))
def m_nearest : List D → Option D := runF 1 5 b_nearest
/-- both parts of two states -/
def fKey : RE := eA mkTup (aCons (eM m_State_parts (eVar 8) aNil) (aCons (eM m_State_parts (eVar 9) aNil) aNil))
def fTri : RE := eA mkTup (aCons (eVar 8) (aCons (eVar 9) (aCons (eVar 10) aNil)))
def rho3 (far near text : D) : Rho := [none, none, none, none, none, none, none, none, some far, some near, some text, none]
/-- the pairs that were not seen, at the end -/
def stepAdd (far near text : D) (w ks : List D) : Option (List D × List D) := match fKey (rho3 far near text) with
  | some (.tup kk) => cnd (dpLe (.tup kk) 8) (cnd (ks.any fun x => eqD x (.tup kk)) (some (w, ks)) (match fTri (rho3 far near text) with
    | some d => cnd (noL d) (cnd (Nat.ble w.length 4000) (cnd (Nat.ble ks.length 4000) (some (w ++ [d], ks ++ [.tup kk])) none) none) none
    | none => none)) none
  | _ => none
def addAll : List D → List D → List D → Option (List D × List D)
  | [], w, ks => some (w, ks)
  | x :: r, w, ks => (match tupOf x with
    | some [far, near, text] => (match stepAdd far near text w ks with
      | some (w', ks') => addAll r w' ks'
      | none => none)
    | _ => none)
def diffLoop : Nat → List D → List D → Option D
  | 0, _, _ => none
  | n + 1, w, ks => (match w with
    | [] => some .non
    | x :: w' => (match m_nearest [.lstx (x :: w')] with
      | some (.int (.ofNat k)) => (match (x :: w')[k]? with
        | some y => (match tupOf y with
          | some [one, other, path] => (match m_told_apart [one, other, path] with
            | some (.str s) => some (.str s)
            | some (.lstx found) => cnd (found.all noL) (match addAll found ((x :: w').eraseIdx k) ks with
              | some (w2, ks2) => diffLoop n w2 ks2
              | none => none) none
            | _ => none)
          | _ => none)
        | none => none)
      | _ => none))
def fTest : RE := o2 dNe (eM m_State_parts (eVar 2) aNil) (eM m_State_parts (eVar 3) aNil)
def diffBody (first second : D) : Option D := match m_need_lead [first] with
  | some one => (match m_need_lead [second] with
    | some other => (match ifE (asB fTest) (eA mkLstX (aCons (eA mkTup (aCons (eVar 2) (aCons (eVar 3) (aCons (eC (.str [])) aNil)))) aNil)) (eA mkLstX aNil) [none, none, some one, some other, none, none, none, none, none, none, none, none] with
      | some (.lstx w) => cnd (w.all noL) (cnd (Nat.ble w.length 4001) (diffLoop 200 w []) none) none
      | _ => none)
    | none => none)
  | none => none
def b_difference : RS := fun ρ => match ρ with
  | [some first, some second, _, _, _, _, _, _, _, _, _, _] => (match diffBody first second with
    | some d => some (.rt d)
    | none => none)
  | _ => none
def m_difference : List D → Option D := runF 2 10 b_difference
def b_l_leads : RS :=
  (sSeq (sSet 0 (eA mkLst (aCons (eC (.str [])) (aCons (eC (.str [35, 32, 97, 10])) (aCons (eC (.str [40, 10])) (aCons (eC (.str [40, 97, 44, 10])) (aCons (eC (.str [40, 97, 10])) (aCons (eC (.str [40, 49, 10])) (aCons (eC (.str [40, 45, 10])) (aCons (eC (.str [91, 10])) (aCons (eC (.str [91, 97, 10])) (aCons (eC (.str [123, 10])) (aCons (eC (.str [123, 97, 58, 10])) (aCons (eC (.str [123, 97, 58, 32, 98, 10])) (aCons (eC (.str [102, 40, 10])) aNil)))))))))))))))
    (sSeq (sSet 0 (o2 dAdd (eVar 0) (eA mkLst (aCons (eC (.str [102, 40, 97, 10])) (aCons (eC (.str [102, 40, 97, 46, 98, 10])) (aCons (eC (.str [102, 40, 107, 32, 61, 10])) (aCons (eC (.str [120, 91, 10])) (aCons (eC (.str [121, 32, 61, 32, 120, 91, 10])) (aCons (eC (.str [121, 32, 43, 32, 40, 10])) (aCons (eC (.str [120, 32, 92, 10])) (aCons (eC (.str [120, 40, 41, 32, 92, 10])) (aCons (eC (.str [49, 32, 92, 10])) aNil))))))))))))
    (sSeq (sSet 0 (o2 dAdd (eVar 0) (eA mkLst (aCons (eC (.str [112, 97, 115, 115, 32, 92, 10])) (aCons (eC (.str [120, 59, 32, 92, 10])) (aCons (eC (.str [39, 39, 39, 10])) (aCons (eC (.str [34, 34, 34, 97, 10])) (aCons (eC (.str [120, 32, 61, 32, 39, 39, 39, 10])) (aCons (eC (.str [36, 34, 123, 10])) (aCons (eC (.str [36, 34, 123, 97, 10])) (aCons (eC (.str [105, 102, 32, 120, 58, 10])) aNil)))))))))))
    (sSeq (sSet 0 (o2 dAdd (eVar 0) (eA mkLst (aCons (eC (.str [119, 104, 105, 108, 101, 32, 120, 58, 10])) (aCons (eC (.str [102, 111, 114, 32, 97, 32, 105, 110, 32, 98, 58, 10])) (aCons (eC (.str [100, 101, 102, 32, 102, 40, 41, 58, 10])) (aCons (eC (.str [116, 114, 121, 58, 10])) (aCons (eC (.str [105, 102, 32, 120, 58, 32, 121, 10])) (aCons (eC (.str [105, 102, 32, 120, 58, 32, 121, 10, 101, 108, 115, 101, 58, 32, 122, 10])) aNil)))))))))
    (sSeq (sSet 0 (o2 dAdd (eVar 0) (eA mkLst (aCons (eC (.str [116, 114, 121, 58, 32, 120, 10])) (aCons (eC (.str [120, 10])) (aCons (eC (.str [116, 114, 121, 58, 32, 120, 10, 101, 120, 99, 101, 112, 116, 58, 32, 121, 10])) (aCons (eC (.str [119, 104, 105, 108, 101, 32, 120, 58, 32, 121, 10])) (aCons (eC (.str [100, 101, 102, 32, 102, 40, 10])) (aCons (eC (.str [100, 101, 102, 32, 102, 40, 97, 10])) (aCons (eC (.str [105, 102, 32, 40, 10])) aNil))))))))))
    (sSeq (sSet 0 (o2 dAdd (eVar 0) (eA mkLst (aCons (eC (.str [119, 104, 105, 108, 101, 32, 40, 10])) (aCons (eC (.str [123, 48, 58, 32, 91, 10])) (aCons (eC (.str [105, 102, 32, 120, 58, 10, 32, 32, 121, 10])) (aCons (eC (.str [105, 102, 32, 120, 58, 10, 32, 32, 119, 104, 105, 108, 101, 32, 121, 58, 10, 32, 32, 32, 32, 122, 10])) aNil)))))))
    (sSeq (sSet 0 (o2 dAdd (eVar 0) (eA mkLst (aCons (eC (.str [100, 101, 102, 32, 102, 40, 41, 58, 10, 32, 32, 105, 102, 32, 121, 58, 32, 122, 10])) (aCons (eC (.str [119, 104, 105, 108, 101, 32, 120, 58, 32, 40, 10])) (aCons (eC (.str [105, 102, 32, 120, 58, 32, 40, 10])) (aCons (eC (.str [100, 101, 102, 32, 102, 40, 41, 58, 32, 40, 10])) aNil)))))))
    (sSeq (sSet 0 (o2 dAdd (eVar 0) (eA mkLst (aCons (eC (.str [105, 102, 32, 120, 58, 32, 121, 10, 10])) (aCons (eC (.str [36, 34, 123, 91, 40, 10])) (aCons (eC (.str [102, 40, 97, 91, 10])) aNil))))))
    (sSeq (sFor (aName 1) (seqLst (eA mkLst (aCons (eC (.str [100, 101, 102, 32, 102, 40, 41, 58, 10, 32, 119, 104, 105, 108, 101, 32, 120, 58, 10])) (aCons (eC (.str [119, 104, 105, 108, 101, 32, 120, 58, 10, 32, 100, 101, 102, 32, 102, 40, 41, 58, 10])) (aCons (eC (.str [105, 102, 32, 120, 58, 10, 32, 116, 114, 121, 58, 10])) (aCons (eC (.str [116, 114, 121, 58, 10, 32, 105, 102, 32, 120, 58, 10])) aNil)))))) (sSet 0 (o2 dAdd (eVar 0) (eA mkLst (aCons (eVar 1) (aCons (o2 dAdd (eVar 1) (eC (.str [32, 32, 32, 121, 10]))) (aCons (o2 dAdd (eVar 1) (eC (.str [32, 32, 32, 102, 40, 10]))) (aCons (o2 dAdd (eVar 1) (eC (.str [32, 32, 105, 102, 32, 97, 58, 32, 98, 10]))) aNil))))))))
    (sRet (eVar 0)))))))))))
def m_l_leads : List D → Option D := runF 0 2 b_l_leads
def b_l_word_end : RS :=
  (sSeq (sSet 2 (eC (.str [97, 98, 99, 100, 101, 102, 103, 104, 105, 106, 107, 108, 109, 110, 111, 112, 113, 114, 115, 116, 117, 118, 119, 120, 121, 122, 65, 66, 67, 68, 69, 70, 71, 72, 73, 74, 75, 76, 77, 78, 79, 80, 81, 82, 83, 84, 85, 86, 87, 88, 89, 90, 95, 48, 49, 50, 51, 52, 53, 54, 55, 56, 57])))
    (sSeq (whileD (tAndE (asB (o2 dLt (eVar 1) (eA (f1 len1) (aCons (eVar 0) aNil)))) (asB (o2 dIn (o2 dIx (eVar 0) (eVar 1)) (eVar 2)))) (sSet 1 (o2 dAdd (eVar 1) (eC (.int 1)))) 100)
    (sRet (eVar 1))))
def m_l_word_end : List D → Option D := runF 2 1 b_l_word_end
def b_l_string_end : RS :=
  (sSeq (sPar 2 3 (ifE (asB (o2 dEq (eSl (eVar 0) (pSome (eVar 1)) (pSome (o2 dAdd (eVar 1) (eC (.int 3))))) (o2 dMul (o2 dIx (eVar 0) (eVar 1)) (eC (.int 3))))) (eC (.int 3)) (eC (.int 1))) (o2 dIx (eVar 0) (eVar 1)))
    (sSeq (sSet 1 (o2 dAdd (eVar 1) (eVar 2)))
    (sSeq (whileD (tAndE (asB (o2 dLt (eVar 1) (eA (f1 len1) (aCons (eVar 0) aNil)))) (asB (o2 dNe (eSl (eVar 0) (pSome (eVar 1)) (pSome (o2 dAdd (eVar 1) (eVar 2)))) (o2 dMul (eVar 3) (eVar 2))))) (sSeq (sIf (tAndE (asB (o2 dEq (eVar 2) (eC (.int 1)))) (tOrE (asB (o2 dEq (o2 dIx (eVar 0) (eVar 1)) (eC (.str [10])))) (asB (o2 dEq (eSl (eVar 0) (pSome (eVar 1)) (pSome (o2 dAdd (eVar 1) (eC (.int 2))))) (eC (.str [92, 10])))))) (sRet (o2 dSub (eC (.int 0)) (eC (.int 1)))) sNx)
    (sSet 1 (o2 dAdd (eVar 1) (ifE (asB (o2 dEq (o2 dIx (eVar 0) (eVar 1)) (eC (.str [92])))) (eC (.int 2)) (eC (.int 1)))))) 100)
    (sRet (ifE (asB (o2 dLe (o2 dAdd (eVar 1) (eVar 2)) (eA (f1 len1) (aCons (eVar 0) aNil)))) (o2 dAdd (eVar 1) (eVar 2)) (o2 dSub (eC (.int 0)) (eC (.int 1))))))))
def m_l_string_end : List D → Option D := runF 2 2 b_l_string_end
structure Gtw_l_expr where
  l_expr : List D → Option D
  l_items : List D → Option D
  l_primary : List D → Option D
def b_l_expr (g : Gtw_l_expr) : RS :=
  (sSeq (whileD (asB (o2 dIn (o2 dIx (eVar 0) (eVar 1)) (eA mkTup (aCons (eC (.str [45])) (aCons (eC (.str [110, 111, 116])) aNil))))) (sSet 1 (o2 dAdd (eVar 1) (eC (.int 1)))) 100)
    (sSeq (sSet 2 (o2 dIx (eA g.l_primary (aCons (eVar 0) (aCons (eVar 1) aNil))) (eC (.int 0))))
    (sSeq (sSet 3 (eA mkTup (aCons (eC (.str [43])) (aCons (eC (.str [45])) (aCons (eC (.str [42])) (aCons (eC (.str [47])) (aCons (eC (.str [60])) (aCons (eC (.str [62])) (aCons (eC (.str [60, 61])) (aCons (eC (.str [62, 61])) (aCons (eC (.str [61, 61])) (aCons (eC (.str [33, 61])) (aCons (eC (.str [97, 110, 100])) (aCons (eC (.str [111, 114])) (aCons (eC (.str [105, 110])) aNil)))))))))))))))
    (sRet (ifE (tAndE (asB (o2 dGe (eVar 2) (eC (.int 0)))) (asB (o2 dIn (o2 dIx (eVar 0) (eVar 2)) (eVar 3)))) (eA g.l_expr (aCons (eVar 0) (aCons (o2 dAdd (eVar 2) (eC (.int 1))) aNil))) (eVar 2))))))
def b_l_items (g : Gtw_l_expr) : RS :=
  (sSeq (sPar 3 1 (o2 dDix (eDic (dCons [40] (eC (.str [41])) (dCons [91] (eC (.str [93])) (dCons [123] (eC (.str [125])) dNil)))) (o2 dIx (eVar 0) (eVar 1))) (o2 dAdd (eVar 1) (eC (.int 1))))
    (sSeq (whileD (asB (o2 dNe (o2 dIx (eVar 0) (eVar 1)) (eVar 3))) (sSeq (sIf (asB (o2 dEq (eVar 2) (eC (.str [110, 97, 109, 101, 115])))) (sSet 1 (ifE (asB (o2 dEq (o2 dIx (eVar 0) (eVar 1)) (eC (.str [110])))) (o2 dAdd (eVar 1) (eC (.int 1))) (o2 dSub (eC (.int 0)) (eC (.int 1))))) (sSeq (sSet 1 (ifE (tAndE (asB (o2 dEq (eVar 2) (eC (.str [99, 97, 108, 108])))) (asB (o2 dEq (eSl (eVar 0) (pSome (eVar 1)) (pSome (o2 dAdd (eVar 1) (eC (.int 2))))) (eA mkLst (aCons (eC (.str [110])) (aCons (eC (.str [61])) aNil)))))) (o2 dAdd (eVar 1) (eC (.int 2))) (eVar 1)))
    (sSeq (sSet 1 (eA g.l_expr (aCons (eVar 0) (aCons (eVar 1) aNil))))
    (sIf (tAndE (asB (o2 dEq (eVar 2) (eC (.str [112, 97, 105, 114, 115])))) (asB (o2 dGe (eVar 1) (eC (.int 0))))) (sSet 1 (ifE (asB (o2 dEq (o2 dIx (eVar 0) (eVar 1)) (eC (.str [58])))) (eA g.l_expr (aCons (eVar 0) (aCons (o2 dAdd (eVar 1) (eC (.int 1))) aNil))) (o2 dSub (eC (.int 0)) (eC (.int 1))))) sNx))))
    (sSeq (sIf (tOrE (asB (o2 dLt (eVar 1) (eC (.int 0)))) (asB (o2 dNotIn (o2 dIx (eVar 0) (eVar 1)) (eA mkTup (aCons (eC (.str [44])) (aCons (eVar 3) aNil)))))) (sRet (o2 dSub (eC (.int 0)) (eC (.int 1)))) sNx)
    (sSet 1 (o2 dAdd (eVar 1) (eA (f1 int1) (aCons (o2 dEq (o2 dIx (eVar 0) (eVar 1)) (eC (.str [44]))) aNil)))))) 100)
    (sRet (o2 dAdd (eVar 1) (eC (.int 1))))))
def b_l_primary (g : Gtw_l_expr) : RS :=
  (sSeq (sPar 2 3 (o2 dIx (eVar 0) (eVar 1)) (o2 dAdd (eVar 1) (eC (.int 1))))
    (sSeq (sIf (asB (o2 dEq (eVar 2) (eC (.str [100])))) (sRet (eA mkTup (aCons (eVar 3) (aCons (eC (.bl false)) aNil)))) sNx)
    (sSeq (sIf (asB (o2 dNotIn (eVar 2) (eA mkTup (aCons (eC (.str [110])) (aCons (eC (.str [115])) aNil))))) (sSet 3 (ifE (asB (o2 dIn (eVar 2) (eA mkTup (aCons (eC (.str [40])) (aCons (eC (.str [91])) (aCons (eC (.str [123])) aNil)))))) (eA g.l_items (aCons (eVar 0) (aCons (eVar 1) (aCons (ifE (asB (o2 dEq (eVar 2) (eC (.str [123])))) (eC (.str [112, 97, 105, 114, 115])) (eC (.str [105, 116, 101, 109, 115]))) aNil)))) (o2 dSub (eC (.int 0)) (eC (.int 1))))) sNx)
    (sSeq (sSet 4 (o2 dEq (eVar 2) (eC (.str [110]))))
    (sSeq (whileD (tAndE (asB (o2 dGe (eVar 3) (eC (.int 0)))) (asB (o2 dIn (o2 dIx (eVar 0) (eVar 3)) (eA mkTup (aCons (eC (.str [46])) (aCons (eC (.str [40])) (aCons (eC (.str [91])) aNil))))))) (sSeq (sPar 2 4 (o2 dIx (eVar 0) (eVar 3)) (o2 dNe (o2 dIx (eVar 0) (eVar 3)) (eC (.str [40]))))
    (sIf (asB (o2 dEq (eVar 2) (eC (.str [46])))) (sSet 3 (ifE (asB (o2 dEq (o2 dIx (eVar 0) (o2 dAdd (eVar 3) (eC (.int 1)))) (eC (.str [110])))) (o2 dAdd (eVar 3) (eC (.int 2))) (o2 dSub (eC (.int 0)) (eC (.int 1))))) (sIf (asB (o2 dEq (eVar 2) (eC (.str [40])))) (sSet 3 (eA g.l_items (aCons (eVar 0) (aCons (eVar 3) (aCons (eC (.str [99, 97, 108, 108])) aNil))))) (sSeq (sSet 3 (eA g.l_expr (aCons (eVar 0) (aCons (o2 dAdd (eVar 3) (eC (.int 1))) aNil))))
    (sSet 3 (ifE (tAndE (asB (o2 dGe (eVar 3) (eC (.int 0)))) (asB (o2 dEq (o2 dIx (eVar 0) (eVar 3)) (eC (.str [93]))))) (o2 dAdd (eVar 3) (eC (.int 1))) (o2 dSub (eC (.int 0)) (eC (.int 1))))))))) 100)
    (sRet (eA mkTup (aCons (eVar 3) (aCons (eVar 4) aNil)))))))))
def tw_l_expr : Nat → Gtw_l_expr
  | 0 => ⟨fun _ => none, fun _ => none, fun _ => none⟩
  | n + 1 => ⟨runF 2 2 (b_l_expr (tw_l_expr n)), runF 3 1 (b_l_items (tw_l_expr n)), runF 2 3 (b_l_primary (tw_l_expr n))⟩
structure Gtw_l_lexed where
  l_lexed : List D → Option D
  l_template_end : List D → Option D
  l_token : List D → Option D
def b_l_lexed (g : Gtw_l_lexed) : RS :=
  (sSeq (sUnp [3, 4, 5, 6] (eA mkTup (aCons (eA mkLst aNil) (aCons (eA (f1 int1) (aCons (eVar 2) aNil)) (aCons (eVar 2) (aCons (eC (.int 0)) aNil))))))
    (sSeq (whileD (asB (o2 dLt (eVar 1) (eA (f1 len1) (aCons (eVar 0) aNil)))) (sSeq (sSet 7 (eVar 1))
    (sSeq (whileD (asB (o2 dEq (eSl (eVar 0) (pSome (eVar 7)) (pSome (o2 dAdd (eVar 7) (eC (.int 1))))) (eC (.str [32])))) (sSet 7 (o2 dAdd (eVar 7) (eC (.int 1)))) 100)
    (sSeq (sIf (tAndE (tNotE (asB (eVar 5))) (asB (o2 dIn (eSl (eVar 0) (pSome (eVar 7)) (pSome (o2 dAdd (eVar 7) (eC (.int 1))))) (eA mkTup (aCons (eC (.str [10])) (aCons (eC (.str [35])) (aCons (eC (.str [])) aNil))))))) (sSeq (sSet 3 (o2 dAddL (eVar 3) (o2 dMul (eA mkLst (aCons (eC (.str [101, 109, 112, 116, 121])) aNil)) (eA (f1 int1) (aCons (o2 dEq (eSl (eVar 0) (pSome (eVar 7)) (pSome (o2 dAdd (eVar 7) (eC (.int 1))))) (eC (.str [10]))) aNil)))))
    (sSeq (sSet 1 (o2 dAdd (o3 d_find (eVar 0) (eC (.str [10])) (eVar 7)) (eC (.int 1))))
    (sSeq (sSet 6 (ifE (asB (o2 dEq (eSl (eVar 0) (pSome (eVar 7)) (pSome (o2 dAdd (eVar 7) (eC (.int 1))))) (eC (.str [10])))) (eVar 1) (eVar 6)))
    (sSeq (sIf (asB (o2 dEq (eVar 1) (eC (.int 0)))) (sRetN (eA mkTup (aCons (eC .non) (aCons (eVar 7) aNil)))) sNx)
    sCont)))) sNx)
    (sSeq (sIf (tNotE (asB (eVar 5))) (sPar 3 5 (o2 dAddL (eVar 3) (eA mkLst (aCons (o2 dSub (eVar 7) (eVar 1)) aNil))) (eC (.bl true))) sNx)
    (sSeq (sSet 1 (eVar 7))
    (sIf (asB (o2 dEq (eSl (eVar 0) (pSome (eVar 1)) (pSome (o2 dAdd (eVar 1) (eC (.int 1))))) (eC (.str [35])))) (sSet 1 (ifE (asB (o2 dGe (o3 d_find (eVar 0) (eC (.str [10])) (eVar 1)) (eC (.int 0)))) (o3 d_find (eVar 0) (eC (.str [10])) (eVar 1)) (eA (f1 len1) (aCons (eVar 0) aNil)))) (sIf (asB (o2 dEq (eSl (eVar 0) (pSome (eVar 1)) (pSome (o2 dAdd (eVar 1) (eC (.int 1))))) (eC (.str [10])))) (sSeq (sPar 3 1 (o2 dAddL (eVar 3) (o2 dMul (eA mkLst (aCons (eC (.str [101, 110, 100])) aNil)) (eA (f1 int1) (aCons (o2 dEq (eVar 4) (eC (.int 0))) aNil)))) (o2 dAdd (eVar 1) (eC (.int 1))))
    (sPar 5 6 (o2 dGt (eVar 4) (eC (.int 0))) (ifE (asB (o2 dEq (eVar 4) (eC (.int 0)))) (eVar 1) (eVar 6)))) (sIf (tAndE (asB (o2 dEq (eSl (eVar 0) (pSome (eVar 1)) (pSome (o2 dAdd (eVar 1) (eC (.int 2))))) (eC (.str [92, 10])))) (tOrE (asB (o2 dEq (eVar 3) (eA mkLst aNil))) (tNotE (asB (e1 is_int (o2 dIx (eVar 3) (e1 dNeg (eC (.int 1))))))))) (sSet 1 (o2 dAdd (eVar 1) (eC (.int 2)))) (sIf (tAndE (asB (eVar 2)) (tAndE (asB (o2 dEq (eVar 4) (eC (.int 1)))) (asB (o2 dEq (eSl (eVar 0) (pSome (eVar 1)) (pSome (o2 dAdd (eVar 1) (eC (.int 1))))) (eC (.str [125])))))) (sRetN (eA mkTup (aCons (eVar 3) (aCons (o2 dAdd (eVar 1) (eC (.int 1))) aNil)))) (sIf (asB (o2 dLt (eVar 1) (eA (f1 len1) (aCons (eVar 0) aNil)))) (sSeq (sUnp [8, 1] (eA g.l_token (aCons (eVar 0) (aCons (eVar 1) aNil))))
    (sSeq (sSet 4 (o2 dSub (o2 dAdd (eVar 4) (eA (f1 int1) (aCons (o2 dIn (eVar 8) (eA mkTup (aCons (eC (.str [40])) (aCons (eC (.str [91])) (aCons (eC (.str [123])) aNil))))) aNil))) (eA (f1 int1) (aCons (o2 dIn (eVar 8) (eA mkTup (aCons (eC (.str [41])) (aCons (eC (.str [93])) (aCons (eC (.str [125])) aNil))))) aNil))))
    (sSeq (sIf (tOrE (asB (o2 dIs (eVar 8) (eC .non))) (asB (o2 dLt (eVar 4) (eA (f1 int1) (aCons (eVar 2) aNil))))) (sRetN (eA mkTup (aCons (eC .non) (aCons (eVar 1) aNil)))) sNx)
    (sApp 3 (eVar 8))))) sNx)))))))))) 100)
    (sRetN (eA mkTup (aCons (ifE (asB (eVar 5)) (eC .non) (eVar 3)) (aCons (eVar 6) aNil))))))
def b_l_template_end (g : Gtw_l_lexed) : RS :=
  (sSeq (sSet 1 (o2 dAdd (eVar 1) (eC (.int 2))))
    (sSeq (whileD (tAndE (asB (o2 dLt (eVar 1) (eA (f1 len1) (aCons (eVar 0) aNil)))) (asB (o2 dNotIn (o2 dIx (eVar 0) (eVar 1)) (eA mkTup (aCons (eC (.str [10])) (aCons (eC (.str [34])) (aCons (eC (.str [125])) aNil))))))) (sIf (asB (o2 dEq (o2 dIx (eVar 0) (eVar 1)) (eC (.str [123])))) (sSeq (sUnp [2, 1] (eA g.l_lexed (aCons (eVar 0) (aCons (o2 dAdd (eVar 1) (eC (.int 1))) (aCons (eC (.bl true)) aNil)))))
    (sIf (tOrE (asB (o2 dIs (eVar 2) (eC .non))) (asB (o2 dNe (eA (tw_l_expr 64).l_expr (aCons (o2 dAdd (eVar 2) (eA mkLst (aCons (eC (.str [])) aNil))) (aCons (eC (.int 0)) aNil))) (eA (f1 len1) (aCons (eVar 2) aNil))))) (sRet (o2 dSub (eC (.int 0)) (eC (.int 1)))) sNx)) (sIf (asB (o2 dEq (eSl (eVar 0) (pSome (eVar 1)) (pSome (o2 dAdd (eVar 1) (eC (.int 2))))) (eC (.str [92, 10])))) (sRet (o2 dSub (eC (.int 0)) (eC (.int 1)))) (sSet 1 (o2 dAdd (eVar 1) (ifE (asB (o2 dEq (o2 dIx (eVar 0) (eVar 1)) (eC (.str [92])))) (eC (.int 2)) (eC (.int 1))))))) 100)
    (sRet (ifE (asB (o2 dEq (eSl (eVar 0) (pSome (eVar 1)) (pSome (o2 dAdd (eVar 1) (eC (.int 1))))) (eC (.str [34])))) (o2 dAdd (eVar 1) (eC (.int 1))) (o2 dSub (eC (.int 0)) (eC (.int 1)))))))
def b_l_token (g : Gtw_l_lexed) : RS :=
  (sSeq (sPar 2 3 (o2 dIx (eVar 0) (eVar 1)) (eA m_l_word_end (aCons (eVar 0) (aCons (eVar 1) aNil))))
    (sSeq (sIf (asB (o2 dIn (eVar 2) (eC (.str [48, 49, 50, 51, 52, 53, 54, 55, 56, 57])))) (sSeq (sSet 4 (orE (o2 dNe (eLc (aName 5) (seqStr (eSl (eVar 0) (pSome (eVar 1)) (pSome (eVar 3)))) (asB (o2 dNotIn (eVar 5) (eC (.str [48, 49, 50, 51, 52, 53, 54, 55, 56, 57])))) (eVar 5) [5]) (eA mkLst aNil)) (andE (o2 dEq (eVar 2) (eC (.str [48]))) (o2 dGt (eVar 3) (o2 dAdd (eVar 1) (eC (.int 1)))))))
    (sRet (eA mkTup (aCons (ifE (asB (eVar 4)) (eC .non) (eC (.str [100]))) (aCons (eVar 3) aNil))))) sNx)
    (sSeq (sIf (asB (o2 dGt (eVar 3) (eVar 1))) (sSeq (sSet 6 (eC (strL [[97, 110, 100], [98, 114, 101, 97, 107], [100, 101, 102], [101, 108, 105, 102], [101, 108, 115, 101], [101, 120, 99, 101, 112, 116], [102, 105, 110, 97, 108, 108, 121], [102, 111, 114], [105, 102], [105, 110], [110, 111, 116], [111, 114], [112, 97, 115, 115], [114, 101, 116, 117, 114, 110], [116, 114, 121], [119, 104, 105, 108, 101]])))
    (sRet (eA mkTup (aCons (ifE (asB (o2 dIn (eSl (eVar 0) (pSome (eVar 1)) (pSome (eVar 3))) (eVar 6))) (eSl (eVar 0) (pSome (eVar 1)) (pSome (eVar 3))) (eC (.str [110]))) (aCons (eVar 3) aNil))))) sNx)
    (sSeq (sIf (tOrE (asB (o2 dIn (eVar 2) (eA mkTup (aCons (eC (.str [39])) (aCons (eC (.str [34])) aNil))))) (asB (o2 dEq (eSl (eVar 0) (pSome (eVar 1)) (pSome (o2 dAdd (eVar 1) (eC (.int 2))))) (eC (.str [36, 34]))))) (sSeq (sSet 3 (ifE (asB (o2 dEq (eVar 2) (eC (.str [36])))) (eA g.l_template_end (aCons (eVar 0) (aCons (eVar 1) aNil))) (eA m_l_string_end (aCons (eVar 0) (aCons (eVar 1) aNil)))))
    (sRet (eA mkTup (aCons (ifE (asB (o2 dGt (eVar 3) (eC (.int 0)))) (eC (.str [115])) (eC .non)) (aCons (eVar 3) aNil))))) sNx)
    (sSeq (sIf (asB (o2 dIn (eSl (eVar 0) (pSome (eVar 1)) (pSome (o2 dAdd (eVar 1) (eC (.int 2))))) (eA mkTup (aCons (eC (.str [60, 61])) (aCons (eC (.str [62, 61])) (aCons (eC (.str [61, 61])) (aCons (eC (.str [33, 61])) aNil))))))) (sRet (eA mkTup (aCons (eSl (eVar 0) (pSome (eVar 1)) (pSome (o2 dAdd (eVar 1) (eC (.int 2))))) (aCons (o2 dAdd (eVar 1) (eC (.int 2))) aNil)))) sNx)
    (sRet (eA mkTup (aCons (ifE (asB (o2 dIn (eVar 2) (eC (.str [43, 45, 42, 47, 60, 62, 61, 46, 44, 58, 59, 40, 41, 91, 93, 123, 125])))) (eVar 2) (eC .non)) (aCons (o2 dAdd (eVar 1) (eC (.int 1))) aNil)))))))))
def tw_l_lexed : Nat → Gtw_l_lexed
  | 0 => ⟨fun _ => none, fun _ => none, fun _ => none⟩
  | n + 1 => ⟨runF 3 6 (b_l_lexed (tw_l_lexed n)), runF 2 1 (b_l_template_end (tw_l_lexed n)), runF 2 5 (b_l_token (tw_l_lexed n))⟩
structure Gtw_l_simple where
  l_simple : List D → Option D
def b_l_simple (g : Gtw_l_simple) : RS :=
  (sSeq (sUnp [3, 4] (eA (tw_l_expr 64).l_primary (aCons (eVar 0) (aCons (eVar 1) aNil))))
    (sSeq (sIf (tOrE (asB (o2 dEq (o2 dIx (eVar 0) (eVar 1)) (eC (.str [112, 97, 115, 115])))) (tAndE (asB (o2 dEq (o2 dIx (eVar 0) (eVar 1)) (eC (.str [98, 114, 101, 97, 107])))) (asB (o2 dIx (eVar 2) (eC (.int 1)))))) (sSet 3 (o2 dAdd (eVar 1) (eC (.int 1)))) (sIf (asB (o2 dEq (o2 dIx (eVar 0) (eVar 1)) (eC (.str [114, 101, 116, 117, 114, 110])))) (sSeq (sSet 3 (ifE (asB (o2 dIn (o2 dIx (eVar 0) (o2 dAdd (eVar 1) (eC (.int 1)))) (eA mkTup (aCons (eC (.str [59])) (aCons (eC (.str [101, 110, 100])) aNil))))) (o2 dAdd (eVar 1) (eC (.int 1))) (eA (tw_l_expr 64).l_expr (aCons (eVar 0) (aCons (o2 dAdd (eVar 1) (eC (.int 1))) aNil)))))
    (sSet 3 (ifE (asB (o2 dIx (eVar 2) (eC (.int 0)))) (eVar 3) (o2 dSub (eC (.int 0)) (eC (.int 1)))))) (sIf (tAndE (asB (o2 dGe (eVar 3) (eC (.int 0)))) (asB (o2 dEq (o2 dIx (eVar 0) (eVar 3)) (eC (.str [61]))))) (sSet 3 (ifE (asB (eVar 4)) (eA (tw_l_expr 64).l_expr (aCons (eVar 0) (aCons (o2 dAdd (eVar 3) (eC (.int 1))) aNil))) (o2 dSub (eC (.int 0)) (eC (.int 1))))) (sSet 3 (eA (tw_l_expr 64).l_expr (aCons (eVar 0) (aCons (eVar 1) aNil)))))))
    (sSeq (sIf (tAndE (asB (o2 dGe (eVar 3) (eC (.int 0)))) (asB (o2 dEq (o2 dIx (eVar 0) (eVar 3)) (eC (.str [59]))))) (sRet (ifE (asB (o2 dEq (o2 dIx (eVar 0) (o2 dAdd (eVar 3) (eC (.int 1)))) (eC (.str [101, 110, 100])))) (o2 dAdd (eVar 3) (eC (.int 2))) (eA g.l_simple (aCons (eVar 0) (aCons (o2 dAdd (eVar 3) (eC (.int 1))) (aCons (eVar 2) aNil)))))) sNx)
    (sRet (ifE (tAndE (asB (o2 dGe (eVar 3) (eC (.int 0)))) (asB (o2 dEq (o2 dIx (eVar 0) (eVar 3)) (eC (.str [101, 110, 100]))))) (o2 dAdd (eVar 3) (eC (.int 1))) (o2 dSub (eC (.int 0)) (eC (.int 1))))))))
def tw_l_simple : Nat → Gtw_l_simple
  | 0 => ⟨fun _ => none⟩
  | n + 1 => ⟨runF 3 2 (b_l_simple (tw_l_simple n))⟩
structure Gtw_l_clause where
  l_clause : List D → Option D
  l_statement : List D → Option D
def b_l_clause (g : Gtw_l_clause) : RS :=
  (sSeq (sPar 4 1 (o2 dIx (eVar 0) (eVar 1)) (o2 dAdd (eVar 1) (eC (.int 1))))
    (sSeq (sIf (asB (o2 dIn (eVar 4) (eA mkTup (aCons (eC (.str [105, 102])) (aCons (eC (.str [101, 108, 105, 102])) (aCons (eC (.str [119, 104, 105, 108, 101])) aNil)))))) (sSet 1 (eA (tw_l_expr 64).l_expr (aCons (eVar 0) (aCons (eVar 1) aNil)))) (sIf (asB (o2 dEq (eVar 4) (eC (.str [102, 111, 114])))) (sSet 1 (ifE (asB (o2 dEq (eSl (eVar 0) (pSome (eVar 1)) (pSome (o2 dAdd (eVar 1) (eC (.int 2))))) (eA mkLst (aCons (eC (.str [110])) (aCons (eC (.str [105, 110])) aNil))))) (eA (tw_l_expr 64).l_expr (aCons (eVar 0) (aCons (o2 dAdd (eVar 1) (eC (.int 2))) aNil))) (o2 dSub (eC (.int 0)) (eC (.int 1))))) (sIf (asB (o2 dEq (eVar 4) (eC (.str [100, 101, 102])))) (sSet 1 (ifE (asB (o2 dEq (eSl (eVar 0) (pSome (eVar 1)) (pSome (o2 dAdd (eVar 1) (eC (.int 2))))) (eA mkLst (aCons (eC (.str [110])) (aCons (eC (.str [40])) aNil))))) (eA (tw_l_expr 64).l_items (aCons (eVar 0) (aCons (o2 dAdd (eVar 1) (eC (.int 1))) (aCons (eC (.str [110, 97, 109, 101, 115])) aNil)))) (o2 dSub (eC (.int 0)) (eC (.int 1))))) (sIf (tAndE (asB (o2 dEq (eVar 4) (eC (.str [101, 120, 99, 101, 112, 116])))) (asB (o2 dEq (o2 dIx (eVar 0) (eVar 1)) (eC (.str [110]))))) (sSet 1 (o2 dAdd (eVar 1) (eC (.int 1)))) sNx))))
    (sSeq (sIf (tOrE (asB (o2 dLt (eVar 1) (eC (.int 0)))) (asB (o2 dNe (o2 dIx (eVar 0) (eVar 1)) (eC (.str [58]))))) (sRet (o2 dSub (eC (.int 0)) (eC (.int 1)))) sNx)
    (sSeq (sSet 3 (eA mkTup (aCons (o2 dIx (eVar 3) (eC (.int 0))) (aCons (orE (o2 dIx (eVar 3) (eC (.int 1))) (o2 dIn (eVar 4) (eA mkTup (aCons (eC (.str [119, 104, 105, 108, 101])) (aCons (eC (.str [102, 111, 114])) aNil))))) aNil))))
    (sSeq (sSet 3 (ifE (asB (o2 dEq (eVar 4) (eC (.str [100, 101, 102])))) (eA mkTup (aCons (eC (.bl true)) (aCons (eC (.bl false)) aNil))) (eVar 3)))
    (sSeq (sIf (asB (o2 dNe (o2 dIx (eVar 0) (o2 dAdd (eVar 1) (eC (.int 1)))) (eC (.str [101, 110, 100])))) (sRet (eA (tw_l_simple 12).l_simple (aCons (eVar 0) (aCons (o2 dAdd (eVar 1) (eC (.int 1))) (aCons (eVar 3) aNil))))) sNx)
    (sSeq (sPar 1 5 (o2 dAdd (eVar 1) (eC (.int 2))) (o2 dIx (eVar 0) (o2 dAdd (eVar 1) (eC (.int 2)))))
    (sSeq (sIf (tOrE (tNotE (asB (e1 is_int (eVar 5)))) (asB (o2 dLe (eVar 5) (eVar 2)))) (sRet (o2 dSub (eC (.int 0)) (eC (.int 1)))) sNx)
    (sSeq (whileD (tAndE (asB (o2 dGe (eVar 1) (eC (.int 0)))) (asB (o2 dEq (o2 dIx (eVar 0) (eVar 1)) (eVar 5)))) (sSet 1 (eA g.l_statement (aCons (eVar 0) (aCons (o2 dAdd (eVar 1) (eC (.int 1))) (aCons (eVar 5) (aCons (eVar 3) aNil)))))) 100)
    (sRet (eVar 1)))))))))))
def b_l_statement (g : Gtw_l_clause) : RS :=
  (sSeq (sIf (asB (o2 dNotIn (o2 dIx (eVar 0) (eVar 1)) (eA mkTup (aCons (eC (.str [105, 102])) (aCons (eC (.str [119, 104, 105, 108, 101])) (aCons (eC (.str [102, 111, 114])) (aCons (eC (.str [100, 101, 102])) (aCons (eC (.str [116, 114, 121])) aNil)))))))) (sRet (eA (tw_l_simple 12).l_simple (aCons (eVar 0) (aCons (eVar 1) (aCons (eVar 3) aNil))))) sNx)
    (sSeq (sPar 4 5 (o2 dIx (eVar 0) (eVar 1)) (o3 d_get (eDic (dCons [105, 102] (eA mkLst (aCons (eC (.str [101, 108, 105, 102])) (aCons (eC (.str [101, 108, 115, 101])) aNil))) (dCons [116, 114, 121] (eA mkLst (aCons (eC (.str [101, 120, 99, 101, 112, 116])) (aCons (eC (.str [102, 105, 110, 97, 108, 108, 121])) aNil))) dNil))) (o2 dIx (eVar 0) (eVar 1)) (eA mkLst aNil)))
    (sSeq (sPar 1 6 (eA g.l_clause (aCons (eVar 0) (aCons (eVar 1) (aCons (eVar 2) (aCons (eVar 3) aNil))))) (o2 dEq (eVar 4) (eC (.str [116, 114, 121]))))
    (sSeq (whileD (tAndE (asB (o2 dGe (eVar 1) (eC (.int 0)))) (tAndE (asB (o2 dEq (o2 dIx (eVar 0) (eVar 1)) (eVar 2))) (asB (o2 dIn (o2 dIx (eVar 0) (o2 dAdd (eVar 1) (eC (.int 1)))) (eVar 5))))) (sSeq (sSet 5 (o3 d_get (eDic (dCons [101, 108, 105, 102] (eA mkLst (aCons (eC (.str [101, 108, 105, 102])) (aCons (eC (.str [101, 108, 115, 101])) aNil))) (dCons [101, 120, 99, 101, 112, 116] (eA mkLst (aCons (eC (.str [101, 120, 99, 101, 112, 116])) (aCons (eC (.str [102, 105, 110, 97, 108, 108, 121])) aNil))) dNil))) (o2 dIx (eVar 0) (o2 dAdd (eVar 1) (eC (.int 1)))) (eA mkLst aNil)))
    (sPar 1 6 (eA g.l_clause (aCons (eVar 0) (aCons (o2 dAdd (eVar 1) (eC (.int 1))) (aCons (eVar 2) (aCons (eVar 3) aNil))))) (eC (.bl false)))) 100)
    (sRet (ifE (asB (eVar 6)) (o2 dSub (eC (.int 0)) (eC (.int 1))) (eVar 1)))))))
def tw_l_clause : Nat → Gtw_l_clause
  | 0 => ⟨fun _ => none, fun _ => none⟩
  | n + 1 => ⟨runF 4 2 (b_l_clause (tw_l_clause n)), runF 4 3 (b_l_statement (tw_l_clause n))⟩
def b_l_is_entry : RS :=
  (sSeq (sUnp [1, 2] (eA (tw_l_lexed 12).l_lexed (aCons (eVar 0) (aCons (eC (.int 0)) (aCons (eC (.bl false)) aNil)))))
    (sSeq (sIf (tOrE (asB (o2 dIs (eVar 1) (eC .non))) (asB (o2 dLt (eVar 2) (eA (f1 len1) (aCons (eVar 0) aNil))))) (sRet (eC (.bl false))) sNx)
    (sSeq (sPar 1 3 (o2 dAdd (eVar 1) (eA mkLst (aCons (eC (.str [])) (aCons (eC (.str [])) aNil)))) (eC (.int 0)))
    (sSeq (whileD (asB (o2 dEq (o2 dIx (eVar 1) (eVar 3)) (eC (.str [101, 109, 112, 116, 121])))) (sSet 3 (o2 dAdd (eVar 3) (eC (.int 1)))) 100)
    (sSeq (sIf (asB (o2 dNe (o2 dIx (eVar 1) (eVar 3)) (eC (.int 0)))) (sRet (eC (.bl false))) sNx)
    (sSeq (sSet 2 (eA (tw_l_clause 20).l_statement (aCons (eVar 1) (aCons (o2 dAdd (eVar 3) (eC (.int 1))) (aCons (eC (.int 0)) (aCons (eA mkTup (aCons (eC (.bl false)) (aCons (eC (.bl false)) aNil))) aNil))))))
    (sSeq (sSet 4 (ifE (asB (o2 dIn (o2 dIx (eVar 1) (o2 dAdd (eVar 3) (eC (.int 1)))) (eA mkTup (aCons (eC (.str [105, 102])) (aCons (eC (.str [119, 104, 105, 108, 101])) (aCons (eC (.str [102, 111, 114])) (aCons (eC (.str [100, 101, 102])) (aCons (eC (.str [116, 114, 121])) aNil)))))))) (eA mkLst (aCons (eC (.str [101, 109, 112, 116, 121])) aNil)) (eA mkLst aNil)))
    (sRet (andE (o2 dGe (eVar 2) (eC (.int 0))) (o2 dEq (eSl (eVar 1) (pSome (eVar 2)) pNo) (o2 dAdd (eVar 4) (eA mkLst (aCons (eC (.str [])) (aCons (eC (.str [])) aNil))))))))))))))
def m_l_is_entry : List D → Option D := runF 1 4 b_l_is_entry
def b_l_told_right : RS :=
  (sSeq (sSet 2 (eA m_difference (aCons (eVar 0) (aCons (eVar 1) aNil))))
    (sSeq (sIf (asB (eA m_are_alike (aCons (eVar 0) (aCons (eVar 1) aNil)))) (sRet (o2 dIs (eVar 2) (eC .non))) sNx)
    (sRet (andE (e1 is_str (eVar 2)) (o2 dNe (eA m_l_is_entry (aCons (o2 dAdd (eVar 0) (eVar 2)) aNil)) (eA m_l_is_entry (aCons (o2 dAdd (eVar 1) (eVar 2)) aNil)))))))
def m_l_told_right : List D → Option D := runF 2 1 b_l_told_right
end
end Rp
set_option Elab.async false
set_option linter.all false
set_option maxRecDepth 100000
set_option maxHeartbeats 4000000
namespace Rp
noncomputable section
open PySem PySem.Spec PyProof.Rows L2 SX
def top (i : Nat) : Stmt := PySem.Challenge.pw_replinput_k34_whole_differences_judged.main.body.getD i (.Pass ⟨0, 0, 0, 0⟩)
structure Top (P : Program) (w : World) (K : PySem.W.Frag) (mg : Str → Option Value) (base : Heap) (C : Addr) : Prop where
  cs : ClsS K C
  len : mg "len" = none
  int : mg "int" = none
  str : mg "str" = none
  max : mg "max" = none
  any : mg "any" = none
  all : mg "all" = none
  isinstance : mg "isinstance" = none
  enumerate : mg "enumerate" = none
  sorted : mg "sorted" = none
  range : mg "range" = none
  g_OTHERS : GlD ⟨C, K, w⟩ mg "OTHERS" g_OTHERS
  g_LETTERS : GlD ⟨C, K, w⟩ mg "LETTERS" g_LETTERS
  g_DIGITS_signs : GlD ⟨C, K, w⟩ mg "DIGITS_signs" g_DIGITS_signs
  g_LINE_ENDS : GlD ⟨C, K, w⟩ mg "LINE_ENDS" g_LINE_ENDS
  g_DONE : GlD ⟨C, K, w⟩ mg "DONE" g_DONE
  g_KEYWORDS : GlD ⟨C, K, w⟩ mg "KEYWORDS" g_KEYWORDS
  g_OPERANDS : GlD ⟨C, K, w⟩ mg "OPERANDS" g_OPERANDS
  g_STARTS : GlD ⟨C, K, w⟩ mg "STARTS" g_STARTS
  g_HEADERS : GlD ⟨C, K, w⟩ mg "HEADERS" g_HEADERS
  g_BINARY_WORDS : GlD ⟨C, K, w⟩ mg "BINARY_WORDS" g_BINARY_WORDS
  g_CLAUSES : KdD ⟨C, K, w⟩ mg "CLAUSES" g_CLAUSES
  g_DIGITS_states : GlD ⟨C, K, w⟩ mg "DIGITS_states" g_DIGITS_states
  g_CLOSERS : KdD ⟨C, K, w⟩ mg "CLOSERS" g_CLOSERS
  g_CHAINS : GlD ⟨C, K, w⟩ mg "CHAINS" g_CHAINS
  g_ANY_WORD : GlD ⟨C, K, w⟩ mg "ANY_WORD" g_ANY_WORD
  g_NAMES : GlD ⟨C, K, w⟩ mg "NAMES" g_NAMES
  g_ROWS : GlD ⟨C, K, w⟩ mg "ROWS" g_ROWS
  g_PIECES : GlD ⟨C, K, w⟩ mg "PIECES" g_PIECES
  g_WORDS : GlD ⟨C, K, w⟩ mg "WORDS" g_WORDS
  d_consists_of : DfC K mg "consists_of" (top 8)
  d_is_text : DfC K mg "is_text" (top 9)
  d_with_clauses : DfC K mg "with_clauses" (top 23)
  d_after_line : DfC K mg "after_line" (top 24)
  d_after_empty_line : DfC K mg "after_empty_line" (top 25)
  d_line_begun : DfC K mg "line_begun" (top 26)
  d_small_begun : DfC K mg "small_begun" (top 27)
  d_header_begun : DfC K mg "header_begun" (top 28)
  d_after_word : DfC K mg "after_word" (top 29)
  d_may_assign : DfC K mg "may_assign" (top 30)
  d_after_short : DfC K mg "after_short" (top 31)
  d_after_long : DfC K mg "after_long" (top 32)
  d_after_template : DfC K mg "after_template" (top 33)
  d_after_operator : DfC K mg "after_operator" (top 34)
  d_after_word_sign : DfC K mg "after_word_sign" (top 35)
  d_after_number : DfC K mg "after_number" (top 36)
  d_after_quote : DfC K mg "after_quote" (top 37)
  d_after_token : DfC K mg "after_token" (top 38)
  d_after_operand_sign : DfC K mg "after_operand_sign" (top 39)
  d_after_comma : DfC K mg "after_comma" (top 40)
  d_after_colon : DfC K mg "after_colon" (top 41)
  d_after_done_sign : DfC K mg "after_done_sign" (top 42)
  d_after_code_sign : DfC K mg "after_code_sign" (top 43)
  d_after_start_sign : DfC K mg "after_start_sign" (top 44)
  d_after_plain : DfC K mg "after_plain" (top 45)
  d_next_state : DfC K mg "next_state" (top 46)
  d_state_behind : DfC K mg "state_behind" (top 48)
  d_state_of : DfC K mg "state_of" (top 49)
  d_is_entry_state : DfC K mg "is_entry_state" (top 50)
  d_run_on : DfC K mg "run_on" (top 53)
  d_word_end : DfC K mg "word_end" (top 54)
  d_token_end : DfC K mg "token_end" (top 55)
  d_line_start : DfC K mg "line_start" (top 56)
  d_phase_end : DfC K mg "phase_end" (top 57)
  d_completion_of : DfC K mg "completion_of" (top 58)
  d_lead_state : DfC K mg "lead_state" (top 63)
  d_need_lead : DfC K mg "need_lead" (top 64)
  d_are_alike : DfC K mg "are_alike" (top 65)
  d_rows_for : DfC K mg "rows_for" (top 66)
  d_pieces_for : DfC K mg "pieces_for" (top 67)
  d_told_apart : DfC K mg "told_apart" (top 68)
  d_nearest : DfC K mg "nearest" (top 69)
  d_difference : DfC K mg "difference" (top 70)
  d__law_begin : DfC K mg "_law_begin" (top 72)
  d__law_mixed : DfC K mg "_law_mixed" (top 73)
  d__law_next : DfC K mg "_law_next" (top 74)
  d__law_pick : DfC K mg "_law_pick" (top 75)
  d__law_leads : DfC K mg "_law_leads" (top 76)
  d__law_word_end : DfC K mg "_law_word_end" (top 77)
  d__law_string_end : DfC K mg "_law_string_end" (top 78)
  d__law_template_end : DfC K mg "_law_template_end" (top 79)
  d__law_token : DfC K mg "_law_token" (top 80)
  d__law_lexed : DfC K mg "_law_lexed" (top 81)
  d__law_items : DfC K mg "_law_items" (top 82)
  d__law_primary : DfC K mg "_law_primary" (top 83)
  d__law_expr : DfC K mg "_law_expr" (top 84)
  d__law_simple : DfC K mg "_law_simple" (top 85)
  d__law_clause : DfC K mg "_law_clause" (top 86)
  d__law_statement : DfC K mg "_law_statement" (top 87)
  d__law_is_entry : DfC K mg "_law_is_entry" (top 88)
  d__law_told_right : DfC K mg "_law_told_right" (top 89)
  d_law : DfC K mg "law" (top 90)
  e___init__ : ∃ (f : Addr) (fd : FuncData) (dv : List V), FunD K "__init__" "State.__init__" (defArgs (inClass (top 22) 0)) (defBody (inClass (top 22) 0)) (defScope (inClass (top 22) 0)) dv [] f fd ∧ Mk K C f ∧ ∀ H, RepL ⟨C, K, w⟩ H g_dd dv
  e_parts : MeC K C "parts" "State.parts" (inClass (top 22) 1) []
  e_in_phase : ∃ dv : V, MeC K C "in_phase" "State.in_phase" (inClass (top 22) 2) [dv] ∧ ∀ H, Rep ⟨C, K, w⟩ H (.tup []) dv
  e_with_token : MeC K C "with_token" "State.with_token" (inClass (top 22) 3) []
  e_opened : MeC K C "opened" "State.opened" (inClass (top 22) 4) []
  e_reframed : MeC K C "reframed" "State.reframed" (inClass (top 22) 5) []
  e_closed : MeC K C "closed" "State.closed" (inClass (top 22) 6) []
  e_innermost : MeC K C "innermost" "State.innermost" (inClass (top 22) 7) []
  e_is_prefix : MeC K C "is_prefix" "State.is_prefix" (inClass (top 22) 8) []
  st : mg "State" = some (.ref C)
end
end Rp
set_option Elab.async false
set_option linter.all false
set_option maxRecDepth 100000
set_option maxHeartbeats 4000000
namespace Rp
noncomputable section
open PySem PySem.Spec PyProof.Rows L2 SX
theorem upd2 {H : Hp} {a : Addr} {o u : HO} : upd (upd H a o) a u = upd H a u := by
  funext b
  by_cases e : b = a
  · rw [e, upd_same, upd_same]
  · rw [upd_ne e, upd_ne e, upd_ne e]
def spF (C : Addr) : Sp := fun vs H Q _ => ∃ x dx vl vg vf vp vt, vs = [.ref x, vl, vg, vf, vp, vt] ∧ H x = some (.ins C dx []) ∧ Q .non (upd H x (.ins C dx (flds vl vg vf vp vt)))
abbrev stI : Stmt := inClass (top 22) 0
theorem sc_init : FnScope ["self", "levels", "goal", "frames", "phase", "token"] ["self", "levels", "goal", "frames", "phase", "token"] (defScope stI) := ⟨rfl, rfl, rfl, by decide +kernel, rfl, by decide +kernel, by decide +kernel⟩
section
variable {P : Program} {w : World} {K : PySem.W.Frag} {mg : Str → Option Value} {base : Heap} {C : Addr}
def sF1 (K : PySem.W.Frag) (i : Nat) (f : Str) : TS := sFld K (tVar 0) (tVar i) f
theorem ok_init {f : Addr} {fd : FuncData} {dv : List V} (T : Top P w K mg base C) (F : FunD K "__init__" "State.__init__" (defArgs stI) (defBody stI) (defScope stI) dv [] f fd) : FnOk P w K mg base L2.CX0 1 f fd ["self", "levels", "goal", "frames", "phase", "token"] (spF C) := by
  have S := sc_init
  refine F.ok S (fun vs H Q E h => ?_) fun cdv A outer s H vs Q E hr h => ⟨tSeq (sF1 K 1 "levels") (tSeq (sF1 K 2 "goal") (tSeq (sF1 K 3 "frames") (tSeq (sF1 K 4 "phase") (sF1 K 5 "token")))), PSs.nox ?_, ?_⟩
  · obtain ⟨x, dx, vl, vg, vf, vp, vt, e, _⟩ := h
    rw [e]
    rfl
  · exact pss_cons (ps_fld (pv 0) (pv 1) rfl) (pss_cons (ps_fld (pv 0) (pv 2) rfl) (pss_cons (ps_fld (pv 0) (pv 3) rfl) (pss_cons (ps_fld (pv 0) (pv 4) rfl) (pss_one (ps_fld (pv 0) (pv 5) rfl)))))
  · obtain ⟨x, dx, vl, vg, vf, vp, vt, e, h1, q⟩ := h
    subst e
    have cl := T.cs.cl
    have p0 : putF "levels" vl [] = [(("levels" : Str), vl)] := by rfl
    refine ⟨vl, rfl, .ref x, rfl, x, C, dx, _, rfl, h1, cl, T.cs.no .lv, Nat.le_of_ble_eq_true rfl, ?_⟩
    rw [p0]
    have p1 : putF "goal" vg [(("levels" : Str), vl)] = [(("levels" : Str), vl), (("goal" : Str), vg)] := by rfl
    refine ⟨vg, rfl, .ref x, rfl, x, C, dx, _, rfl, upd_same, cl, T.cs.no .gl, Nat.le_of_ble_eq_true rfl, ?_⟩
    rw [p1]
    have p2 : putF "frames" vf [(("levels" : Str), vl), (("goal" : Str), vg)] = [(("levels" : Str), vl), (("goal" : Str), vg), (("frames" : Str), vf)] := by rfl
    refine ⟨vf, rfl, .ref x, rfl, x, C, dx, _, rfl, upd_same, cl, T.cs.no .fr, Nat.le_of_ble_eq_true rfl, ?_⟩
    rw [p2]
    have p3 : putF "phase" vp [(("levels" : Str), vl), (("goal" : Str), vg), (("frames" : Str), vf)] = [(("levels" : Str), vl), (("goal" : Str), vg), (("frames" : Str), vf), (("phase" : Str), vp)] := by rfl
    refine ⟨vp, rfl, .ref x, rfl, x, C, dx, _, rfl, upd_same, cl, T.cs.no .ph, Nat.le_of_ble_eq_true rfl, ?_⟩
    rw [p3]
    have p4 : putF "token" vt [(("levels" : Str), vl), (("goal" : Str), vg), (("frames" : Str), vf), (("phase" : Str), vp)] = [(("levels" : Str), vl), (("goal" : Str), vg), (("frames" : Str), vf), (("phase" : Str), vp), (("token" : Str), vt)] := by rfl
    refine ⟨vt, rfl, .ref x, rfl, x, C, dx, _, rfl, upd_same, cl, T.cs.no .tk, Nat.le_of_ble_eq_true rfl, ?_⟩
    rw [p4]
    rw [upd2, upd2, upd2, upd2]
    exact q
theorem F_State (T : Top P w K mg base C) : MkC P w K mg base C 1 "State" g_dd := by
  obtain ⟨f, fd, dv, F, M, rd⟩ := T.e___init__
  have ok := ok_init T F
  have hl : dv.length = 5 := (rd (fun _ => none)).length
  have hd : dv ≠ [] := fun z => by rw [z] at hl; cases hl
  have hx : ∀ j : Nat, j ≤ 5 → FnR P w K mg base L2.CX0 1 f (fun vs H Q E => vs.length = j + 1 ∧ spF C (vs ++ dv.drop j) H Q E) := by
    intro j hj
    have b : ∃ ds, Vals (dv.drop j) ds ∧ Binds K fd ["self", "levels", "goal", "frames", "phase", "token"] ds := by
      refine FunD.binds1 F (j + 1) j hd (by rw [hl]; show j + 1 + (5 - j) = 6; omega) fun TT kV doc pm an cdv ct us its h1 h2 => ?_
      rw [hl] at h2
      match j, hj, us, h1, its, h2 with
      | 0, _, [_], _, [_, _, _, _, _], _ => exact ⟨_, rfl, rfl⟩
      | 1, _, [_, _], _, [_, _, _, _, _], _ => exact ⟨_, rfl, rfl⟩
      | 2, _, [_, _, _], _, [_, _, _, _, _], _ => exact ⟨_, rfl, rfl⟩
      | 3, _, [_, _, _, _], _, [_, _, _, _, _], _ => exact ⟨_, rfl, rfl⟩
      | 4, _, [_, _, _, _, _], _, [_, _, _, _, _], _ => exact ⟨_, rfl, rfl⟩
      | 5, _, [_, _, _, _, _, _], _, [_, _, _, _, _], _ => exact ⟨_, rfl, rfl⟩
    obtain ⟨ds, v, b⟩ := b
    exact (FnOk.raw ok b v).imp fun vs H Q E h => h.2
  refine ⟨f, dv, M, fun A outer s H us vs Q E hr e0 r hs => ?_, T.st, rd⟩
  have hs' := hs
  obtain ⟨x, dx, vl, vg, vf, vp, vt, e, h1, q⟩ := hs
  have hlen := congrArg List.length e
  rw [List.length_append, List.length_drop, hl] at hlen
  have hlen : vs.length + (5 - (vs.length - 1)) = 6 := hlen
  have h0 : vs.length = (vs.length - 1) + 1 := by
    rcases vs with _ | ⟨a, r⟩
    · rw [List.nil_append] at e
      have := congrArg List.length e
      rw [List.length_drop, hl] at this
      cases this
    · rfl
  exact hx (vs.length - 1) (by omega) A outer s H us vs Q E hr e0 r ⟨h0, x, dx, vl, vg, vf, vp, vt, e, h1, q⟩
end
end
end Rp
set_option Elab.async false
set_option linter.all false
set_option maxRecDepth 100000
set_option maxHeartbeats 4000000
namespace Rp
noncomputable section
open PySem PySem.Spec PyProof.Rows L2 SX
section
variable {P : Program} {w : World} {K : PySem.W.Frag} {mg : Str → Option Value} {base : Heap} {C : Addr}
theorem sc_rows_for : FnScope ["one", "other", "widths", "level", "width", "row"] ["one", "other"] (defScope (top 66)) := ⟨rfl, rfl, rfl, by decide +kernel, rfl, by decide +kernel, by decide +kernel⟩
theorem PX.raw {C : Addr} {X : Cx} {e : Expr} {f : RE} (h : PX C X e f) : ∃ t, PE X e t ∧ ∀ σ H ρ d (Q : VK), SRep (cw C X) H σ ρ → f ρ = some d → Wt (cw C X) H d Q → t σ H Q := h
theorem lvKeys_cons {d : D} {r : List D} {ks ks' : List Int} (e : lvKeys (d :: r) ks = some ks') : ∃ i, dIx d (.int 0) = some (.int i) ∧ ks.length ≤ 1000 ∧ lvKeys r ([i, i + 1].foldl addI ks) = some ks' := by
  unfold lvKeys at e
  split at e
  · rename_i i e1
    obtain ⟨z1, z2⟩ := cond_some e
    exact ⟨i, e1, Nat.le_of_ble_eq_true z1, z2⟩
  · cases e
theorem rowsAll_cons {te : RE} {rows : List D} {ρ : Rho} {i : Int} {r : List Int} {a : List D} (e : rowsAll te rows ρ (i :: r) = some a) : ∃ x y, lcD (aName 5) tYesR te rows (wipeR (ρ.set 4 (some (.int i))) [5]) = some x ∧ rowsAll te rows ρ r = some y ∧ a = x ++ y := by
  unfold rowsAll at e
  split at e
  · rename_i x e1
    split at e
    · rename_i y e2
      cases e
      exact ⟨x, y, e1, e2, rfl⟩
    · cases e
  · cases e
theorem lcD_cons {A : D → Rho → Option Rho} {te : RE} {d : D} {ds : List D} {ρ : Rho} {ys : List D} (e : lcD A tYesR te (d :: ds) ρ = some ys) : ∃ ρ1 y r, A d ρ = some ρ1 ∧ te ρ1 = some y ∧ isSc y = true ∧ lcD A tYesR te ds ρ = some r ∧ ys = y :: r := by
  unfold lcD at e
  cases e1 : A d ρ with
  | none => rw [e1] at e; cases e
  | some ρ1 =>
    rw [e1] at e
    have e' : (match te ρ1 with
      | some y => cnd (isSc y) (match lcD A tYesR te ds ρ with
        | some r => some (y :: r)
        | none => none) none
      | none => none) = some ys := e
    cases e2 : te ρ1 with
    | none => rw [e2] at e'; cases e'
    | some y =>
      rw [e2] at e'
      obtain ⟨z1, z2⟩ := cond_some e'
      cases e3 : lcD A tYesR te ds ρ with
      | none => rw [e3] at z2; cases z2
      | some r =>
        rw [e3] at z2
        cases z2
        exact ⟨ρ1, y, r, rfl, e2, z1, rfl, rfl⟩
/-- what two for's of a comprehension over sorted ints and a constant's rows make -/
theorem lc2_read {c : Cw} {te0 : TE} {te : RE} {J1 : TI} {rows : List D} {ys : List Int} {acc0 : List D} {d : D} {p b : Addr} {vs : List V} {σ : L2.St} {H1 : Hp} {Q : VK} (hσ : σ.length = 6)
    (he : ∀ σ H ρ d (Q : VK), SRep c H σ ρ → te ρ = some d → Wt c H d Q → te0 σ H Q)
    (hJ : ∀ σ H (Rr : It → Hp → Prop), Rr (Itt c.K b) H → J1 σ H Rr) (hb : ∀ H, SqT c.K H b vs) (hr : ∀ H, RepL c H rows vs)
    (hp : H1 p = some (.lst (ys.map V.int))) (e : rowsAll te rows (List.replicate 6 none) ys = some acc0) (em : mkLst acc0 = some d) (q : Wt c H1 d Q) :
    ∀ D, H1 D = none → ∃ W : Nat → Nat → Hp → Prop, (∃ m, W 0 m (upd H1 D (.lst []))) ∧ ∀ i m H, W i m H →
  ((Itl c.K p).stop i H ∧ Q (.ref D) H) ∨ ((Itl c.K p).go i H ∧ ∃ Nx : Hp → Prop, (∀ H', Nx H' → ∃ m', m' < m ∧ W (i + 1) m' H') ∧ ∀ x H', (Itl c.K p).yld i H x H' → gName 4 x (L2.wipe σ [4, 5]) H' fun σ2 H2 => L2.wipe σ2 [4, 5] = L2.wipe σ [4, 5] ∧ tYes σ2 H2 fun b H3 =>
    if b = true then J1 σ2 H3 fun J1 H4 => ∃ W1 : Nat → Nat → Hp → Prop, (∃ m, W1 0 m H4) ∧ ∀ j k H, W1 j k H →
      (J1.stop j H ∧ Nx H) ∨ (J1.go j H ∧ ∃ Nx1 : Hp → Prop, (∀ H', Nx1 H' → ∃ k', k' < k ∧ W1 (j + 1) k' H') ∧ ∀ x H', J1.yld j H x H' → gName 5 x (L2.wipe σ2 [5]) H' fun σ3 H5 => L2.wipe σ3 [5] = L2.wipe σ2 [5] ∧ tYes σ3 H5 fun b H6 =>
        if b = true then te0 σ3 H6 fun y H7 => ∃ acc, H7 D = some (.lst acc) ∧ acc.length < sizeLine ∧ Nx1 (upd H7 D (.lst (acc ++ [y]))) else Nx1 H6)
    else Nx H3) := by
  intro D hD
  obtain ⟨m1, m2⟩ := cond_some em
  obtain ⟨m3, m4⟩ := cond_some m2
  cases m4
  have hz := Nat.le_of_ble_eq_true m1
  have keep : ∀ {H' : Hp}, Same (hide D H1) H' → SqL c.K H' p (ys.map V.int) := fun s => SqL.of (s _ _ (by rw [hide_at (fun z => by rw [z, hD] at hp; cases hp)]; exact hp))
  have back : ∀ {H' : Hp}, Same (hide D H1) H' → Same H1 H' := fun s b u eb => s b u (by rw [hide_at (ne_of_none eb hD)]; exact eb)
  have w := walk_list (K := c.K) (a := p) (xs := ys.map V.int)
  have hlen : (ys.map V.int).length = ys.length := List.length_map ..
  refine ⟨fun i m H' => m = ys.length - i ∧ i ≤ ys.length ∧ Same (hide D H1) H' ∧ ∃ acc done rest, H' D = some (HO.lst acc) ∧ RepL c H' done acc ∧ done.all isSc = true ∧ rowsAll te rows (List.replicate 6 none) (ys.drop i) = some rest ∧ acc0 = done ++ rest,
    ⟨ys.length, by simp, Nat.zero_le _, (fun b u eb => ?_), [], [], acc0, upd_same, rfl, rfl, by rw [List.drop_zero]; exact e, rfl⟩, ?_⟩
  · have ne : b ≠ D := fun z => by rw [z] at eb; unfold hide at eb; rw [if_pos rfl] at eb; cases eb
    rw [upd_ne ne]
    exact hide_le b u eb
  rintro i m H ⟨rfl, hi, s1, acc, done, rest, a1, a2, a3, a4, a5⟩
  by_cases hlt : i < ys.length
  · refine .inr ⟨w.goes i H (by rw [hlen]; exact hlt) (keep s1), fun H' => Same (hide D H1) H' ∧ ∃ acc done rest, H' D = some (HO.lst acc) ∧ RepL c H' done acc ∧ done.all isSc = true ∧ rowsAll te rows (List.replicate 6 none) (ys.drop (i + 1)) = some rest ∧ acc0 = done ++ rest,
      fun H' p' => ⟨ys.length - (i + 1), by omega, rfl, hlt, p'⟩, fun x H2 y => ?_⟩
    obtain ⟨rfl, hx⟩ := w.yields i H x H2 (by rw [hlen]; exact hlt) (keep s1) y
    have hyi : ys[i]? = some ys[i] := by simp [hlt]
    have ex : x = V.int ys[i] := by
      rw [List.getElem?_map, hyi] at hx
      exact (Option.some.inj hx).symm
    subst ex
    rw [dropD_at ys i ys[i] hyi] at a4
    obtain ⟨r1, r2, e1, e2, e3⟩ := rowsAll_cons a4
    subst e3
    have hw2 : ∀ H, SRep c H (L2.wipe σ [4, 5]) (List.replicate 6 none) := fun H => ⟨by show ((σ.set 5 none).set 4 none).length = _; simp [hσ], fun j d ej => by
      rw [List.getElem?_replicate] at ej
      split at ej <;> cases ej⟩
    refine ⟨?_, ?_⟩
    · show ((((((σ.set 5 none).set 4 none).set 4 (some _)).set 5 none).set 4 none)) = (σ.set 5 none).set 4 none
      rw [List.set_set, List.set_comm _ _ (by decide : (4 : Nat) ≠ 5), List.set_set, List.set_set]
    · show J1 _ _ _
      refine hJ _ _ _ ?_
      have w2 := walk_tup (K := c.K) (a := b) (xs := vs)
      refine ⟨fun j k H' => k = vs.length - j ∧ j ≤ vs.length ∧ Same (hide D H1) H' ∧ ∃ acc done2 rest2, H' D = some (HO.lst acc) ∧ RepL c H' (done ++ done2) acc ∧ (done ++ done2).all isSc = true ∧ lcD (aName 5) tYesR te (rows.drop j) (wipeR ((List.replicate 6 none).set 4 (some (.int ys[i]))) [5]) = some rest2 ∧ r1 = done2 ++ rest2,
        ⟨vs.length, by simp, Nat.zero_le _, s1, acc, [], r1, a1, by rw [List.append_nil]; exact a2, by rw [List.append_nil]; exact a3, by rw [List.drop_zero]; exact e1, rfl⟩, ?_⟩
      rintro j k H4 ⟨rfl, hj, s4, acc4, done2, rest2, b1, b2, b3, b4, b5⟩
      by_cases hjt : j < vs.length
      · refine .inr ⟨w2.goes j H4 hjt (hb H4), fun H' => Same (hide D H1) H' ∧ ∃ acc done2 rest2, H' D = some (HO.lst acc) ∧ RepL c H' (done ++ done2) acc ∧ (done ++ done2).all isSc = true ∧ lcD (aName 5) tYesR te (rows.drop (j + 1)) (wipeR ((List.replicate 6 none).set 4 (some (.int ys[i]))) [5]) = some rest2 ∧ r1 = done2 ++ rest2,
          fun H' p' => ⟨vs.length - (j + 1), by omega, rfl, hjt, p'⟩, fun x H5 y => ?_⟩
        obtain ⟨rfl, hx2⟩ := w2.yields j H4 x H5 hjt (hb H4) y
        have hjr : j < rows.length := by rw [← (hr H5).length]; exact hjt
        obtain ⟨v2, z1, z2⟩ := (hr H5).get (i := j) (d := rows[j]) (by simp [hjr])
        rw [hx2] at z1
        cases z1
        rw [dropD_at rows j rows[j] (by simp [hjr])] at b4
        obtain ⟨ρ1, yv, r3, c1, c2, c3, c4, c5⟩ := lcD_cons b4
        cases c1
        subst c5
        refine ⟨?_, ?_⟩
        · show ((((σ.set 5 none).set 4 none).set 4 _).set 5 none |>.set 5 _ |>.set 5 none) = ((((σ.set 5 none).set 4 none).set 4 _).set 5 none)
          rw [List.set_set, List.set_set]
        · show te0 _ _ _
          have sr : SRep c H5 ((L2.wipe ((L2.wipe σ [4, 5]).set 4 (some (V.int ys[i]))) [5]).set 5 (some x)) ((wipeR ((List.replicate 6 none).set 4 (some (.int ys[i]))) [5]).set 5 (some rows[j])) :=
            (SRep.wipe ((hw2 H5).set 4 (d := .int ys[i]) rfl) [5]).set 5 z2
          refine he _ _ _ yv _ sr c2 fun y7 H7 s7 r7 => ?_
          have hl4 : acc4.length = (done ++ done2).length := b2.length
          refine ⟨acc4, s7 _ _ b1, ?_, ?_⟩
          · have h5 := congrArg List.length a5
            have h6 := congrArg List.length b5
            rw [List.length_append, List.length_append] at h5
            rw [List.length_append, List.length_cons] at h6
            rw [hl4, List.length_append, sizeLine_eq]
            omega
          · refine ⟨fun bb u eb => ?_, acc4 ++ [y7], done2 ++ [yv], r3, upd_same, ?_, ?_, c4, by rw [b5, List.append_assoc]; rfl⟩
            · have ne : bb ≠ D := fun z => by rw [z] at eb; unfold hide at eb; rw [if_pos rfl] at eb; cases eb
              rw [upd_ne ne]
              exact s7 _ _ (s4 _ _ eb)
            · rw [← List.append_assoc]
              exact (repL_sc b3 b2).append ⟨y7, [], rfl, rep_sc c3 r7, rfl⟩
            · rw [← List.append_assoc, List.all_append, b3, List.all_cons, c3]
              rfl
      · have hj2 : j = vs.length := by omega
        subst hj2
        rw [show vs.length = rows.length from (hr H4).length, List.drop_length] at b4
        cases b4
        rw [List.append_nil] at b5
        subst b5
        exact .inl ⟨w2.stops H4 (hb H4), s4, acc4, done ++ r1, r2, b1, b2, b3, e2, by rw [a5, List.append_assoc]⟩
  · have hi2 : i = ys.length := by omega
    subst hi2
    rw [List.drop_length] at a4
    cases a4
    rw [List.append_nil] at a5
    subst a5
    refine .inl ⟨by have := w.stops H (by exact keep s1); rw [hlen] at this; exact this, ?_⟩
    exact q _ H (back s1) ⟨D, acc, rfl, a1, a2, m3⟩
end
end
end Rp
set_option Elab.async false
set_option linter.all false
set_option maxRecDepth 100000
set_option maxHeartbeats 4000000
namespace Rp
noncomputable section
open PySem PySem.Spec PyProof.Rows L2 SX
section
variable {P : Program} {w : World} {K : PySem.W.Frag} {mg : Str → Option Value} {base : Heap} {C : Addr}
def fAdd0 : RE := o2 dAdd (e1 (fldOf .lv) (eVar 0)) (e1 (fldOf .lv) (eVar 1))
theorem rowsBody_some {one other : D} {r : R} (e : rowsBody one other = some r) : ∃ l ks a x, fAdd0 [some one, some other, none, none, none, none] = some (.tup l) ∧ lvKeys l [0] = some ks ∧ ks.length < 64 ∧ rowsAll e_row (rowsList g_ROWS) (List.replicate 6 none) (sortI ks) = some a ∧
    mkLst a = some (.lst a) ∧ dAdd (.lst [.str [10]]) (.lst a) = some x ∧ r = .rt x := by
  unfold rowsBody at e
  split at e
  · rename_i l e1
    split at e
    · rename_i ks e2
      obtain ⟨z1, e⟩ := cond_some e
      split at e
      · rename_i a e3
        split at e
        · rename_i b e4
          split at e
          · rename_i x e5
            cases e
            have z := Nat.le_of_ble_eq_true z1
            obtain ⟨m1, m2⟩ := cond_some e4
            obtain ⟨m3, m4⟩ := cond_some m2
            cases m4
            exact ⟨l, ks, a, x, e1, e2, by omega, e3, e4, e5, rfl⟩
          · cases e
        · cases e
      · cases e
    · cases e
  · cases e
theorem srep2 {c : Cw} {H : Hp} {σ : L2.St} {d0 d1 : D} {v0 v1 : V} (hl : σ.length = 6) (h0 : σ[0]? = some (some v0)) (h1 : σ[1]? = some (some v1)) (r0 : Rep c H d0 v0) (r1 : Rep c H d1 v1) : SRep c H σ [some d0, some d1, none, none, none, none] := by
  refine ⟨hl, fun i d e => ?_⟩
  match i, e with
  | 0, e => cases e; exact ⟨v0, h0, r0⟩
  | 1, e => cases e; exact ⟨v1, h1, r1⟩
  | 2, e => cases e
  | 3, e => cases e
  | 4, e => cases e
  | 5, e => cases e
  | n + 6, e => simp at e
theorem srep3 {c : Cw} {H : Hp} {σ : L2.St} {d : D} {v : V} (hl : σ.length = 6) (h3 : σ[3]? = some (some v)) (r : Rep c H d v) : SRep c H σ [none, none, none, some d, none, none] := by
  refine ⟨hl, fun i d e => ?_⟩
  match i, e with
  | 0, e => cases e
  | 1, e => cases e
  | 2, e => cases e
  | 3, e => cases e; exact ⟨v, h3, r⟩
  | 4, e => cases e
  | 5, e => cases e
  | n + 6, e => simp at e
theorem srep0 {c : Cw} {H : Hp} {σ : L2.St} (hl : σ.length = 6) : SRep c H σ (List.replicate 6 none) := ⟨by simp [hl], fun j d ej => by
  rw [List.getElem?_replicate] at ej
  split at ej <;> cases ej⟩
theorem addI2 (i : Int) : [i, i + 1].foldl addI [] = [i, i + 1] := by
  have h1 : addI [] i = [i] := rfl
  have h2 : addI [i] (i + 1) = [i, i + 1] := by
    unfold addI
    rw [if_neg]
    · rfl
    · intro z
      have : i + 1 = i := by simpa using z
      omega
  show addI (addI [] i) (i + 1) = _
  rw [h1, h2]
def rSrt : List V → Hp → VK → Prop := fun xs H Q => ∃ (a : Addr) (kvs : List (Key × V)) (ks : List Int), xs = [.ref a] ∧ Rd H a (.dK kvs) ∧ kvs.map (·.1) = ks.map Sum.inl ∧ ks.length < 64 ∧
    ∀ (ys : List Int) (p : Addr), ys.Perm ks → ys.Pairwise (· ≤ ·) → H p = none → Q (.ref p) (upd H p (.lst (ys.map V.int)))
def fAdd : RE := o2 dAdd (e1 (fldOf .lv) (eVar 0)) (e1 (fldOf .lv) (eVar 1))
def fK0 : RE := o2 dIx (eVar 3) (eC (.int 0))
def fK1 : RE := o2 dAdd (o2 dIx (eVar 3) (eC (.int 0))) (eC (.int 1))
def fNl : RE := eA mkLst (aCons (eC (.str [10])) aNil)
def tR1 : TS := tAsg (tDisp [(tC (.int 0), tC (.bl true))]) (gName 2)
def tR2b (c : Cw) : TS := tDrop (tBM c.K "dict" rUpdate (tVar 2) (tCons (tDisp [(tE c fK0, tC (.bl true)), (tE c fK1, tC (.bl true))]) tNil))
def tR2 (c : Cw) : TS := tFor (iTup c.K (tE c fAdd)) (gName 3) (tR2b c)
def tR3 (c : Cw) (vR : V) : TS := tRet (tOp rCat (tE c fNl) (tLc2 (iList c.K (tCB rSrt (tCons (tVar 2) tNil))) (gName 4) tYes (iTup c.K (tC vR)) (gName 5) tYes (tE c e_row) [4, 5] [5]))
theorem bx_rows_for (T : Top P w K mg base C) (f : Addr) (cdv : Value) (A : Around) (outer : List Env) (s : Shared) (H : Hp) (E : XK) (hr : Room 0 (A.deeper (envOfC "rows_for" (defScope (top 66)) s.heap.objs.size f cdv))) :
    BX C (CxD P w K mg base ["one", "other", "widths", "level", "width", "row"] "rows_for" (defScope (top 66)) f cdv A outer s H E) (defBody (top 66)) b_rows_for := by
  have S := sc_rows_for
  have hu := hr.units
  obtain ⟨uR, vR, mR, relR, repR⟩ := T.g_ROWS.ex
  refine ⟨tSeq tR1 (tSeq (tR2 ⟨C, K, w⟩) (tR3 ⟨C, K, w⟩ vR)), ?_, ?_⟩
  · refine pss_cons (ps_set (i := 2) S.nd rfl (Or.inl rfl) (pe_disp (pps_cons pe_int pe_bl pps_nil) rfl rfl (List.cons_ne_nil _ _) (by decide)) rfl (Or.inl rfl)) (pss_cons ?_ (pss_one ?_))
    · refine ps_for PassesOwn.never rfl (pi_tup (PX.pe (C := C) (px_op op_dAdd (px_fld .lv T.cs (px_var (i := 0))) (px_fld .lv T.cs (px_var (i := 1)))))) (pg_name (i := 3) S.nd rfl (Or.inl rfl) (Or.inl rfl)) (pss_one (ps_expr ?_))
      refine pe_bm PySem.F.plainAttrs_dict PySem.F.slot_dict_update PySem.F.type_dict_update mt_update (pv 2) (pa_cons ?_ pa_nil)
      exact pe_disp (pps_cons (PX.pe (C := C) (px_ix (px_var (i := 3)) px_int)) pe_bl (pps_cons (PX.pe (C := C) (px_op op_dAdd (px_ix (px_var (i := 3)) px_int) px_int)) pe_bl pps_nil)) rfl rfl (List.cons_ne_nil _ _) (by decide)
    · refine ps_ret (pe_op op_cat (PX.pe (C := C) (px_lst (ax_cons (px_str (s := [10]) (by rfl) (by rfl)) ax_nil))) ?_)
      refine pe_lc2 (own := [("width", 4), ("row", 5)]) (vs1 := [5]) rfl S.nd (pi_list (pe_callB (call_sortedDI rfl) rfl T.sorted boot_sorted (pa_cons (pv 2) pa_nil))) (blkOk_by (N := ["one", "other", "widths", "level", "width", "row"]) (sc := defScope (top 66)) (by decide +kernel)) (by decide)
          (fun _ _ _ _ _ => pg_name (i := 4) S.nd rfl (Or.inl rfl)) (fun _ _ _ _ _ => pts_nil) (fun _ _ _ _ _ => pi_tup (pe_glob rfl mR relR (by decide))) (fun _ _ _ _ _ => pg_name (i := 5) S.nd rfl (Or.inl rfl)) (fun _ _ _ _ _ => pts_nil)
          (fun s H C' cl fp => PX.pe (C := C) (px_op op_dAdd (px_op op_dMul (px_str (s := [32]) (by rfl) (by rfl)) (px_var (i := 4))) (px_var (i := 5))))
  intro σ H ρ r D h e q
  unfold b_rows_for at e
  split at e
  · rename_i one other _ _ _ _
    obtain ⟨l, ks, al, x, e1, e2, e3, e4, e5, e6, rfl⟩ := rowsBody_some e
    have hlen : σ.length = 6 := h.1
    obtain ⟨v0, w0, r0⟩ := h.2 0 one rfl
    obtain ⟨v1, w1, r1⟩ := h.2 1 other rfl
    intro p hp
    refine ⟨upd_same, kvI [0], rfl, by decide, ?_⟩
    rw [show mergeK [] (kvI [0]) = kvI [0] from rfl, L2.upd_upd]
    have sH1 : Same H (upd H p (.dK (kvI [0]))) := same_new hp
    have hp1 : upd H p (.dK (kvI [0])) p = some (.dK (kvI [0])) := upd_same
    generalize upd H p (.dK (kvI [0])) = H1 at sH1 hp1
    refine ⟨[some one, some other, none, none, none, none], .tup l, srep2 (by simpa using hlen) (by rw [List.getElem?_set_ne (by decide)]; exact w0) (by rw [List.getElem?_set_ne (by decide)]; exact w1) (r0.same sH1) (r1.same sH1), e1, fun v H2 s2 r2 => ?_⟩
    obtain ⟨b, vs, h1, h2, h3, h4⟩ := r2
    have hp2 : H2 p = some (.dK (kvI [0])) := s2 _ _ hp1
    have hB : ∀ {H' : Hp}, Same (hide p H2) H' → Same H H' := fun s b u eb => s b u (by rw [hide_at (ne_of_none eb hp)]; exact s2 _ _ (sH1 _ _ eb))
    have it := RepL.hide hp2 big_dK l h4 h3
    have sq := SqT.hide hp2 big_dK h2
    refine ⟨b, h1, ⟨vs, h2⟩, ?_⟩
    refine for_it (walk_tup (K := K) (a := b) (xs := vs)) (fun i σ' H' => Same (hide p H2) H' ∧ σ'.length = 6 ∧ σ'[2]? = some (some (.ref p)) ∧ ∃ ks', H' p = some (.dK (kvI ks')) ∧ lvKeys (l.drop i) ks' = some ks)
      ⟨hide_le, by simpa using hlen, List.getElem?_set_self (by rw [hlen]; decide), [0], hp2, by rw [List.drop_zero]; exact e2⟩ (fun i σ' H' _ z => SqT.same z.1 sq) ?_ ?_
    · rintro i xv σ1 H3 H4 hi ⟨s3, l1, g1, ks', g2, g3⟩ y
      obtain ⟨rfl, hx⟩ := y
      have hil : i < l.length := by rw [← h3.length]; exact hi
      obtain ⟨v2, z1, z2⟩ := it.get (i := i) (d := l[i]) (by simp [hil])
      rw [hx] at z1
      cases z1
      rw [dropD_at l i l[i] (by simp [hil])] at g3
      obtain ⟨n, k1, k2, k3⟩ := lvKeys_cons g3
      have l2 : (σ1.set 3 (some xv)).length = 6 := by simpa using l1
      have g4 : (σ1.set 3 (some xv))[2]? = some (some (V.ref p)) := by rw [List.getElem?_set_ne (by decide)]; exact g1
      have g5 : (σ1.set 3 (some xv))[3]? = some (some xv) := List.getElem?_set_self (by rw [l1]; decide)
      refine ⟨.ref p, g4, .inr (.inr (.inl ⟨rfl, .inl ⟨_, g2⟩⟩)), fun qa hq => ?_⟩
      have s4 : Same H4 (upd H4 qa (.dK [])) := same_new hq
      refine ⟨[none, none, none, some l[i], none, none], .int n, srep3 l2 g5 (z2.same (s3.trans s4)), k1, fun va Ha sa ra => ?_⟩
      refine ⟨[none, none, none, some l[i], none, none], .int (n + 1), srep3 l2 g5 (z2.same ((s3.trans s4).trans sa)), ?_, fun vb Hb sb rb => ?_⟩
      · show o2 dAdd (o2 dIx (eVar 3) (eC (.int 0))) (eC (.int 1)) _ = _
        have : o2 dIx (eVar 3) (eC (.int 0)) [none, none, none, some l[i], none, none] = some (.int n) := k1
        unfold o2 at this ⊢
        rw [this]
        rfl
      · have hqb : Hb qa = some (.dK []) := sb _ _ (sa _ _ upd_same)
        have npq : p ≠ qa := fun z => by rw [z, hq] at g2; cases g2
        have hpb : Hb p = some (.dK (kvI ks')) := sb _ _ (sa _ _ (s4 _ _ g2))
        refine ⟨hqb, kvI [n, n + 1], by rw [show va = V.int n from ra, show vb = V.int (n + 1) from rb]; rfl, Nat.le_of_ble_eq_true rfl, ?_⟩
        rw [mergeI0, addI2]
        refine ⟨p, qa, kvI ks', kvI [n, n + 1], rfl, rfl, npq, by rw [upd_ne npq]; exact hpb, upd_same, by rw [List.length_map]; show ks'.length + 2 ≤ 4000; omega, ?_⟩
        rw [mergeI]
        refine ⟨fun bb u eb => ?_, l2, g4, _, upd_same, k3⟩
        have n1 : bb ≠ p := fun z => by rw [z] at eb; unfold hide at eb; rw [if_pos rfl] at eb; cases eb
        have e4' := s3 _ _ eb
        have n2 : bb ≠ qa := ne_of_none e4' hq
        rw [upd_ne n1, upd_ne n2]
        exact sb _ _ (sa _ _ (s4 _ _ e4'))
    · rintro σ1 H3 ⟨s3, l1, g1, ks', g2, g3⟩
      rw [h3.length, List.drop_length] at g3
      cases g3
      refine ⟨List.replicate 6 none, .lst [.str [10]], srep0 l1, rfl, fun v1 Ha sa ra => ?_⟩
      refine ⟨.ref p, g1, p, kvI ks, ks, rfl, .inl (sa _ _ g2), by rw [List.map_map]; rfl, e3, fun ys pp perm srt hpp => ⟨pp, rfl, ⟨_, SqL.of upd_same⟩, ?_⟩⟩
      have ey := sortI_unique perm srt
      subst ey
      have sP : Same Ha (upd Ha pp (.lst ((sortI ks).map V.int))) := same_new hpp
      obtain ⟨bR, vsR, y1, y2, y3, y4⟩ := repR (fun _ => none)
      have y5 : ∀ H, SqT K H bR vsR := fun H => SqT.same (fun _ _ z => by cases z) y2
      have y6 : ∀ H, RepL ⟨C, K, w⟩ H (rowsList g_ROWS) vsR := fun H => RepL.same (fun _ _ z => by cases z) _ y3
      refine lc2_read (J1 := iTup K (tC vR)) (te0 := tE ⟨C, K, w⟩ e_row) (p := pp) (H1 := upd Ha pp (.lst ((sortI ks).map V.int))) (Q := fun y H2 => rCat v1 y H2 D.rt) (c := ⟨C, K, w⟩) (te := e_row) (rows := rowsList g_ROWS) (b := bR) (vs := vsR) l1 (fun σ H ρ d Q h e q => ⟨ρ, d, h, e, q⟩) (fun σ H Rr z => ⟨bR, y1, ⟨vsR, y5 H⟩, z⟩) y5 y6 upd_same e4 e5 (fun v2 Hb sb rb => ?_)
      obtain ⟨l1a, xs1, u1, u2, u3, u4⟩ := (ra.same sP).same sb
      obtain ⟨l2a, xs2, t1, t2, t3, t4⟩ := rb
      obtain ⟨m1, m2⟩ := mkLst_rep (c := ⟨C, K, w⟩) (H := Hb) e6 (u3.append t3)
      rw [List.length_append] at m1
      exact ⟨l1a, l2a, xs1, xs2, u1, t1, u2, t2, m1, fun pz hz => q _ _ ((((hB s3).trans sa).trans (sP.trans sb)).trans (same_new hz)) (m2 pz hz)⟩
  · cases e
theorem F_rows_for (T : Top P w K mg base C) : FnC P w K mg base C 1 "rows_for" m_rows_for :=
  fnc (N := ["one", "other", "widths", "level", "width", "row"]) (ps := ["one", "other"]) (k := 0) T.d_rows_for sc_rows_for rfl rfl (fun _ _ _ _ _ _ us hl => match us, hl with | [_, _], _ => rfl) (bx_rows_for T)
end
end
end Rp
set_option Elab.async false
set_option linter.all false
set_option maxRecDepth 100000
set_option maxHeartbeats 4000000
namespace Rp
noncomputable section
open PySem PySem.Spec PyProof.Rows L2 SX

theorem sc_consists_of : FnScope ["thing", "signs", "sign"] ["thing", "signs"] (defScope (top 8)) := ⟨rfl, rfl, rfl, by decide +kernel, rfl, by decide +kernel, by decide +kernel⟩
theorem bx_consists_of {P : Program} {w : World} {K : PySem.W.Frag} {mg : Str → Option Value} {base : Heap} {C : Addr} (T : Top P w K mg base C) (f : Addr) (cdv : Value) (A : Around) (outer : List Env) (s : Shared) (H : Hp) (E : XK) (hr : Room 0 (A.deeper (envOfC "consists_of" (defScope (top 8)) s.heap.objs.size f cdv))) :
    BX C (CxD P w K mg base ["thing", "signs", "sign"] "consists_of" (defScope (top 8)) f cdv A outer s H E) (defBody (top 8)) b_consists_of := by
    have S := sc_consists_of
    have hu := hr.units
    exact (bx_one (sx_ret (px_and (px_isi_str T.isinstance T.str (px_var (i := 0))) (px_one (px_callB (cl_all rfl) (by rfl) T.all (by decide +kernel) (ax_cons (px_lc0 2 rfl S.nd (ix_strD (px_var (i := 0))) rfl (blkOk_by (N := ["thing", "signs", "sign"]) (sc := defScope (top 8)) (by decide +kernel)) (fun _ _ _ _ _ => pg_name (i := 2) S.nd rfl (Or.inl rfl)) (fun _ _ _ _ _ => (px_cmp op_dIn (px_var (i := 2)) (px_var (i := 1)) (by rfl)))) ax_nil))))))
theorem F_consists_of {P : Program} {w : World} {K : PySem.W.Frag} {mg : Str → Option Value} {base : Heap} {C : Addr} (T : Top P w K mg base C) : FnC P w K mg base C 1 "consists_of" m_consists_of :=
  fnc (N := ["thing", "signs", "sign"]) (ps := ["thing", "signs"]) (k := 0) T.d_consists_of sc_consists_of rfl rfl (fun _ _ _ _ _ _ us hl => match us, hl with | [_, _], _ => rfl) (bx_consists_of T)
theorem sc_is_text : FnScope ["thing"] ["thing"] (defScope (top 9)) := ⟨rfl, rfl, rfl, by decide +kernel, rfl, by decide +kernel, by decide +kernel⟩
theorem bx_is_text {P : Program} {w : World} {K : PySem.W.Frag} {mg : Str → Option Value} {base : Heap} {C : Addr} (T : Top P w K mg base C) (f : Addr) (cdv : Value) (A : Around) (outer : List Env) (s : Shared) (H : Hp) (E : XK) (hr : Room 1 (A.deeper (envOfC "is_text" (defScope (top 9)) s.heap.objs.size f cdv))) :
    BX C (CxD P w K mg base ["thing"] "is_text" (defScope (top 9)) f cdv A outer s H E) (defBody (top 9)) b_is_text := by
    have S := sc_is_text
    have hu := hr.units
    have F_consists_of := F_consists_of T
    exact (bx_one (sx_ret (px_call F_consists_of hr (by decide) (ax_cons (px_var (i := 0)) (ax_cons (px_op op_dAdd (px_op op_dAdd (px_op op_dAdd (px_glob T.g_LETTERS) (px_glob T.g_DIGITS_signs)) (px_glob T.g_OTHERS)) (px_str (s := [10]) (by rfl) (by rfl))) ax_nil)))))
theorem F_is_text {P : Program} {w : World} {K : PySem.W.Frag} {mg : Str → Option Value} {base : Heap} {C : Addr} (T : Top P w K mg base C) : FnC P w K mg base C 2 "is_text" m_is_text :=
  fnc (N := ["thing"]) (ps := ["thing"]) (k := 1) T.d_is_text sc_is_text rfl rfl (fun _ _ _ _ _ _ us hl => match us, hl with | [_], _ => rfl) (bx_is_text T)
theorem sc_with_clauses : FnScope ["levels", "clauses", "indent", "old", "can_return", "can_break"] ["levels", "clauses"] (defScope (top 23)) := ⟨rfl, rfl, rfl, by decide +kernel, rfl, by decide +kernel, by decide +kernel⟩
theorem bx_with_clauses {P : Program} {w : World} {K : PySem.W.Frag} {mg : Str → Option Value} {base : Heap} {C : Addr} (T : Top P w K mg base C) (f : Addr) (cdv : Value) (A : Around) (outer : List Env) (s : Shared) (H : Hp) (E : XK) (hr : Room 0 (A.deeper (envOfC "with_clauses" (defScope (top 23)) s.heap.objs.size f cdv))) :
    BX C (CxD P w K mg base ["levels", "clauses", "indent", "old", "can_return", "can_break"] "with_clauses" (defScope (top 23)) f cdv A outer s H E) (defBody (top 23)) b_with_clauses := by
    have S := sc_with_clauses
    have hu := hr.units
    exact (bx_cons (sx_unp rfl (gx_cons 2 S.nd (gx_cons 3 S.nd (gx_cons 4 S.nd (gx_cons 5 S.nd gx_nil)))) (px_ix (px_var (i := 0)) (px_neg px_int)))
    (bx_one (sx_ret (px_tup (ax_star (px_sl (px_var (i := 0)) ox_none (ox_some (px_neg px_int))) (ax_cons (px_tup (ax_cons (px_var (i := 2)) (ax_cons (px_var (i := 1)) (ax_cons (px_var (i := 4)) (ax_cons (px_var (i := 5)) ax_nil))))) ax_nil))))))
theorem F_with_clauses {P : Program} {w : World} {K : PySem.W.Frag} {mg : Str → Option Value} {base : Heap} {C : Addr} (T : Top P w K mg base C) : FnC P w K mg base C 1 "with_clauses" m_with_clauses :=
  fnc (N := ["levels", "clauses", "indent", "old", "can_return", "can_break"]) (ps := ["levels", "clauses"]) (k := 0) T.d_with_clauses sc_with_clauses rfl rfl (fun _ _ _ _ _ _ us hl => match us, hl with | [_, _], _ => rfl) (bx_with_clauses T)
theorem sc_after_line : FnScope ["state", "word", "clauses", "can_return", "can_break", "is_last", "need"] ["state"] (defScope (top 24)) := ⟨rfl, rfl, rfl, by decide +kernel, rfl, by decide +kernel, by decide +kernel⟩
theorem bx_after_line {P : Program} {w : World} {K : PySem.W.Frag} {mg : Str → Option Value} {base : Heap} {C : Addr} (T : Top P w K mg base C) (f : Addr) (cdv : Value) (A : Around) (outer : List Env) (s : Shared) (H : Hp) (E : XK) (hr : Room 2 (A.deeper (envOfC "after_line" (defScope (top 24)) s.heap.objs.size f cdv))) :
    BX C (CxD P w K mg base ["state", "word", "clauses", "can_return", "can_break", "is_last", "need"] "after_line" (defScope (top 24)) f cdv A outer s H E) (defBody (top 24)) b_after_line := by
    have S := sc_after_line
    have hu := hr.units
    have F_State := F_State T
    have F_with_clauses := F_with_clauses T
    exact (bx_cons (sx_if (WX.tx (wx_or (tx_cmp op_dNotIn (px_fld .ph T.cs (px_var (i := 0))) (px_glob T.g_LINE_ENDS) (by rfl)) (wx_or1 (tx_cmp (op_dNe hu) (px_ix (px_fld .gl T.cs (px_var (i := 0))) px_int) (px_str (s := [115, 109, 97, 108, 108]) (by rfl) (by rfl)) (nomark _))))) (bx_one (sx_ret px_non)) bx_nil)
    (bx_cons (sx_unp rfl (gx_cons 1 S.nd (gx_cons 2 S.nd (gx_cons 3 S.nd (gx_cons 4 S.nd (gx_cons 5 S.nd gx_nil))))) (px_fld .gl T.cs (px_var (i := 0))))
    (bx_cons (sx_if (tx_val (px_var (i := 5))) (bx_one (sx_ret (px_make F_State hr (by decide) (ax_cons (px_tup ax_nil) (ax_cons (px_tup (ax_cons (px_str (s := [100, 111, 110, 101]) (by rfl) (by rfl)) ax_nil)) ax_nil))))) bx_nil)
    (bx_cons (sx_set (i := 6) S.nd (px_ifExp (tx_cmp (op_dEq hu) (px_fld .ph T.cs (px_var (i := 0))) (px_str (s := [115, 117, 105, 116, 101]) (by rfl) (by rfl)) (nomark _)) (px_tup (ax_cons (px_var (i := 3)) (ax_cons (px_var (i := 4)) ax_nil))) (px_tup ax_nil)))
    (bx_one (sx_ret (px_make F_State hr (by decide) (ax_cons (px_call F_with_clauses hr (by decide) (ax_cons (px_fld .lv T.cs (px_var (i := 0))) (ax_cons (px_var (i := 2)) ax_nil))) (ax_cons (px_tup (ax_cons (px_str (s := [115, 116, 97, 114, 116]) (by rfl) (by rfl)) (ax_cons px_int (ax_cons (px_var (i := 6)) ax_nil)))) ax_nil)))))))))
theorem F_after_line {P : Program} {w : World} {K : PySem.W.Frag} {mg : Str → Option Value} {base : Heap} {C : Addr} (T : Top P w K mg base C) : FnC P w K mg base C 3 "after_line" m_after_line :=
  fnc (N := ["state", "word", "clauses", "can_return", "can_break", "is_last", "need"]) (ps := ["state"]) (k := 2) T.d_after_line sc_after_line rfl rfl (fun _ _ _ _ _ _ us hl => match us, hl with | [_], _ => rfl) (bx_after_line T)
theorem sc_after_empty_line : FnScope ["state", "word", "width", "need", "level"] ["state"] (defScope (top 25)) := ⟨rfl, rfl, rfl, by decide +kernel, rfl, by decide +kernel, by decide +kernel⟩
theorem bx_after_empty_line {P : Program} {w : World} {K : PySem.W.Frag} {mg : Str → Option Value} {base : Heap} {C : Addr} (T : Top P w K mg base C) (f : Addr) (cdv : Value) (A : Around) (outer : List Env) (s : Shared) (H : Hp) (E : XK) (hr : Room 2 (A.deeper (envOfC "after_empty_line" (defScope (top 25)) s.heap.objs.size f cdv))) :
    BX C (CxD P w K mg base ["state", "word", "width", "need", "level"] "after_empty_line" (defScope (top 25)) f cdv A outer s H E) (defBody (top 25)) b_after_empty_line := by
    have S := sc_after_empty_line
    have hu := hr.units
    have F_State := F_State T
    exact (bx_cons (sx_unp rfl (gx_cons 1 S.nd (gx_cons 2 S.nd (gx_cons 3 S.nd gx_nil))) (px_fld .gl T.cs (px_var (i := 0))))
    (bx_cons (sx_if (tx_cmp (op_dEq hu) (px_fld .lv T.cs (px_var (i := 0))) (px_tup ax_nil) (nomark _)) (bx_one (sx_ret (px_make0 F_State hr (by decide)))) bx_nil)
    (bx_cons (sx_if (WX.tx (wx_or (tx_cmp (op_dNe hu) (px_var (i := 3)) (px_tup ax_nil) (nomark _)) (wx_or1 (tx_val (px_callB (cl_any rfl) (by rfl) T.any (by decide +kernel) (ax_cons (px_lc0 4 rfl S.nd (ix_tupD (px_fld .lv T.cs (px_var (i := 0)))) rfl (blkOk_by (N := ["state", "word", "width", "need", "level"]) (sc := defScope (top 25)) (by decide +kernel)) (fun _ _ _ _ _ => pg_name (i := 4) S.nd rfl (Or.inl rfl)) (fun _ _ _ _ _ => (px_cmp (op_dEq hu) (px_ix (px_var (i := 4)) px_int) (px_str (s := [116, 114, 121]) (by rfl) (by rfl)) (nomark _)))) ax_nil)))))) (bx_one (sx_ret px_non)) bx_nil)
    (bx_one (sx_ret (px_make F_State hr (by decide) (ax_cons (px_tup ax_nil) (ax_cons (px_tup (ax_cons (px_str (s := [100, 111, 110, 101]) (by rfl) (by rfl)) ax_nil)) ax_nil))))))))
theorem F_after_empty_line {P : Program} {w : World} {K : PySem.W.Frag} {mg : Str → Option Value} {base : Heap} {C : Addr} (T : Top P w K mg base C) : FnC P w K mg base C 3 "after_empty_line" m_after_empty_line :=
  fnc (N := ["state", "word", "width", "need", "level"]) (ps := ["state"]) (k := 2) T.d_after_empty_line sc_after_empty_line rfl rfl (fun _ _ _ _ _ _ us hl => match us, hl with | [_], _ => rfl) (bx_after_empty_line T)
theorem sc_line_begun : FnScope ["state", "word", "width", "need", "levels", "indent", "clauses", "can_return", "can_break", "phase"] ["state"] (defScope (top 26)) := ⟨rfl, rfl, rfl, by decide +kernel, rfl, by decide +kernel, by decide +kernel⟩
theorem bx_line_begun {P : Program} {w : World} {K : PySem.W.Frag} {mg : Str → Option Value} {base : Heap} {C : Addr} (T : Top P w K mg base C) (f : Addr) (cdv : Value) (A : Around) (outer : List Env) (s : Shared) (H : Hp) (E : XK) (hr : Room 2 (A.deeper (envOfC "line_begun" (defScope (top 26)) s.heap.objs.size f cdv))) :
    BX C (CxD P w K mg base ["state", "word", "width", "need", "levels", "indent", "clauses", "can_return", "can_break", "phase"] "line_begun" (defScope (top 26)) f cdv A outer s H E) (defBody (top 26)) b_line_begun := by
    have S := sc_line_begun
    have hu := hr.units
    have F_State := F_State T
    have F_with_clauses := F_with_clauses T
    exact (bx_cons (sx_unp rfl (gx_cons 1 S.nd (gx_cons 2 S.nd (gx_cons 3 S.nd gx_nil))) (px_fld .gl T.cs (px_var (i := 0))))
    (bx_cons (sx_if (tx_cmp (op_dEq hu) (px_fld .lv T.cs (px_var (i := 0))) (px_tup ax_nil) (nomark _)) (bx_one (sx_ret (px_ifExp (tx_cmp (op_dEq hu) (px_var (i := 2)) px_int (nomark _)) (px_make F_State hr (by decide) (ax_cons (px_tup (ax_cons (px_tup (ax_cons px_int (ax_cons (px_str (s := []) (by rfl) (by rfl)) (ax_cons px_bl (ax_cons px_bl ax_nil))))) ax_nil)) (ax_cons (px_tup (ax_cons (px_str (s := [108, 105, 110, 101]) (by rfl) (by rfl)) (ax_cons (px_str (s := []) (by rfl) (by rfl)) (ax_cons px_bl ax_nil)))) (ax_cons (px_tup ax_nil) (ax_cons (px_str (s := [115, 116, 97, 116, 101, 109, 101, 110, 116]) (by rfl) (by rfl)) ax_nil))))) px_non))) bx_nil)
    (bx_cons (sx_if (tx_cmp (op_dNe hu) (px_var (i := 3)) (px_tup ax_nil) (nomark _)) (bx_cons (sx_if (tx_cmp op_dLe (px_var (i := 2)) (px_ix (px_ix (px_fld .lv T.cs (px_var (i := 0))) (px_neg px_int)) px_int) (nomark _)) (bx_one (sx_ret px_non)) bx_nil)
    (bx_one (sx_ret (px_make F_State hr (by decide) (ax_cons (px_tup (ax_star (px_fld .lv T.cs (px_var (i := 0))) (ax_cons (px_tup (ax_cons (px_var (i := 2)) (ax_cons (px_str (s := []) (by rfl) (by rfl)) (ax_star (px_var (i := 3)) ax_nil)))) ax_nil))) (ax_cons (px_tup (ax_cons (px_str (s := [108, 105, 110, 101]) (by rfl) (by rfl)) (ax_cons (px_str (s := []) (by rfl) (by rfl)) (ax_cons px_bl ax_nil)))) (ax_cons (px_tup ax_nil) (ax_cons (px_str (s := [115, 116, 97, 116, 101, 109, 101, 110, 116]) (by rfl) (by rfl)) ax_nil)))))))) bx_nil)
    (bx_cons (sx_set (i := 4) S.nd (px_fld .lv T.cs (px_var (i := 0))))
    (bx_cons (sx_while 100 PassesOwn.never (WX.tx (wx_and (tx_cmp op_dGt (px_ix (px_ix (px_var (i := 4)) (px_neg px_int)) px_int) (px_var (i := 2)) (nomark _)) (wx_and1 (tx_cmp (op_dNe hu) (px_ix (px_ix (px_var (i := 4)) (px_neg px_int)) px_int) (px_str (s := [116, 114, 121]) (by rfl) (by rfl)) (nomark _))))) (bx_one (sx_set (i := 4) S.nd (px_sl (px_var (i := 4)) ox_none (ox_some (px_neg px_int))))))
    (bx_cons (sx_unp rfl (gx_cons 5 S.nd (gx_cons 6 S.nd (gx_cons 7 S.nd (gx_cons 8 S.nd gx_nil)))) (px_ix (px_var (i := 4)) (px_neg px_int)))
    (bx_cons (sx_if (tx_cmp (op_dNe hu) (px_var (i := 5)) (px_var (i := 2)) (nomark _)) (bx_one (sx_ret px_non)) bx_nil)
    (bx_cons (sx_set (i := 9) S.nd (px_ifExp (WX.tx (wx_or (tx_cmp (op_dEq hu) (px_var (i := 5)) px_int (nomark _)) (wx_or1 (tx_cmp (op_dEq hu) (px_var (i := 6)) (px_str (s := [116, 114, 121]) (by rfl) (by rfl)) (nomark _))))) (px_str (s := [99, 108, 97, 117, 115, 101]) (by rfl) (by rfl)) (px_str (s := [115, 116, 97, 116, 101, 109, 101, 110, 116]) (by rfl) (by rfl))))
    (bx_one (sx_ret (px_make F_State hr (by decide) (ax_cons (px_call F_with_clauses hr (by decide) (ax_cons (px_var (i := 4)) (ax_cons (px_str (s := []) (by rfl) (by rfl)) ax_nil))) (ax_cons (px_tup (ax_cons (px_str (s := [108, 105, 110, 101]) (by rfl) (by rfl)) (ax_cons (px_var (i := 6)) (ax_cons px_bl ax_nil)))) (ax_cons (px_tup ax_nil) (ax_cons (px_var (i := 9)) ax_nil)))))))))))))))
theorem F_line_begun {P : Program} {w : World} {K : PySem.W.Frag} {mg : Str → Option Value} {base : Heap} {C : Addr} (T : Top P w K mg base C) : FnC P w K mg base C 3 "line_begun" m_line_begun :=
  fnc (N := ["state", "word", "width", "need", "levels", "indent", "clauses", "can_return", "can_break", "phase"]) (ps := ["state"]) (k := 2) T.d_line_begun sc_line_begun rfl rfl (fun _ _ _ _ _ _ us hl => match us, hl with | [_], _ => rfl) (bx_line_begun T)
theorem sc_small_begun : FnScope ["state", "indent", "clauses", "can_return", "can_break"] ["state"] (defScope (top 27)) := ⟨rfl, rfl, rfl, by decide +kernel, rfl, by decide +kernel, by decide +kernel⟩
theorem bx_small_begun {P : Program} {w : World} {K : PySem.W.Frag} {mg : Str → Option Value} {base : Heap} {C : Addr} (T : Top P w K mg base C) (f : Addr) (cdv : Value) (A : Around) (outer : List Env) (s : Shared) (H : Hp) (E : XK) (hr : Room 2 (A.deeper (envOfC "small_begun" (defScope (top 27)) s.heap.objs.size f cdv))) :
    BX C (CxD P w K mg base ["state", "indent", "clauses", "can_return", "can_break"] "small_begun" (defScope (top 27)) f cdv A outer s H E) (defBody (top 27)) b_small_begun := by
    have S := sc_small_begun
    have hu := hr.units
    have F_State := F_State T
    exact (bx_cons (sx_unp rfl (gx_cons 1 S.nd (gx_cons 2 S.nd (gx_cons 3 S.nd (gx_cons 4 S.nd gx_nil)))) (px_ix (px_fld .lv T.cs (px_var (i := 0))) (px_neg px_int)))
    (bx_one (sx_ret (px_make F_State hr (by decide) (ax_cons (px_fld .lv T.cs (px_var (i := 0))) (ax_cons (px_tup (ax_cons (px_str (s := [115, 109, 97, 108, 108]) (by rfl) (by rfl)) (ax_cons (px_str (s := []) (by rfl) (by rfl)) (ax_cons (px_var (i := 3)) (ax_cons (px_var (i := 4)) (ax_cons (px_ix (px_fld .gl T.cs (px_var (i := 0))) px_int) ax_nil)))))) (ax_cons (px_tup ax_nil) (ax_cons (px_str (s := [98, 101, 103, 105, 110]) (by rfl) (by rfl)) ax_nil))))))))
theorem F_small_begun {P : Program} {w : World} {K : PySem.W.Frag} {mg : Str → Option Value} {base : Heap} {C : Addr} (T : Top P w K mg base C) : FnC P w K mg base C 3 "small_begun" m_small_begun :=
  fnc (N := ["state", "indent", "clauses", "can_return", "can_break"]) (ps := ["state"]) (k := 2) T.d_small_begun sc_small_begun rfl rfl (fun _ _ _ _ _ _ us hl => match us, hl with | [_], _ => rfl) (bx_small_begun T)
theorem sc_header_begun : FnScope ["state", "word", "indent", "clauses", "can_return", "can_break", "follow", "rights", "phases", "phase"] ["state", "word"] (defScope (top 28)) := ⟨rfl, rfl, rfl, by decide +kernel, rfl, by decide +kernel, by decide +kernel⟩
theorem bx_header_begun {P : Program} {w : World} {K : PySem.W.Frag} {mg : Str → Option Value} {base : Heap} {C : Addr} (T : Top P w K mg base C) (f : Addr) (cdv : Value) (A : Around) (outer : List Env) (s : Shared) (H : Hp) (E : XK) (hr : Room 2 (A.deeper (envOfC "header_begun" (defScope (top 28)) s.heap.objs.size f cdv))) :
    BX C (CxD P w K mg base ["state", "word", "indent", "clauses", "can_return", "can_break", "follow", "rights", "phases", "phase"] "header_begun" (defScope (top 28)) f cdv A outer s H E) (defBody (top 28)) b_header_begun := by
    have S := sc_header_begun
    have hu := hr.units
    have F_State := F_State T
    exact (bx_cons (sx_unp rfl (gx_cons 2 S.nd (gx_cons 3 S.nd (gx_cons 4 S.nd (gx_cons 5 S.nd gx_nil)))) (px_ix (px_fld .lv T.cs (px_var (i := 0))) (px_neg px_int)))
    (bx_cons (sx_set (i := 6) S.nd (px_get hu (px_dic (dx_cons (k := [105, 102]) (by rfl) (by rfl) (px_str (s := [105, 102]) (by rfl) (by rfl)) (dx_cons (k := [101, 108, 105, 102]) (by rfl) (by rfl) (px_str (s := [105, 102]) (by rfl) (by rfl)) (dx_cons (k := [116, 114, 121]) (by rfl) (by rfl) (px_str (s := [116, 114, 121]) (by rfl) (by rfl)) (dx_cons (k := [101, 120, 99, 101, 112, 116]) (by rfl) (by rfl) (px_str (s := [101, 120, 99, 101, 112, 116]) (by rfl) (by rfl)) dx_nil))))) (px_var (i := 1)) (px_str (s := []) (by rfl) (by rfl))))
    (bx_cons (sx_set (i := 7) S.nd (px_ifExp (tx_cmp (op_dEq hu) (px_var (i := 1)) (px_str (s := [100, 101, 102]) (by rfl) (by rfl)) (nomark _)) (px_tup (ax_cons px_bl (ax_cons px_bl ax_nil))) (px_tup (ax_cons (px_var (i := 4)) (ax_cons (px_or (px_var (i := 5)) (px_one (px_cmp op_dIn (px_var (i := 1)) (px_tup (ax_cons (px_str (s := [119, 104, 105, 108, 101]) (by rfl) (by rfl)) (ax_cons (px_str (s := [102, 111, 114]) (by rfl) (by rfl)) ax_nil))) (by rfl)))) ax_nil)))))
    (bx_cons (sx_set (i := 8) S.nd (px_dic (dx_cons (k := [101, 108, 115, 101]) (by rfl) (by rfl) (px_str (s := [99, 111, 108, 111, 110]) (by rfl) (by rfl)) (dx_cons (k := [116, 114, 121]) (by rfl) (by rfl) (px_str (s := [99, 111, 108, 111, 110]) (by rfl) (by rfl)) (dx_cons (k := [102, 105, 110, 97, 108, 108, 121]) (by rfl) (by rfl) (px_str (s := [99, 111, 108, 111, 110]) (by rfl) (by rfl)) (dx_cons (k := [100, 101, 102]) (by rfl) (by rfl) (px_str (s := [100, 101, 102, 110, 97, 109, 101]) (by rfl) (by rfl)) (dx_cons (k := [102, 111, 114]) (by rfl) (by rfl) (px_str (s := [102, 111, 114, 110, 97, 109, 101]) (by rfl) (by rfl)) dx_nil)))))))
    (bx_cons (sx_set (i := 9) S.nd (px_ifExp (tx_cmp (op_dEq hu) (px_var (i := 1)) (px_str (s := [101, 120, 99, 101, 112, 116]) (by rfl) (by rfl)) (nomark _)) (px_str (s := [101, 120, 99, 101, 112, 116, 110, 97, 109, 101]) (by rfl) (by rfl)) (px_get hu (px_var (i := 8)) (px_var (i := 1)) (px_str (s := [111, 112, 101, 114, 97, 110, 100]) (by rfl) (by rfl)))))
    (bx_one (sx_ret (px_make F_State hr (by decide) (ax_cons (px_fld .lv T.cs (px_var (i := 0))) (ax_cons (px_tup (ax_cons (px_str (s := [104, 101, 97, 100]) (by rfl) (by rfl)) (ax_cons (px_var (i := 6)) (ax_star (px_var (i := 7)) ax_nil)))) (ax_cons (px_tup ax_nil) (ax_cons (px_var (i := 9)) ax_nil))))))))))))
theorem F_header_begun {P : Program} {w : World} {K : PySem.W.Frag} {mg : Str → Option Value} {base : Heap} {C : Addr} (T : Top P w K mg base C) : FnC P w K mg base C 3 "header_begun" m_header_begun :=
  fnc (N := ["state", "word", "indent", "clauses", "can_return", "can_break", "follow", "rights", "phases", "phase"]) (ps := ["state", "word"]) (k := 2) T.d_header_begun sc_header_begun rfl rfl (fun _ _ _ _ _ _ us hl => match us, hl with | [_, _], _ => rfl) (bx_header_begun T)
theorem sc_State_in_phase : FnScope ["self", "phase", "token"] ["self", "phase", "token"] (defScope (inClass (top 22) 2)) := ⟨rfl, rfl, rfl, by decide +kernel, rfl, by decide +kernel, by decide +kernel⟩
theorem bx_State_in_phase {P : Program} {w : World} {K : PySem.W.Frag} {mg : Str → Option Value} {base : Heap} {C : Addr} (T : Top P w K mg base C) (f : Addr) (cdv : Value) (A : Around) (outer : List Env) (s : Shared) (H : Hp) (E : XK) (hr : Room 2 (A.deeper (envOfC "State.in_phase" (defScope (inClass (top 22) 2)) s.heap.objs.size f cdv))) :
    BX C (CxD P w K mg base ["self", "phase", "token"] "State.in_phase" (defScope (inClass (top 22) 2)) f cdv A outer s H E) (defBody (inClass (top 22) 2)) b_State_in_phase := by
    have S := sc_State_in_phase
    have hu := hr.units
    have F_State := F_State T
    exact (bx_one (sx_ret (px_make F_State hr (by decide) (ax_cons (px_fld .lv T.cs (px_var (i := 0))) (ax_cons (px_fld .gl T.cs (px_var (i := 0))) (ax_cons (px_fld .fr T.cs (px_var (i := 0))) (ax_cons (px_var (i := 1)) (ax_cons (px_var (i := 2)) ax_nil))))))))
theorem F_State_in_phase {P : Program} {w : World} {K : PySem.W.Frag} {mg : Str → Option Value} {base : Heap} {C : Addr} (T : Top P w K mg base C) : MtC P w K mg base C 3 "in_phase" m_State_in_phase := by
  obtain ⟨dv, d, hd⟩ := T.e_in_phase
  exact mtp (N := ["self", "phase", "token"]) (ps := ["self", "phase", "token"]) (k := 2) d hd sc_State_in_phase rfl rfl (fun T kV doc pm an cdv ct us its h1 h2 => match us, h1, its, h2 with | [_, _], _, [_], _ => ⟨_, rfl, rfl⟩) (fun T kV doc pm an cdv ct us its h1 h2 => match us, h1, its, h2 with | [_, _, _], _, [_], _ => ⟨_, rfl, rfl⟩) (bx_State_in_phase T)
structure Itw_after_word (P : Program) (w : World) (K : PySem.W.Frag) (mg : Str → Option Value) (base : Heap) (C : Addr) (k : Nat) (g : Gtw_after_word) : Prop where
  after_word : FnC P w K mg base C k "after_word" g.after_word
theorem sc_after_word : FnScope ["state", "word", "phase", "behind"] ["state", "word"] (defScope (top 29)) := ⟨rfl, rfl, rfl, by decide +kernel, rfl, by decide +kernel, by decide +kernel⟩
theorem bx_after_word {P : Program} {w : World} {K : PySem.W.Frag} {mg : Str → Option Value} {base : Heap} {C : Addr} (T : Top P w K mg base C) (j : Nat) (hj : 4 ≤ j) (g : Gtw_after_word) (I : Itw_after_word P w K mg base C j g) (f : Addr) (cdv : Value) (A : Around) (outer : List Env) (s : Shared) (H : Hp) (E : XK) (hr : Room j (A.deeper (envOfC "after_word" (defScope (top 29)) s.heap.objs.size f cdv))) :
    BX C (CxD P w K mg base ["state", "word", "phase", "behind"] "after_word" (defScope (top 29)) f cdv A outer s H E) (defBody (top 29)) (b_after_word g) := by
    have S := sc_after_word
    have hu := hr.units
    have F_State_in_phase := F_State_in_phase T
    have F_after_word := I.after_word
    have F_header_begun := F_header_begun T
    have F_small_begun := F_small_begun T
    exact (bx_cons (sx_set (i := 2) S.nd (px_fld .ph T.cs (px_var (i := 0))))
    (bx_cons (sx_if (tx_cmp (op_dEq hu) (px_var (i := 2)) (px_str (s := [99, 108, 97, 117, 115, 101]) (by rfl) (by rfl)) (nomark _)) (bx_one (sx_ret (px_ifExp (tx_cmp op_dIn (px_var (i := 1)) (px_kix T.g_CLAUSES (px_ix (px_fld .gl T.cs (px_var (i := 0))) px_int)) (by rfl)) (px_call F_header_begun hr (by omega) (ax_cons (px_var (i := 0)) (ax_cons (px_var (i := 1)) ax_nil))) px_non))) bx_nil)
    (bx_cons (sx_if (tx_cmp (op_dEq hu) (px_var (i := 2)) (px_str (s := [115, 116, 97, 116, 101, 109, 101, 110, 116]) (by rfl) (by rfl)) (nomark _)) (bx_cons (sx_if (WX.tx (wx_or (tx_cmp op_dIn (px_var (i := 1)) (px_glob T.g_HEADERS) (by rfl)) (wx_or1 (tx_cmp op_dIn (px_var (i := 1)) (px_kix T.g_CLAUSES (px_ix (px_fld .gl T.cs (px_var (i := 0))) px_int)) (by rfl))))) (bx_one (sx_ret (px_call F_header_begun hr (by omega) (ax_cons (px_var (i := 0)) (ax_cons (px_var (i := 1)) ax_nil))))) bx_nil)
    (bx_one (sx_ret (px_call F_after_word hr (by omega) (ax_cons (px_call F_small_begun hr (by omega) (ax_cons (px_var (i := 0)) ax_nil)) (ax_cons (px_var (i := 1)) ax_nil)))))) bx_nil)
    (bx_cons (sx_if (tx_cmp op_dIn (px_var (i := 2)) (px_glob T.g_DONE) (by rfl)) (bx_one (sx_ret (px_ifExp (tx_cmp op_dIn (px_var (i := 1)) (px_glob T.g_BINARY_WORDS) (by rfl)) (px_meth F_State_in_phase T.cs hr (by omega) (px_var (i := 0)) (ax_cons (px_str (s := [111, 112, 101, 114, 97, 110, 100]) (by rfl) (by rfl)) ax_nil)) px_non))) bx_nil)
    (bx_cons (sx_if (tx_cmp (op_dEq hu) (px_var (i := 2)) (px_str (s := [102, 111, 114, 105, 110]) (by rfl) (by rfl)) (nomark _)) (bx_one (sx_ret (px_ifExp (tx_cmp (op_dEq hu) (px_var (i := 1)) (px_str (s := [105, 110]) (by rfl) (by rfl)) (nomark _)) (px_meth F_State_in_phase T.cs hr (by omega) (px_var (i := 0)) (ax_cons (px_str (s := [111, 112, 101, 114, 97, 110, 100]) (by rfl) (by rfl)) ax_nil)) px_non))) bx_nil)
    (bx_cons (sx_if (WX.tx (wx_and (tx_cmp op_dIn (px_var (i := 2)) (px_glob T.g_STARTS) (by rfl)) (wx_and1 (tx_cmp op_dIn (px_var (i := 1)) (px_tup (ax_cons (px_str (s := [112, 97, 115, 115]) (by rfl) (by rfl)) (ax_cons (px_str (s := [98, 114, 101, 97, 107]) (by rfl) (by rfl)) (ax_cons (px_str (s := [114, 101, 116, 117, 114, 110]) (by rfl) (by rfl)) ax_nil)))) (by rfl))))) (bx_cons (sx_if (tx_cmp (op_dEq hu) (px_var (i := 1)) (px_str (s := [114, 101, 116, 117, 114, 110]) (by rfl) (by rfl)) (nomark _)) (bx_one (sx_ret (px_ifExp (tx_val (px_ix (px_fld .gl T.cs (px_var (i := 0))) px_int)) (px_meth F_State_in_phase T.cs hr (by omega) (px_var (i := 0)) (ax_cons (px_str (s := [109, 97, 121, 98, 101]) (by rfl) (by rfl)) ax_nil)) px_non))) bx_nil)
    (bx_one (sx_ret (px_ifExp (WX.tx (wx_or (tx_cmp (op_dEq hu) (px_var (i := 1)) (px_str (s := [112, 97, 115, 115]) (by rfl) (by rfl)) (nomark _)) (wx_or1 (tx_val (px_ix (px_fld .gl T.cs (px_var (i := 0))) px_int))))) (px_meth F_State_in_phase T.cs hr (by omega) (px_var (i := 0)) (ax_cons (px_str (s := [101, 110, 100]) (by rfl) (by rfl)) ax_nil)) px_non)))) bx_nil)
    (bx_cons (sx_if (WX.tx (wx_and (tx_cmp op_dIn (px_var (i := 2)) (px_glob T.g_OPERANDS) (by rfl)) (wx_and1 (tx_cmp (op_dEq hu) (px_var (i := 1)) (px_str (s := [110, 111, 116]) (by rfl) (by rfl)) (nomark _))))) (bx_one (sx_ret (px_meth F_State_in_phase T.cs hr (by omega) (px_var (i := 0)) (ax_cons (px_str (s := [111, 112, 101, 114, 97, 110, 100]) (by rfl) (by rfl)) ax_nil)))) bx_nil)
    (bx_cons (sx_if (tx_cmp op_dIn (px_var (i := 1)) (px_glob T.g_KEYWORDS) (by rfl)) (bx_one (sx_ret px_non)) bx_nil)
    (bx_cons (sx_if (tx_cmp op_dIn (px_var (i := 2)) (px_glob T.g_OPERANDS) (by rfl)) (bx_one (sx_ret (px_meth F_State_in_phase T.cs hr (by omega) (px_var (i := 0)) (ax_cons (px_ifExp (tx_cmp op_dIn (px_var (i := 2)) (px_glob T.g_STARTS) (by rfl)) (px_str (s := [116, 97, 114, 103, 101, 116]) (by rfl) (by rfl)) (px_ifExp (tx_cmp (op_dEq hu) (px_var (i := 2)) (px_str (s := [97, 114, 103]) (by rfl) (by rfl)) (nomark _)) (px_str (s := [110, 97, 109, 101, 100]) (by rfl) (by rfl)) (px_str (s := [97, 102, 116, 101, 114]) (by rfl) (by rfl)))) ax_nil)))) bx_nil)
    (bx_cons (sx_set (i := 3) S.nd (px_dic (dx_cons (k := [110, 97, 109, 101]) (by rfl) (by rfl) (px_str (s := [97, 102, 116, 101, 114]) (by rfl) (by rfl)) (dx_cons (k := [99, 104, 97, 105, 110, 110, 97, 109, 101]) (by rfl) (by rfl) (px_str (s := [116, 97, 114, 103, 101, 116]) (by rfl) (by rfl)) (dx_cons (k := [100, 101, 102, 110, 97, 109, 101]) (by rfl) (by rfl) (px_str (s := [100, 101, 102, 111, 112, 101, 110]) (by rfl) (by rfl)) (dx_cons (k := [102, 111, 114, 110, 97, 109, 101]) (by rfl) (by rfl) (px_str (s := [102, 111, 114, 105, 110]) (by rfl) (by rfl)) dx_nil))))))
    (bx_one (sx_ret (px_meth F_State_in_phase T.cs hr (by omega) (px_var (i := 0)) (ax_cons (px_dix hu (px_dicS hu (px_var (i := 3)) (dx_cons (k := [101, 120, 99, 101, 112, 116, 110, 97, 109, 101]) (by rfl) (by rfl) (px_str (s := [99, 111, 108, 111, 110]) (by rfl) (by rfl)) (dx_cons (k := [112, 97, 114, 97, 109]) (by rfl) (by rfl) (px_str (s := [112, 97, 114, 97, 109, 100, 111, 110, 101]) (by rfl) (by rfl)) dx_nil))) (px_var (i := 2))) ax_nil))))))))))))))
theorem I_tw_after_word {P : Program} {w : World} {K : PySem.W.Frag} {mg : Str → Option Value} {base : Heap} {C : Addr} (T : Top P w K mg base C) : ∀ n : Nat, Itw_after_word P w K mg base C (4 + n) (tw_after_word n)
  | 0 => ⟨fnc0 T.d_after_word⟩
  | n + 1 => ⟨fnc (N := ["state", "word", "phase", "behind"]) (ps := ["state", "word"]) (k := 4 + n) T.d_after_word sc_after_word rfl rfl (fun _ _ _ _ _ _ us hl => match us, hl with | [_, _], _ => rfl) (bx_after_word T _ (by omega) _ (I_tw_after_word T n))⟩
theorem F_after_word {P : Program} {w : World} {K : PySem.W.Frag} {mg : Str → Option Value} {base : Heap} {C : Addr} (T : Top P w K mg base C) (n : Nat) : FnC P w K mg base C (4 + n) "after_word" (tw_after_word n).after_word := (I_tw_after_word T n).after_word
theorem sc_may_assign : FnScope ["state", "phase"] ["state", "phase"] (defScope (top 30)) := ⟨rfl, rfl, rfl, by decide +kernel, rfl, by decide +kernel, by decide +kernel⟩
theorem bx_may_assign {P : Program} {w : World} {K : PySem.W.Frag} {mg : Str → Option Value} {base : Heap} {C : Addr} (T : Top P w K mg base C) (f : Addr) (cdv : Value) (A : Around) (outer : List Env) (s : Shared) (H : Hp) (E : XK) (hr : Room 0 (A.deeper (envOfC "may_assign" (defScope (top 30)) s.heap.objs.size f cdv))) :
    BX C (CxD P w K mg base ["state", "phase"] "may_assign" (defScope (top 30)) f cdv A outer s H E) (defBody (top 30)) b_may_assign := by
    have S := sc_may_assign
    have hu := hr.units
    exact (bx_cons (sx_if (tx_cmp (op_dEq hu) (px_var (i := 1)) (px_str (s := [110, 97, 109, 101, 100]) (by rfl) (by rfl)) (nomark _)) (bx_one (sx_ret px_bl)) bx_nil)
    (bx_one (sx_ret (px_and (px_cmp (op_dEq hu) (px_var (i := 1)) (px_str (s := [116, 97, 114, 103, 101, 116]) (by rfl) (by rfl)) (nomark _)) (px_and (px_cmp (op_dEq hu) (px_ix (px_fld .gl T.cs (px_var (i := 0))) px_int) (px_str (s := [115, 109, 97, 108, 108]) (by rfl) (by rfl)) (nomark _)) (px_one (px_cmp (op_dEq hu) (px_fld .fr T.cs (px_var (i := 0))) (px_tup ax_nil) (nomark _))))))))
theorem F_may_assign {P : Program} {w : World} {K : PySem.W.Frag} {mg : Str → Option Value} {base : Heap} {C : Addr} (T : Top P w K mg base C) : FnC P w K mg base C 1 "may_assign" m_may_assign :=
  fnc (N := ["state", "phase"]) (ps := ["state", "phase"]) (k := 0) T.d_may_assign sc_may_assign rfl rfl (fun _ _ _ _ _ _ us hl => match us, hl with | [_, _], _ => rfl) (bx_may_assign T)
theorem sc_State_with_token : FnScope ["self", "token"] ["self", "token"] (defScope (inClass (top 22) 3)) := ⟨rfl, rfl, rfl, by decide +kernel, rfl, by decide +kernel, by decide +kernel⟩
theorem bx_State_with_token {P : Program} {w : World} {K : PySem.W.Frag} {mg : Str → Option Value} {base : Heap} {C : Addr} (T : Top P w K mg base C) (f : Addr) (cdv : Value) (A : Around) (outer : List Env) (s : Shared) (H : Hp) (E : XK) (hr : Room 2 (A.deeper (envOfC "State.with_token" (defScope (inClass (top 22) 3)) s.heap.objs.size f cdv))) :
    BX C (CxD P w K mg base ["self", "token"] "State.with_token" (defScope (inClass (top 22) 3)) f cdv A outer s H E) (defBody (inClass (top 22) 3)) b_State_with_token := by
    have S := sc_State_with_token
    have hu := hr.units
    have F_State := F_State T
    exact (bx_one (sx_ret (px_make F_State hr (by decide) (ax_cons (px_fld .lv T.cs (px_var (i := 0))) (ax_cons (px_fld .gl T.cs (px_var (i := 0))) (ax_cons (px_fld .fr T.cs (px_var (i := 0))) (ax_cons (px_fld .ph T.cs (px_var (i := 0))) (ax_cons (px_var (i := 1)) ax_nil))))))))
theorem F_State_with_token {P : Program} {w : World} {K : PySem.W.Frag} {mg : Str → Option Value} {base : Heap} {C : Addr} (T : Top P w K mg base C) : MtC P w K mg base C 3 "with_token" m_State_with_token :=
  mtv (N := ["self", "token"]) (ps1 := "self") (pv := "token") (k := 2) T.e_with_token sc_State_with_token rfl (fun kV doc pm an cdv ct us rest hl => match us, hl, rest with | [_], _, [] => rfl | [_], _, _ :: _ => rfl) (bx_State_with_token T)
theorem sc_after_short : FnScope ["state", "sign", "word", "quote", "behind", "is_taken"] ["state", "sign"] (defScope (top 31)) := ⟨rfl, rfl, rfl, by decide +kernel, rfl, by decide +kernel, by decide +kernel⟩
theorem bx_after_short {P : Program} {w : World} {K : PySem.W.Frag} {mg : Str → Option Value} {base : Heap} {C : Addr} (T : Top P w K mg base C) (f : Addr) (cdv : Value) (A : Around) (outer : List Env) (s : Shared) (H : Hp) (E : XK) (hr : Room 3 (A.deeper (envOfC "after_short" (defScope (top 31)) s.heap.objs.size f cdv))) :
    BX C (CxD P w K mg base ["state", "sign", "word", "quote", "behind", "is_taken"] "after_short" (defScope (top 31)) f cdv A outer s H E) (defBody (top 31)) b_after_short := by
    have S := sc_after_short
    have hu := hr.units
    have F_State_in_phase := F_State_in_phase T
    have F_State_with_token := F_State_with_token T
    exact (bx_cons (sx_unp rfl (gx_cons 2 S.nd (gx_cons 3 S.nd (gx_cons 4 S.nd (gx_cons 5 S.nd gx_nil)))) (px_fld .tk T.cs (px_var (i := 0))))
    (bx_cons (sx_if (tx_cmp (op_dEq hu) (px_var (i := 1)) (px_str (s := [10]) (by rfl) (by rfl)) (nomark _)) (bx_one (sx_ret px_non)) bx_nil)
    (bx_cons (sx_if (WX.tx (wx_and (tx_not (tx_val (px_var (i := 5)))) (wx_and1 (tx_cmp (op_dEq hu) (px_var (i := 1)) (px_var (i := 3)) (nomark _))))) (bx_one (sx_ret (px_meth F_State_in_phase T.cs hr (by decide) (px_var (i := 0)) (ax_cons (px_var (i := 4)) ax_nil)))) bx_nil)
    (bx_one (sx_ret (px_meth F_State_with_token T.cs hr (by decide) (px_var (i := 0)) (ax_cons (px_str (s := [115, 104, 111, 114, 116]) (by rfl) (by rfl)) (ax_cons (px_var (i := 3)) (ax_cons (px_var (i := 4)) (ax_cons (px_and (px_not (px_var (i := 5))) (px_one (px_cmp (op_dEq hu) (px_var (i := 1)) (px_str (s := [92]) (by rfl) (by rfl)) (nomark _)))) ax_nil))))))))))
theorem F_after_short {P : Program} {w : World} {K : PySem.W.Frag} {mg : Str → Option Value} {base : Heap} {C : Addr} (T : Top P w K mg base C) : FnC P w K mg base C 4 "after_short" m_after_short :=
  fnc (N := ["state", "sign", "word", "quote", "behind", "is_taken"]) (ps := ["state", "sign"]) (k := 3) T.d_after_short sc_after_short rfl rfl (fun _ _ _ _ _ _ us hl => match us, hl with | [_, _], _ => rfl) (bx_after_short T)
theorem sc_after_long : FnScope ["state", "sign", "word", "quote", "behind", "many", "is_taken"] ["state", "sign"] (defScope (top 32)) := ⟨rfl, rfl, rfl, by decide +kernel, rfl, by decide +kernel, by decide +kernel⟩
theorem bx_after_long {P : Program} {w : World} {K : PySem.W.Frag} {mg : Str → Option Value} {base : Heap} {C : Addr} (T : Top P w K mg base C) (f : Addr) (cdv : Value) (A : Around) (outer : List Env) (s : Shared) (H : Hp) (E : XK) (hr : Room 3 (A.deeper (envOfC "after_long" (defScope (top 32)) s.heap.objs.size f cdv))) :
    BX C (CxD P w K mg base ["state", "sign", "word", "quote", "behind", "many", "is_taken"] "after_long" (defScope (top 32)) f cdv A outer s H E) (defBody (top 32)) b_after_long := by
    have S := sc_after_long
    have hu := hr.units
    have F_State_in_phase := F_State_in_phase T
    have F_State_with_token := F_State_with_token T
    exact (bx_cons (sx_unp rfl (gx_cons 2 S.nd (gx_cons 3 S.nd (gx_cons 4 S.nd (gx_cons 5 S.nd (gx_cons 6 S.nd gx_nil))))) (px_fld .tk T.cs (px_var (i := 0))))
    (bx_cons (sx_if (WX.tx (wx_or (tx_val (px_var (i := 6))) (wx_or1 (tx_cmp op_dNotIn (px_var (i := 1)) (px_tup (ax_cons (px_var (i := 3)) (ax_cons (px_str (s := [92]) (by rfl) (by rfl)) ax_nil))) (by rfl))))) (bx_one (sx_ret (px_meth F_State_with_token T.cs hr (by decide) (px_var (i := 0)) (ax_cons (px_str (s := [108, 111, 110, 103]) (by rfl) (by rfl)) (ax_cons (px_var (i := 3)) (ax_cons (px_var (i := 4)) (ax_cons px_int (ax_cons px_bl ax_nil)))))))) bx_nil)
    (bx_cons (sx_if (tx_cmp (op_dEq hu) (px_var (i := 1)) (px_str (s := [92]) (by rfl) (by rfl)) (nomark _)) (bx_one (sx_ret (px_meth F_State_with_token T.cs hr (by decide) (px_var (i := 0)) (ax_cons (px_str (s := [108, 111, 110, 103]) (by rfl) (by rfl)) (ax_cons (px_var (i := 3)) (ax_cons (px_var (i := 4)) (ax_cons px_int (ax_cons px_bl ax_nil)))))))) bx_nil)
    (bx_one (sx_ret (px_ifExp (tx_cmp (op_dEq hu) (px_var (i := 5)) px_int (nomark _)) (px_meth F_State_in_phase T.cs hr (by decide) (px_var (i := 0)) (ax_cons (px_var (i := 4)) ax_nil)) (px_meth F_State_with_token T.cs hr (by decide) (px_var (i := 0)) (ax_cons (px_str (s := [108, 111, 110, 103]) (by rfl) (by rfl)) (ax_cons (px_var (i := 3)) (ax_cons (px_var (i := 4)) (ax_cons (px_op op_dAdd (px_var (i := 5)) px_int) (ax_cons px_bl ax_nil))))))))))))
theorem F_after_long {P : Program} {w : World} {K : PySem.W.Frag} {mg : Str → Option Value} {base : Heap} {C : Addr} (T : Top P w K mg base C) : FnC P w K mg base C 4 "after_long" m_after_long :=
  fnc (N := ["state", "sign", "word", "quote", "behind", "many", "is_taken"]) (ps := ["state", "sign"]) (k := 3) T.d_after_long sc_after_long rfl rfl (fun _ _ _ _ _ _ us hl => match us, hl with | [_, _], _ => rfl) (bx_after_long T)
theorem sc_State_opened : FnScope ["self", "kind", "behind", "phase"] ["self", "kind", "behind", "phase"] (defScope (inClass (top 22) 4)) := ⟨rfl, rfl, rfl, by decide +kernel, rfl, by decide +kernel, by decide +kernel⟩
theorem bx_State_opened {P : Program} {w : World} {K : PySem.W.Frag} {mg : Str → Option Value} {base : Heap} {C : Addr} (T : Top P w K mg base C) (f : Addr) (cdv : Value) (A : Around) (outer : List Env) (s : Shared) (H : Hp) (E : XK) (hr : Room 2 (A.deeper (envOfC "State.opened" (defScope (inClass (top 22) 4)) s.heap.objs.size f cdv))) :
    BX C (CxD P w K mg base ["self", "kind", "behind", "phase"] "State.opened" (defScope (inClass (top 22) 4)) f cdv A outer s H E) (defBody (inClass (top 22) 4)) b_State_opened := by
    have S := sc_State_opened
    have hu := hr.units
    have F_State := F_State T
    exact (bx_one (sx_ret (px_make F_State hr (by decide) (ax_cons (px_fld .lv T.cs (px_var (i := 0))) (ax_cons (px_fld .gl T.cs (px_var (i := 0))) (ax_cons (px_tup (ax_star (px_fld .fr T.cs (px_var (i := 0))) (ax_cons (px_tup (ax_cons (px_var (i := 1)) (ax_cons (px_var (i := 2)) ax_nil))) ax_nil))) (ax_cons (px_var (i := 3)) ax_nil)))))))
theorem F_State_opened {P : Program} {w : World} {K : PySem.W.Frag} {mg : Str → Option Value} {base : Heap} {C : Addr} (T : Top P w K mg base C) : MtC P w K mg base C 3 "opened" m_State_opened :=
  mtc (N := ["self", "kind", "behind", "phase"]) (ps := ["self", "kind", "behind", "phase"]) (k := 2) T.e_opened sc_State_opened rfl rfl (fun _ _ _ _ _ _ us hl => match us, hl with | [_, _, _, _], _ => rfl) (bx_State_opened T)
theorem sc_after_template : FnScope ["state", "sign", "word", "behind", "is_taken"] ["state", "sign"] (defScope (top 33)) := ⟨rfl, rfl, rfl, by decide +kernel, rfl, by decide +kernel, by decide +kernel⟩
theorem bx_after_template {P : Program} {w : World} {K : PySem.W.Frag} {mg : Str → Option Value} {base : Heap} {C : Addr} (T : Top P w K mg base C) (f : Addr) (cdv : Value) (A : Around) (outer : List Env) (s : Shared) (H : Hp) (E : XK) (hr : Room 3 (A.deeper (envOfC "after_template" (defScope (top 33)) s.heap.objs.size f cdv))) :
    BX C (CxD P w K mg base ["state", "sign", "word", "behind", "is_taken"] "after_template" (defScope (top 33)) f cdv A outer s H E) (defBody (top 33)) b_after_template := by
    have S := sc_after_template
    have hu := hr.units
    have F_State_in_phase := F_State_in_phase T
    have F_State_opened := F_State_opened T
    have F_State_with_token := F_State_with_token T
    exact (bx_cons (sx_unp rfl (gx_cons 2 S.nd (gx_cons 3 S.nd (gx_cons 4 S.nd gx_nil))) (px_fld .tk T.cs (px_var (i := 0))))
    (bx_cons (sx_if (WX.tx (wx_or (tx_cmp (op_dEq hu) (px_var (i := 1)) (px_str (s := [10]) (by rfl) (by rfl)) (nomark _)) (wx_or1 (WX.tx (wx_and (tx_cmp (op_dEq hu) (px_var (i := 1)) (px_str (s := [125]) (by rfl) (by rfl)) (nomark _)) (wx_and1 (tx_not (tx_val (px_var (i := 4)))))))))) (bx_one (sx_ret px_non)) bx_nil)
    (bx_cons (sx_if (tx_val (px_var (i := 4))) (bx_one (sx_ret (px_meth F_State_with_token T.cs hr (by decide) (px_var (i := 0)) (ax_cons (px_str (s := [116, 101, 109, 112, 108, 97, 116, 101]) (by rfl) (by rfl)) (ax_cons (px_var (i := 3)) (ax_cons px_bl ax_nil)))))) bx_nil)
    (bx_cons (sx_if (tx_cmp (op_dEq hu) (px_var (i := 1)) (px_str (s := [123]) (by rfl) (by rfl)) (nomark _)) (bx_one (sx_ret (px_meth F_State_opened T.cs hr (by decide) (px_var (i := 0)) (ax_cons (px_str (s := [102]) (by rfl) (by rfl)) (ax_cons (px_var (i := 3)) (ax_cons (px_str (s := [111, 112, 101, 114, 97, 110, 100]) (by rfl) (by rfl)) ax_nil)))))) bx_nil)
    (bx_one (sx_ret (px_ifExp (tx_cmp (op_dEq hu) (px_var (i := 1)) (px_str (s := [34]) (by rfl) (by rfl)) (nomark _)) (px_meth F_State_in_phase T.cs hr (by decide) (px_var (i := 0)) (ax_cons (px_var (i := 3)) ax_nil)) (px_meth F_State_with_token T.cs hr (by decide) (px_var (i := 0)) (ax_cons (px_str (s := [116, 101, 109, 112, 108, 97, 116, 101]) (by rfl) (by rfl)) (ax_cons (px_var (i := 3)) (ax_cons (px_cmp (op_dEq hu) (px_var (i := 1)) (px_str (s := [92]) (by rfl) (by rfl)) (nomark _)) ax_nil)))))))))))
theorem F_after_template {P : Program} {w : World} {K : PySem.W.Frag} {mg : Str → Option Value} {base : Heap} {C : Addr} (T : Top P w K mg base C) : FnC P w K mg base C 4 "after_template" m_after_template :=
  fnc (N := ["state", "sign", "word", "behind", "is_taken"]) (ps := ["state", "sign"]) (k := 3) T.d_after_template sc_after_template rfl rfl (fun _ _ _ _ _ _ us hl => match us, hl with | [_, _], _ => rfl) (bx_after_template T)
theorem sc_State_closed : FnScope ["self", "kind", "behind", "token"] ["self"] (defScope (inClass (top 22) 6)) := ⟨rfl, rfl, rfl, by decide +kernel, rfl, by decide +kernel, by decide +kernel⟩
theorem bx_State_closed {P : Program} {w : World} {K : PySem.W.Frag} {mg : Str → Option Value} {base : Heap} {C : Addr} (T : Top P w K mg base C) (f : Addr) (cdv : Value) (A : Around) (outer : List Env) (s : Shared) (H : Hp) (E : XK) (hr : Room 2 (A.deeper (envOfC "State.closed" (defScope (inClass (top 22) 6)) s.heap.objs.size f cdv))) :
    BX C (CxD P w K mg base ["self", "kind", "behind", "token"] "State.closed" (defScope (inClass (top 22) 6)) f cdv A outer s H E) (defBody (inClass (top 22) 6)) b_State_closed := by
    have S := sc_State_closed
    have hu := hr.units
    have F_State := F_State T
    exact (bx_cons (sx_unp rfl (gx_cons 1 S.nd (gx_cons 2 S.nd gx_nil)) (px_ix (px_fld .fr T.cs (px_var (i := 0))) (px_neg px_int)))
    (bx_cons (sx_set (i := 3) S.nd (px_ifExp (tx_cmp (op_dEq hu) (px_var (i := 1)) (px_str (s := [102]) (by rfl) (by rfl)) (nomark _)) (px_tup (ax_cons (px_str (s := [116, 101, 109, 112, 108, 97, 116, 101]) (by rfl) (by rfl)) (ax_cons (px_var (i := 2)) (ax_cons px_bl ax_nil)))) (px_tup ax_nil)))
    (bx_one (sx_ret (px_make F_State hr (by decide) (ax_cons (px_fld .lv T.cs (px_var (i := 0))) (ax_cons (px_fld .gl T.cs (px_var (i := 0))) (ax_cons (px_sl (px_fld .fr T.cs (px_var (i := 0))) ox_none (ox_some (px_neg px_int))) (ax_cons (px_var (i := 2)) (ax_cons (px_var (i := 3)) ax_nil))))))))))
theorem F_State_closed {P : Program} {w : World} {K : PySem.W.Frag} {mg : Str → Option Value} {base : Heap} {C : Addr} (T : Top P w K mg base C) : MtC P w K mg base C 3 "closed" m_State_closed :=
  mtc (N := ["self", "kind", "behind", "token"]) (ps := ["self"]) (k := 2) T.e_closed sc_State_closed rfl rfl (fun _ _ _ _ _ _ us hl => match us, hl with | [_], _ => rfl) (bx_State_closed T)
theorem sc_State_is_prefix : FnScope ["self", "word", "allowed", "other"] ["self", "word"] (defScope (inClass (top 22) 8)) := ⟨rfl, rfl, rfl, by decide +kernel, rfl, by decide +kernel, by decide +kernel⟩
theorem bx_State_is_prefix {P : Program} {w : World} {K : PySem.W.Frag} {mg : Str → Option Value} {base : Heap} {C : Addr} (T : Top P w K mg base C) (f : Addr) (cdv : Value) (A : Around) (outer : List Env) (s : Shared) (H : Hp) (E : XK) (hr : Room 0 (A.deeper (envOfC "State.is_prefix" (defScope (inClass (top 22) 8)) s.heap.objs.size f cdv))) :
    BX C (CxD P w K mg base ["self", "word", "allowed", "other"] "State.is_prefix" (defScope (inClass (top 22) 8)) f cdv A outer s H E) (defBody (inClass (top 22) 8)) b_State_is_prefix := by
    have S := sc_State_is_prefix
    have hu := hr.units
    exact (bx_cons (sx_if (tx_cmp op_dIn (px_fld .ph T.cs (px_var (i := 0))) (px_glob T.g_ANY_WORD) (by rfl)) (bx_one (sx_ret px_bl)) bx_nil)
    (bx_cons (sx_set (i := 2) S.nd (px_tup ax_nil))
    (bx_cons (sx_if (tx_cmp op_dIn (px_fld .ph T.cs (px_var (i := 0))) (px_glob T.g_DONE) (by rfl)) (bx_one (sx_set (i := 2) S.nd (px_glob T.g_BINARY_WORDS))) (bx_one (sx_if (tx_cmp (op_dEq hu) (px_fld .ph T.cs (px_var (i := 0))) (px_str (s := [102, 111, 114, 105, 110]) (by rfl) (by rfl)) (nomark _)) (bx_one (sx_set (i := 2) S.nd (px_tup (ax_cons (px_str (s := [105, 110]) (by rfl) (by rfl)) ax_nil)))) (bx_one (sx_if (tx_cmp (op_dEq hu) (px_fld .ph T.cs (px_var (i := 0))) (px_str (s := [99, 108, 97, 117, 115, 101]) (by rfl) (by rfl)) (nomark _)) (bx_one (sx_set (i := 2) S.nd (px_kix T.g_CLAUSES (px_ix (px_fld .gl T.cs (px_var (i := 0))) px_int)))) bx_nil)))))
    (bx_one (sx_ret (px_callB (cl_any rfl) (by rfl) T.any (by decide +kernel) (ax_cons (px_lc0 3 rfl S.nd (ix_tupD (px_var (i := 2))) rfl (blkOk_by (N := ["self", "word", "allowed", "other"]) (sc := defScope (inClass (top 22) 8)) (by decide +kernel)) (fun _ _ _ _ _ => pg_name (i := 3) S.nd rfl (Or.inl rfl)) (fun _ _ _ _ _ => (px_startswith (px_var (i := 3)) (px_var (i := 1))))) ax_nil)))))))
theorem F_State_is_prefix {P : Program} {w : World} {K : PySem.W.Frag} {mg : Str → Option Value} {base : Heap} {C : Addr} (T : Top P w K mg base C) : MtC P w K mg base C 1 "is_prefix" m_State_is_prefix :=
  mtc (N := ["self", "word", "allowed", "other"]) (ps := ["self", "word"]) (k := 0) T.e_is_prefix sc_State_is_prefix rfl rfl (fun _ _ _ _ _ _ us hl => match us, hl with | [_, _], _ => rfl) (bx_State_is_prefix T)
end
end Rp
set_option Elab.async false
set_option linter.all false
set_option maxRecDepth 100000
set_option maxHeartbeats 4000000
namespace Rp
noncomputable section
open PySem PySem.Spec PyProof.Rows L2 SX
theorem sc_State_innermost : FnScope ["self"] ["self"] (defScope (inClass (top 22) 7)) := ⟨rfl, rfl, rfl, by decide +kernel, rfl, by decide +kernel, by decide +kernel⟩
theorem bx_State_innermost {P : Program} {w : World} {K : PySem.W.Frag} {mg : Str → Option Value} {base : Heap} {C : Addr} (T : Top P w K mg base C) (f : Addr) (cdv : Value) (A : Around) (outer : List Env) (s : Shared) (H : Hp) (E : XK) (hr : Room 0 (A.deeper (envOfC "State.innermost" (defScope (inClass (top 22) 7)) s.heap.objs.size f cdv))) :
    BX C (CxD P w K mg base ["self"] "State.innermost" (defScope (inClass (top 22) 7)) f cdv A outer s H E) (defBody (inClass (top 22) 7)) b_State_innermost := by
    have S := sc_State_innermost
    have hu := hr.units
    exact (bx_one (sx_ret (px_ifExp (tx_cmp (op_dNe hu) (px_fld .fr T.cs (px_var (i := 0))) (px_tup ax_nil) (nomark _)) (px_ix (px_ix (px_fld .fr T.cs (px_var (i := 0))) (px_neg px_int)) px_int) (px_str (s := []) (by rfl) (by rfl)))))
theorem F_State_innermost {P : Program} {w : World} {K : PySem.W.Frag} {mg : Str → Option Value} {base : Heap} {C : Addr} (T : Top P w K mg base C) : MtC P w K mg base C 1 "innermost" m_State_innermost :=
  mtc (N := ["self"]) (ps := ["self"]) (k := 0) T.e_innermost sc_State_innermost rfl rfl (fun _ _ _ _ _ _ us hl => match us, hl with | [_], _ => rfl) (bx_State_innermost T)
theorem sc_State_reframed : FnScope ["self", "kind", "phase", "behind"] ["self", "kind", "phase"] (defScope (inClass (top 22) 5)) := ⟨rfl, rfl, rfl, by decide +kernel, rfl, by decide +kernel, by decide +kernel⟩
theorem bx_State_reframed {P : Program} {w : World} {K : PySem.W.Frag} {mg : Str → Option Value} {base : Heap} {C : Addr} (T : Top P w K mg base C) (f : Addr) (cdv : Value) (A : Around) (outer : List Env) (s : Shared) (H : Hp) (E : XK) (hr : Room 2 (A.deeper (envOfC "State.reframed" (defScope (inClass (top 22) 5)) s.heap.objs.size f cdv))) :
    BX C (CxD P w K mg base ["self", "kind", "phase", "behind"] "State.reframed" (defScope (inClass (top 22) 5)) f cdv A outer s H E) (defBody (inClass (top 22) 5)) b_State_reframed := by
    have S := sc_State_reframed
    have hu := hr.units
    have F_State := F_State T
    exact (bx_cons (sx_set (i := 3) S.nd (px_ix (px_ix (px_fld .fr T.cs (px_var (i := 0))) (px_neg px_int)) px_int))
    (bx_one (sx_ret (px_make F_State hr (by decide) (ax_cons (px_fld .lv T.cs (px_var (i := 0))) (ax_cons (px_fld .gl T.cs (px_var (i := 0))) (ax_cons (px_tup (ax_star (px_sl (px_fld .fr T.cs (px_var (i := 0))) ox_none (ox_some (px_neg px_int))) (ax_cons (px_tup (ax_cons (px_var (i := 1)) (ax_cons (px_var (i := 3)) ax_nil))) ax_nil))) (ax_cons (px_var (i := 2)) ax_nil))))))))
theorem F_State_reframed {P : Program} {w : World} {K : PySem.W.Frag} {mg : Str → Option Value} {base : Heap} {C : Addr} (T : Top P w K mg base C) : MtC P w K mg base C 3 "reframed" m_State_reframed :=
  mtc (N := ["self", "kind", "phase", "behind"]) (ps := ["self", "kind", "phase"]) (k := 2) T.e_reframed sc_State_reframed rfl rfl (fun _ _ _ _ _ _ us hl => match us, hl with | [_, _, _], _ => rfl) (bx_State_reframed T)
theorem sc_after_colon : FnScope ["state", "word", "clauses", "can_return", "can_break"] ["state"] (defScope (top 41)) := ⟨rfl, rfl, rfl, by decide +kernel, rfl, by decide +kernel, by decide +kernel⟩
theorem bx_after_colon {P : Program} {w : World} {K : PySem.W.Frag} {mg : Str → Option Value} {base : Heap} {C : Addr} (T : Top P w K mg base C) (f : Addr) (cdv : Value) (A : Around) (outer : List Env) (s : Shared) (H : Hp) (E : XK) (hr : Room 3 (A.deeper (envOfC "after_colon" (defScope (top 41)) s.heap.objs.size f cdv))) :
    BX C (CxD P w K mg base ["state", "word", "clauses", "can_return", "can_break"] "after_colon" (defScope (top 41)) f cdv A outer s H E) (defBody (top 41)) b_after_colon := by
    have S := sc_after_colon
    have hu := hr.units
    have F_State := F_State T
    have F_State_innermost := F_State_innermost T
    have F_State_reframed := F_State_reframed T
    exact (bx_cons (sx_if (tx_cmp (op_dEq hu) (px_meth0 F_State_innermost T.cs hr (by decide) (px_var (i := 0))) (px_str (s := [123, 107]) (by rfl) (by rfl)) (nomark _)) (bx_one (sx_ret (px_meth F_State_reframed T.cs hr (by decide) (px_var (i := 0)) (ax_cons (px_str (s := [123, 118]) (by rfl) (by rfl)) (ax_cons (px_str (s := [111, 112, 101, 114, 97, 110, 100]) (by rfl) (by rfl)) ax_nil))))) bx_nil)
    (bx_cons (sx_if (WX.tx (wx_or (tx_cmp (op_dNe hu) (px_fld .fr T.cs (px_var (i := 0))) (px_tup ax_nil) (nomark _)) (wx_or1 (tx_cmp (op_dNe hu) (px_ix (px_fld .gl T.cs (px_var (i := 0))) px_int) (px_str (s := [104, 101, 97, 100]) (by rfl) (by rfl)) (nomark _))))) (bx_one (sx_ret px_non)) bx_nil)
    (bx_cons (sx_unp rfl (gx_cons 1 S.nd (gx_cons 2 S.nd (gx_cons 3 S.nd (gx_cons 4 S.nd gx_nil)))) (px_fld .gl T.cs (px_var (i := 0))))
    (bx_one (sx_ret (px_make F_State hr (by decide) (ax_cons (px_fld .lv T.cs (px_var (i := 0))) (ax_cons (px_tup (ax_cons (px_str (s := [115, 109, 97, 108, 108]) (by rfl) (by rfl)) (ax_cons (px_var (i := 2)) (ax_cons (px_var (i := 3)) (ax_cons (px_var (i := 4)) (ax_cons px_bl ax_nil)))))) (ax_cons (px_tup ax_nil) (ax_cons (px_str (s := [115, 117, 105, 116, 101]) (by rfl) (by rfl)) ax_nil))))))))))
theorem F_after_colon {P : Program} {w : World} {K : PySem.W.Frag} {mg : Str → Option Value} {base : Heap} {C : Addr} (T : Top P w K mg base C) : FnC P w K mg base C 4 "after_colon" m_after_colon :=
  fnc (N := ["state", "word", "clauses", "can_return", "can_break"]) (ps := ["state"]) (k := 3) T.d_after_colon sc_after_colon rfl rfl (fun _ _ _ _ _ _ us hl => match us, hl with | [_], _ => rfl) (bx_after_colon T)
theorem sc_after_comma : FnScope ["state"] ["state"] (defScope (top 40)) := ⟨rfl, rfl, rfl, by decide +kernel, rfl, by decide +kernel, by decide +kernel⟩
theorem bx_after_comma {P : Program} {w : World} {K : PySem.W.Frag} {mg : Str → Option Value} {base : Heap} {C : Addr} (T : Top P w K mg base C) (f : Addr) (cdv : Value) (A : Around) (outer : List Env) (s : Shared) (H : Hp) (E : XK) (hr : Room 3 (A.deeper (envOfC "after_comma" (defScope (top 40)) s.heap.objs.size f cdv))) :
    BX C (CxD P w K mg base ["state"] "after_comma" (defScope (top 40)) f cdv A outer s H E) (defBody (top 40)) b_after_comma := by
    have S := sc_after_comma
    have hu := hr.units
    have F_State_in_phase := F_State_in_phase T
    have F_State_innermost := F_State_innermost T
    have F_State_reframed := F_State_reframed T
    exact (bx_cons (sx_match (px_meth0 F_State_innermost T.cs hr (by decide) (px_var (i := 0))) (mx_case (pat_or (pats_cons (t := [40]) (by rfl) (pats_cons (t := [91]) (by rfl) pats_nil))) (bx_one (sx_ret (px_meth F_State_in_phase T.cs hr (by decide) (px_var (i := 0)) (ax_cons (px_str (s := [102, 105, 114, 115, 116]) (by rfl) (by rfl)) ax_nil))))
    (mx_case (pat_one (t := [99]) (by rfl)) (bx_one (sx_ret (px_meth F_State_in_phase T.cs hr (by decide) (px_var (i := 0)) (ax_cons (px_str (s := [97, 114, 103]) (by rfl) (by rfl)) ax_nil))))
    (mx_case (pat_one (t := [123, 118]) (by rfl)) (bx_one (sx_ret (px_meth F_State_reframed T.cs hr (by decide) (px_var (i := 0)) (ax_cons (px_str (s := [123, 107]) (by rfl) (by rfl)) (ax_cons (px_str (s := [102, 105, 114, 115, 116]) (by rfl) (by rfl)) ax_nil)))))
    (mx_case (pat_one (t := [112]) (by rfl)) (bx_one (sx_ret (px_meth F_State_in_phase T.cs hr (by decide) (px_var (i := 0)) (ax_cons (px_str (s := [112, 97, 114, 97, 109]) (by rfl) (by rfl)) ax_nil))))
    mx_nil)))))
    (bx_one (sx_ret px_non)))
theorem F_after_comma {P : Program} {w : World} {K : PySem.W.Frag} {mg : Str → Option Value} {base : Heap} {C : Addr} (T : Top P w K mg base C) : FnC P w K mg base C 4 "after_comma" m_after_comma :=
  fnc (N := ["state"]) (ps := ["state"]) (k := 3) T.d_after_comma sc_after_comma rfl rfl (fun _ _ _ _ _ _ us hl => match us, hl with | [_], _ => rfl) (bx_after_comma T)
theorem sc_after_done_sign : FnScope ["state", "sign", "phase", "kind"] ["state", "sign"] (defScope (top 42)) := ⟨rfl, rfl, rfl, by decide +kernel, rfl, by decide +kernel, by decide +kernel⟩
theorem bx_after_done_sign {P : Program} {w : World} {K : PySem.W.Frag} {mg : Str → Option Value} {base : Heap} {C : Addr} (T : Top P w K mg base C) (f : Addr) (cdv : Value) (A : Around) (outer : List Env) (s : Shared) (H : Hp) (E : XK) (hr : Room 4 (A.deeper (envOfC "after_done_sign" (defScope (top 42)) s.heap.objs.size f cdv))) :
    BX C (CxD P w K mg base ["state", "sign", "phase", "kind"] "after_done_sign" (defScope (top 42)) f cdv A outer s H E) (defBody (top 42)) b_after_done_sign := by
    have S := sc_after_done_sign
    have hu := hr.units
    have F_State_closed := F_State_closed T
    have F_State_in_phase := F_State_in_phase T
    have F_State_innermost := F_State_innermost T
    have F_State_opened := F_State_opened T
    have F_State_with_token := F_State_with_token T
    have F_after_colon := F_after_colon T
    have F_after_comma := F_after_comma T
    exact (bx_cons (sx_par (i := 2) (j := 3) rfl S.nd (px_fld .ph T.cs (px_var (i := 0))) (px_meth0 F_State_innermost T.cs hr (by decide) (px_var (i := 0))))
    (bx_cons (sx_if (tx_cmp op_dIn (px_var (i := 1)) (px_str (s := [43, 45, 42, 47]) (by rfl) (by rfl)) (by rfl)) (bx_one (sx_ret (px_meth F_State_in_phase T.cs hr (by decide) (px_var (i := 0)) (ax_cons (px_str (s := [111, 112, 101, 114, 97, 110, 100]) (by rfl) (by rfl)) ax_nil)))) bx_nil)
    (bx_cons (sx_if (tx_cmp op_dIn (px_var (i := 1)) (px_str (s := [60, 62]) (by rfl) (by rfl)) (by rfl)) (bx_one (sx_ret (px_meth F_State_with_token T.cs hr (by decide) (px_var (i := 0)) (ax_cons (px_str (s := [108, 101, 115, 115]) (by rfl) (by rfl)) ax_nil)))) bx_nil)
    (bx_cons (sx_if (tx_cmp op_dIn (px_var (i := 1)) (px_str (s := [61, 33]) (by rfl) (by rfl)) (by rfl)) (bx_one (sx_ret (px_meth F_State_with_token T.cs hr (by decide) (px_var (i := 0)) (ax_cons (px_ifExp (tx_cmp (op_dEq hu) (px_var (i := 1)) (px_str (s := [61]) (by rfl) (by rfl)) (nomark _)) (px_str (s := [101, 113, 117, 97, 108]) (by rfl) (by rfl)) (px_str (s := [98, 97, 110, 103]) (by rfl) (by rfl))) ax_nil)))) bx_nil)
    (bx_cons (sx_if (WX.tx (wx_and (tx_cmp (op_dNe hu) (px_var (i := 2)) (px_str (s := [115, 101, 97, 108, 101, 100]) (by rfl) (by rfl)) (nomark _)) (wx_and1 (tx_cmp op_dIn (px_var (i := 1)) (px_str (s := [46, 40, 91]) (by rfl) (by rfl)) (by rfl))))) (bx_cons (sx_if (tx_cmp (op_dEq hu) (px_var (i := 1)) (px_str (s := [46]) (by rfl) (by rfl)) (nomark _)) (bx_one (sx_ret (px_meth F_State_in_phase T.cs hr (by decide) (px_var (i := 0)) (ax_cons (px_ifExp (tx_cmp op_dIn (px_var (i := 2)) (px_glob T.g_CHAINS) (by rfl)) (px_str (s := [99, 104, 97, 105, 110, 110, 97, 109, 101]) (by rfl) (by rfl)) (px_str (s := [110, 97, 109, 101]) (by rfl) (by rfl))) ax_nil)))) bx_nil)
    (bx_cons (sx_if (tx_cmp (op_dEq hu) (px_var (i := 1)) (px_str (s := [40]) (by rfl) (by rfl)) (nomark _)) (bx_one (sx_ret (px_meth F_State_opened T.cs hr (by decide) (px_var (i := 0)) (ax_cons (px_str (s := [99]) (by rfl) (by rfl)) (ax_cons (px_ifExp (tx_cmp op_dIn (px_var (i := 2)) (px_glob T.g_CHAINS) (by rfl)) (px_str (s := [99, 104, 97, 105, 110]) (by rfl) (by rfl)) (px_str (s := [97, 102, 116, 101, 114]) (by rfl) (by rfl))) (ax_cons (px_str (s := [97, 114, 103]) (by rfl) (by rfl)) ax_nil)))))) bx_nil)
    (bx_one (sx_ret (px_meth F_State_opened T.cs hr (by decide) (px_var (i := 0)) (ax_cons (px_str (s := [105]) (by rfl) (by rfl)) (ax_cons (px_ifExp (tx_cmp op_dIn (px_var (i := 2)) (px_glob T.g_CHAINS) (by rfl)) (px_str (s := [116, 97, 114, 103, 101, 116]) (by rfl) (by rfl)) (px_str (s := [97, 102, 116, 101, 114]) (by rfl) (by rfl))) (ax_cons (px_str (s := [111, 112, 101, 114, 97, 110, 100]) (by rfl) (by rfl)) ax_nil)))))))) bx_nil)
    (bx_cons (sx_if (tx_cmp (op_dEq hu) (px_var (i := 1)) (px_str (s := [44]) (by rfl) (by rfl)) (nomark _)) (bx_one (sx_ret (px_call F_after_comma hr (by decide) (ax_cons (px_var (i := 0)) ax_nil)))) bx_nil)
    (bx_cons (sx_if (tx_cmp (op_dEq hu) (px_var (i := 1)) (px_str (s := [58]) (by rfl) (by rfl)) (nomark _)) (bx_one (sx_ret (px_call F_after_colon hr (by decide) (ax_cons (px_var (i := 0)) ax_nil)))) bx_nil)
    (bx_cons (sx_if (tx_cmp (op_dEq hu) (px_var (i := 1)) (px_str (s := [59]) (by rfl) (by rfl)) (nomark _)) (bx_one (sx_ret (px_ifExp (WX.tx (wx_and (tx_cmp (op_dEq hu) (px_fld .fr T.cs (px_var (i := 0))) (px_tup ax_nil) (nomark _)) (wx_and1 (tx_cmp (op_dEq hu) (px_ix (px_fld .gl T.cs (px_var (i := 0))) px_int) (px_str (s := [115, 109, 97, 108, 108]) (by rfl) (by rfl)) (nomark _))))) (px_meth F_State_in_phase T.cs hr (by decide) (px_var (i := 0)) (ax_cons (px_str (s := [109, 111, 114, 101]) (by rfl) (by rfl)) ax_nil)) px_non))) bx_nil)
    (bx_one (sx_ret (px_ifExp (WX.tx (wx_and (tx_cmp op_dNotIn (px_var (i := 3)) (px_tup (ax_cons (px_str (s := []) (by rfl) (by rfl)) (ax_cons (px_str (s := [123, 107]) (by rfl) (by rfl)) (ax_cons (px_str (s := [112]) (by rfl) (by rfl)) ax_nil)))) (by rfl)) (wx_and1 (tx_cmp (op_dEq hu) (px_var (i := 1)) (px_kix T.g_CLOSERS (px_var (i := 3))) (nomark _))))) (px_meth0 F_State_closed T.cs hr (by decide) (px_var (i := 0))) px_non)))))))))))
theorem F_after_done_sign {P : Program} {w : World} {K : PySem.W.Frag} {mg : Str → Option Value} {base : Heap} {C : Addr} (T : Top P w K mg base C) : FnC P w K mg base C 5 "after_done_sign" m_after_done_sign :=
  fnc (N := ["state", "sign", "phase", "kind"]) (ps := ["state", "sign"]) (k := 4) T.d_after_done_sign sc_after_done_sign rfl rfl (fun _ _ _ _ _ _ us hl => match us, hl with | [_, _], _ => rfl) (bx_after_done_sign T)
theorem sc_after_operand_sign : FnScope ["state", "sign", "phase", "behind"] ["state", "sign"] (defScope (top 39)) := ⟨rfl, rfl, rfl, by decide +kernel, rfl, by decide +kernel, by decide +kernel⟩
theorem bx_after_operand_sign {P : Program} {w : World} {K : PySem.W.Frag} {mg : Str → Option Value} {base : Heap} {C : Addr} (T : Top P w K mg base C) (f : Addr) (cdv : Value) (A : Around) (outer : List Env) (s : Shared) (H : Hp) (E : XK) (hr : Room 3 (A.deeper (envOfC "after_operand_sign" (defScope (top 39)) s.heap.objs.size f cdv))) :
    BX C (CxD P w K mg base ["state", "sign", "phase", "behind"] "after_operand_sign" (defScope (top 39)) f cdv A outer s H E) (defBody (top 39)) b_after_operand_sign := by
    have S := sc_after_operand_sign
    have hu := hr.units
    have F_State_closed := F_State_closed T
    have F_State_in_phase := F_State_in_phase T
    have F_State_innermost := F_State_innermost T
    have F_State_opened := F_State_opened T
    have F_State_with_token := F_State_with_token T
    exact (bx_cons (sx_set (i := 2) S.nd (px_fld .ph T.cs (px_var (i := 0))))
    (bx_cons (sx_set (i := 3) S.nd (px_ifExp (tx_cmp op_dIn (px_var (i := 2)) (px_glob T.g_STARTS) (by rfl)) (px_str (s := [99, 104, 97, 105, 110]) (by rfl) (by rfl)) (px_str (s := [97, 102, 116, 101, 114]) (by rfl) (by rfl))))
    (bx_cons (sx_if (tx_cmp op_dIn (px_var (i := 1)) (px_glob T.g_DIGITS_states) (by rfl)) (bx_one (sx_ret (px_meth F_State_with_token T.cs hr (by decide) (px_var (i := 0)) (ax_cons (px_str (s := [110, 117, 109, 98, 101, 114]) (by rfl) (by rfl)) (ax_cons (px_ifExp (tx_cmp (op_dEq hu) (px_var (i := 1)) (px_str (s := [48]) (by rfl) (by rfl)) (nomark _)) (px_str (s := [48]) (by rfl) (by rfl)) (px_str (s := [49]) (by rfl) (by rfl))) ax_nil))))) bx_nil)
    (bx_cons (sx_if (tx_cmp op_dIn (px_var (i := 1)) (px_str (s := [39, 34]) (by rfl) (by rfl)) (by rfl)) (bx_one (sx_ret (px_meth F_State_in_phase T.cs hr (by decide) (px_var (i := 0)) (ax_cons (px_str (s := []) (by rfl) (by rfl)) (ax_cons (px_tup (ax_cons (px_str (s := [113, 117, 111, 116, 101]) (by rfl) (by rfl)) (ax_cons (px_var (i := 1)) (ax_cons (px_var (i := 3)) ax_nil)))) ax_nil))))) bx_nil)
    (bx_cons (sx_if (tx_cmp (op_dEq hu) (px_var (i := 1)) (px_str (s := [36]) (by rfl) (by rfl)) (nomark _)) (bx_one (sx_ret (px_meth F_State_in_phase T.cs hr (by decide) (px_var (i := 0)) (ax_cons (px_str (s := []) (by rfl) (by rfl)) (ax_cons (px_tup (ax_cons (px_str (s := [100, 111, 108, 108, 97, 114]) (by rfl) (by rfl)) (ax_cons (px_var (i := 3)) ax_nil))) ax_nil))))) bx_nil)
    (bx_cons (sx_if (tx_cmp (op_dEq hu) (px_var (i := 1)) (px_str (s := [45]) (by rfl) (by rfl)) (nomark _)) (bx_one (sx_ret (px_meth F_State_in_phase T.cs hr (by decide) (px_var (i := 0)) (ax_cons (px_str (s := [111, 112, 101, 114, 97, 110, 100]) (by rfl) (by rfl)) ax_nil)))) bx_nil)
    (bx_cons (sx_if (tx_cmp op_dIn (px_var (i := 1)) (px_str (s := [40, 91, 123]) (by rfl) (by rfl)) (by rfl)) (bx_one (sx_ret (px_meth F_State_opened T.cs hr (by decide) (px_var (i := 0)) (ax_cons (px_ifExp (tx_cmp (op_dEq hu) (px_var (i := 1)) (px_str (s := [123]) (by rfl) (by rfl)) (nomark _)) (px_str (s := [123, 107]) (by rfl) (by rfl)) (px_var (i := 1))) (ax_cons (px_var (i := 3)) (ax_cons (px_str (s := [102, 105, 114, 115, 116]) (by rfl) (by rfl)) ax_nil)))))) bx_nil)
    (bx_cons (sx_if (WX.tx (wx_and (tx_cmp op_dIn (px_var (i := 2)) (px_tup (ax_cons (px_str (s := [102, 105, 114, 115, 116]) (by rfl) (by rfl)) (ax_cons (px_str (s := [97, 114, 103]) (by rfl) (by rfl)) ax_nil))) (by rfl)) (wx_and1 (tx_cmp (op_dEq hu) (px_var (i := 1)) (px_kix T.g_CLOSERS (px_meth0 F_State_innermost T.cs hr (by decide) (px_var (i := 0)))) (nomark _))))) (bx_one (sx_ret (px_meth0 F_State_closed T.cs hr (by decide) (px_var (i := 0))))) bx_nil)
    (bx_one (sx_ret (px_ifExp (WX.tx (wx_and (tx_cmp (op_dEq hu) (px_var (i := 2)) (px_str (s := [109, 97, 121, 98, 101]) (by rfl) (by rfl)) (nomark _)) (wx_and1 (tx_cmp (op_dEq hu) (px_var (i := 1)) (px_str (s := [59]) (by rfl) (by rfl)) (nomark _))))) (px_meth F_State_in_phase T.cs hr (by decide) (px_var (i := 0)) (ax_cons (px_str (s := [109, 111, 114, 101]) (by rfl) (by rfl)) ax_nil)) px_non)))))))))))
theorem F_after_operand_sign {P : Program} {w : World} {K : PySem.W.Frag} {mg : Str → Option Value} {base : Heap} {C : Addr} (T : Top P w K mg base C) : FnC P w K mg base C 4 "after_operand_sign" m_after_operand_sign :=
  fnc (N := ["state", "sign", "phase", "behind"]) (ps := ["state", "sign"]) (k := 3) T.d_after_operand_sign sc_after_operand_sign rfl rfl (fun _ _ _ _ _ _ us hl => match us, hl with | [_, _], _ => rfl) (bx_after_operand_sign T)
structure Itw_after_code_sign (P : Program) (w : World) (K : PySem.W.Frag) (mg : Str → Option Value) (base : Heap) (C : Addr) (k : Nat) (g : Gtw_after_code_sign) : Prop where
  after_code_sign : FnC P w K mg base C k "after_code_sign" g.after_code_sign
theorem sc_after_code_sign : FnScope ["state", "sign", "phase"] ["state", "sign"] (defScope (top 43)) := ⟨rfl, rfl, rfl, by decide +kernel, rfl, by decide +kernel, by decide +kernel⟩
theorem bx_after_code_sign {P : Program} {w : World} {K : PySem.W.Frag} {mg : Str → Option Value} {base : Heap} {C : Addr} (T : Top P w K mg base C) (j : Nat) (hj : 6 ≤ j) (g : Gtw_after_code_sign) (I : Itw_after_code_sign P w K mg base C j g) (f : Addr) (cdv : Value) (A : Around) (outer : List Env) (s : Shared) (H : Hp) (E : XK) (hr : Room j (A.deeper (envOfC "after_code_sign" (defScope (top 43)) s.heap.objs.size f cdv))) :
    BX C (CxD P w K mg base ["state", "sign", "phase"] "after_code_sign" (defScope (top 43)) f cdv A outer s H E) (defBody (top 43)) (b_after_code_sign g) := by
    have S := sc_after_code_sign
    have hu := hr.units
    have F_State_closed := F_State_closed T
    have F_State_in_phase := F_State_in_phase T
    have F_State_is_prefix := F_State_is_prefix T
    have F_State_opened := F_State_opened T
    have F_State_with_token := F_State_with_token T
    have F_after_code_sign := I.after_code_sign
    have F_after_colon := F_after_colon T
    have F_after_comma := F_after_comma T
    have F_after_done_sign := F_after_done_sign T
    have F_after_operand_sign := F_after_operand_sign T
    have F_small_begun := F_small_begun T
    exact (bx_cons (sx_set (i := 2) S.nd (px_fld .ph T.cs (px_var (i := 0))))
    (bx_cons (sx_if (tx_cmp op_dIn (px_var (i := 1)) (px_glob T.g_LETTERS) (by rfl)) (bx_one (sx_ret (px_ifExp (tx_val (px_meth F_State_is_prefix T.cs hr (by omega) (px_var (i := 0)) (ax_cons (px_var (i := 1)) ax_nil))) (px_meth F_State_with_token T.cs hr (by omega) (px_var (i := 0)) (ax_cons (px_str (s := [119, 111, 114, 100]) (by rfl) (by rfl)) (ax_cons (px_var (i := 1)) ax_nil))) px_non))) bx_nil)
    (bx_cons (sx_if (tx_cmp (op_dEq hu) (px_var (i := 2)) (px_str (s := [115, 116, 97, 116, 101, 109, 101, 110, 116]) (by rfl) (by rfl)) (nomark _)) (bx_one (sx_ret (px_call F_after_code_sign hr (by omega) (ax_cons (px_call F_small_begun hr (by omega) (ax_cons (px_var (i := 0)) ax_nil)) (ax_cons (px_var (i := 1)) ax_nil))))) bx_nil)
    (bx_cons (sx_if (tx_cmp op_dIn (px_var (i := 2)) (px_glob T.g_OPERANDS) (by rfl)) (bx_one (sx_ret (px_call F_after_operand_sign hr (by omega) (ax_cons (px_var (i := 0)) (ax_cons (px_var (i := 1)) ax_nil))))) bx_nil)
    (bx_cons (sx_if (tx_cmp op_dIn (px_var (i := 2)) (px_glob T.g_DONE) (by rfl)) (bx_one (sx_ret (px_call F_after_done_sign hr (by omega) (ax_cons (px_var (i := 0)) (ax_cons (px_var (i := 1)) ax_nil))))) bx_nil)
    (bx_cons (sx_if (WX.tx (wx_and (tx_cmp (op_dEq hu) (px_var (i := 2)) (px_str (s := [101, 110, 100]) (by rfl) (by rfl)) (nomark _)) (wx_and1 (tx_cmp (op_dEq hu) (px_var (i := 1)) (px_str (s := [59]) (by rfl) (by rfl)) (nomark _))))) (bx_one (sx_ret (px_meth F_State_in_phase T.cs hr (by omega) (px_var (i := 0)) (ax_cons (px_str (s := [109, 111, 114, 101]) (by rfl) (by rfl)) ax_nil)))) bx_nil)
    (bx_cons (sx_if (WX.tx (wx_and (tx_cmp op_dIn (px_var (i := 2)) (px_tup (ax_cons (px_str (s := [99, 111, 108, 111, 110]) (by rfl) (by rfl)) (ax_cons (px_str (s := [101, 120, 99, 101, 112, 116, 110, 97, 109, 101]) (by rfl) (by rfl)) ax_nil))) (by rfl)) (wx_and1 (tx_cmp (op_dEq hu) (px_var (i := 1)) (px_str (s := [58]) (by rfl) (by rfl)) (nomark _))))) (bx_one (sx_ret (px_call F_after_colon hr (by omega) (ax_cons (px_var (i := 0)) ax_nil)))) bx_nil)
    (bx_cons (sx_if (WX.tx (wx_and (tx_cmp (op_dEq hu) (px_var (i := 2)) (px_str (s := [100, 101, 102, 111, 112, 101, 110]) (by rfl) (by rfl)) (nomark _)) (wx_and1 (tx_cmp (op_dEq hu) (px_var (i := 1)) (px_str (s := [40]) (by rfl) (by rfl)) (nomark _))))) (bx_one (sx_ret (px_meth F_State_opened T.cs hr (by omega) (px_var (i := 0)) (ax_cons (px_str (s := [112]) (by rfl) (by rfl)) (ax_cons (px_str (s := [99, 111, 108, 111, 110]) (by rfl) (by rfl)) (ax_cons (px_str (s := [112, 97, 114, 97, 109]) (by rfl) (by rfl)) ax_nil)))))) bx_nil)
    (bx_cons (sx_if (WX.tx (wx_and (tx_cmp op_dIn (px_var (i := 2)) (px_tup (ax_cons (px_str (s := [112, 97, 114, 97, 109]) (by rfl) (by rfl)) (ax_cons (px_str (s := [112, 97, 114, 97, 109, 100, 111, 110, 101]) (by rfl) (by rfl)) ax_nil))) (by rfl)) (wx_and1 (tx_cmp (op_dEq hu) (px_var (i := 1)) (px_str (s := [41]) (by rfl) (by rfl)) (nomark _))))) (bx_one (sx_ret (px_meth0 F_State_closed T.cs hr (by omega) (px_var (i := 0))))) bx_nil)
    (bx_one (sx_ret (px_ifExp (WX.tx (wx_and (tx_cmp (op_dEq hu) (px_var (i := 2)) (px_str (s := [112, 97, 114, 97, 109, 100, 111, 110, 101]) (by rfl) (by rfl)) (nomark _)) (wx_and1 (tx_cmp (op_dEq hu) (px_var (i := 1)) (px_str (s := [44]) (by rfl) (by rfl)) (nomark _))))) (px_call F_after_comma hr (by omega) (ax_cons (px_var (i := 0)) ax_nil)) px_non))))))))))))
theorem I_tw_after_code_sign {P : Program} {w : World} {K : PySem.W.Frag} {mg : Str → Option Value} {base : Heap} {C : Addr} (T : Top P w K mg base C) : ∀ n : Nat, Itw_after_code_sign P w K mg base C (6 + n) (tw_after_code_sign n)
  | 0 => ⟨fnc0 T.d_after_code_sign⟩
  | n + 1 => ⟨fnc (N := ["state", "sign", "phase"]) (ps := ["state", "sign"]) (k := 6 + n) T.d_after_code_sign sc_after_code_sign rfl rfl (fun _ _ _ _ _ _ us hl => match us, hl with | [_, _], _ => rfl) (bx_after_code_sign T _ (by omega) _ (I_tw_after_code_sign T n))⟩
theorem F_after_code_sign {P : Program} {w : World} {K : PySem.W.Frag} {mg : Str → Option Value} {base : Heap} {C : Addr} (T : Top P w K mg base C) (n : Nat) : FnC P w K mg base C (6 + n) "after_code_sign" (tw_after_code_sign n).after_code_sign := (I_tw_after_code_sign T n).after_code_sign
theorem sc_after_start_sign : FnScope ["state", "sign", "word", "width", "need", "begun"] ["state", "sign"] (defScope (top 44)) := ⟨rfl, rfl, rfl, by decide +kernel, rfl, by decide +kernel, by decide +kernel⟩
theorem bx_after_start_sign {P : Program} {w : World} {K : PySem.W.Frag} {mg : Str → Option Value} {base : Heap} {C : Addr} (T : Top P w K mg base C) (f : Addr) (cdv : Value) (A : Around) (outer : List Env) (s : Shared) (H : Hp) (E : XK) (hr : Room 9 (A.deeper (envOfC "after_start_sign" (defScope (top 44)) s.heap.objs.size f cdv))) :
    BX C (CxD P w K mg base ["state", "sign", "word", "width", "need", "begun"] "after_start_sign" (defScope (top 44)) f cdv A outer s H E) (defBody (top 44)) b_after_start_sign := by
    have S := sc_after_start_sign
    have hu := hr.units
    have F_State := F_State T
    have F_State_with_token := F_State_with_token T
    have F_after_code_sign := F_after_code_sign T 3
    have F_after_empty_line := F_after_empty_line T
    have F_line_begun := F_line_begun T
    exact (bx_cons (sx_unp rfl (gx_cons 2 S.nd (gx_cons 3 S.nd (gx_cons 4 S.nd gx_nil))) (px_fld .gl T.cs (px_var (i := 0))))
    (bx_cons (sx_if (tx_cmp (op_dEq hu) (px_var (i := 1)) (px_str (s := [32]) (by rfl) (by rfl)) (nomark _)) (bx_one (sx_ret (px_make F_State hr (by decide) (ax_cons (px_fld .lv T.cs (px_var (i := 0))) (ax_cons (px_tup (ax_cons (px_str (s := [115, 116, 97, 114, 116]) (by rfl) (by rfl)) (ax_cons (px_op op_dAdd (px_var (i := 3)) px_int) (ax_cons (px_var (i := 4)) ax_nil)))) ax_nil))))) bx_nil)
    (bx_cons (sx_if (tx_cmp (op_dEq hu) (px_var (i := 1)) (px_str (s := [35]) (by rfl) (by rfl)) (nomark _)) (bx_one (sx_ret (px_meth F_State_with_token T.cs hr (by decide) (px_var (i := 0)) (ax_cons (px_str (s := [99, 111, 109, 109, 101, 110, 116]) (by rfl) (by rfl)) ax_nil)))) bx_nil)
    (bx_cons (sx_if (tx_cmp (op_dEq hu) (px_var (i := 1)) (px_str (s := [10]) (by rfl) (by rfl)) (nomark _)) (bx_one (sx_ret (px_call F_after_empty_line hr (by decide) (ax_cons (px_var (i := 0)) ax_nil)))) bx_nil)
    (bx_cons (sx_set (i := 5) S.nd (px_call F_line_begun hr (by decide) (ax_cons (px_var (i := 0)) ax_nil)))
    (bx_one (sx_ret (px_ifExp (WX.tx (wx_or (tx_cmp op_dIs (px_var (i := 5)) px_non (nomark _)) (wx_or1 (tx_cmp (op_dEq hu) (px_var (i := 1)) (px_str (s := [92]) (by rfl) (by rfl)) (nomark _))))) px_non (px_call F_after_code_sign hr (by decide) (ax_cons (px_var (i := 5)) (ax_cons (px_var (i := 1)) ax_nil)))))))))))
theorem F_after_start_sign {P : Program} {w : World} {K : PySem.W.Frag} {mg : Str → Option Value} {base : Heap} {C : Addr} (T : Top P w K mg base C) : FnC P w K mg base C 10 "after_start_sign" m_after_start_sign :=
  fnc (N := ["state", "sign", "word", "width", "need", "begun"]) (ps := ["state", "sign"]) (k := 9) T.d_after_start_sign sc_after_start_sign rfl rfl (fun _ _ _ _ _ _ us hl => match us, hl with | [_, _], _ => rfl) (bx_after_start_sign T)
theorem sc_after_plain : FnScope ["state", "sign"] ["state", "sign"] (defScope (top 45)) := ⟨rfl, rfl, rfl, by decide +kernel, rfl, by decide +kernel, by decide +kernel⟩
theorem bx_after_plain {P : Program} {w : World} {K : PySem.W.Frag} {mg : Str → Option Value} {base : Heap} {C : Addr} (T : Top P w K mg base C) (f : Addr) (cdv : Value) (A : Around) (outer : List Env) (s : Shared) (H : Hp) (E : XK) (hr : Room 10 (A.deeper (envOfC "after_plain" (defScope (top 45)) s.heap.objs.size f cdv))) :
    BX C (CxD P w K mg base ["state", "sign"] "after_plain" (defScope (top 45)) f cdv A outer s H E) (defBody (top 45)) b_after_plain := by
    have S := sc_after_plain
    have hu := hr.units
    have F_State_with_token := F_State_with_token T
    have F_after_code_sign := F_after_code_sign T 3
    have F_after_line := F_after_line T
    have F_after_start_sign := F_after_start_sign T
    exact (bx_cons (sx_if (tx_cmp (op_dEq hu) (px_ix (px_fld .gl T.cs (px_var (i := 0))) px_int) (px_str (s := [100, 111, 110, 101]) (by rfl) (by rfl)) (nomark _)) (bx_one (sx_ret px_non)) bx_nil)
    (bx_cons (sx_if (tx_cmp (op_dEq hu) (px_ix (px_fld .gl T.cs (px_var (i := 0))) px_int) (px_str (s := [115, 116, 97, 114, 116]) (by rfl) (by rfl)) (nomark _)) (bx_one (sx_ret (px_call F_after_start_sign hr (by decide) (ax_cons (px_var (i := 0)) (ax_cons (px_var (i := 1)) ax_nil))))) bx_nil)
    (bx_cons (sx_if (WX.tx (wx_or (tx_cmp (op_dEq hu) (px_var (i := 1)) (px_str (s := [32]) (by rfl) (by rfl)) (nomark _)) (wx_or1 (WX.tx (wx_and (tx_cmp (op_dEq hu) (px_var (i := 1)) (px_str (s := [10]) (by rfl) (by rfl)) (nomark _)) (wx_and1 (tx_cmp (op_dNe hu) (px_fld .fr T.cs (px_var (i := 0))) (px_tup ax_nil) (nomark _)))))))) (bx_one (sx_ret (px_var (i := 0)))) bx_nil)
    (bx_cons (sx_if (tx_cmp (op_dEq hu) (px_var (i := 1)) (px_str (s := [92]) (by rfl) (by rfl)) (nomark _)) (bx_one (sx_ret (px_meth F_State_with_token T.cs hr (by decide) (px_var (i := 0)) (ax_cons (px_str (s := [106, 111, 105, 110]) (by rfl) (by rfl)) ax_nil)))) bx_nil)
    (bx_cons (sx_if (tx_cmp (op_dEq hu) (px_var (i := 1)) (px_str (s := [10]) (by rfl) (by rfl)) (nomark _)) (bx_one (sx_ret (px_call F_after_line hr (by decide) (ax_cons (px_var (i := 0)) ax_nil)))) bx_nil)
    (bx_cons (sx_if (tx_cmp (op_dEq hu) (px_var (i := 1)) (px_str (s := [35]) (by rfl) (by rfl)) (nomark _)) (bx_one (sx_ret (px_ifExp (WX.tx (wx_or (tx_cmp (op_dNe hu) (px_fld .fr T.cs (px_var (i := 0))) (px_tup ax_nil) (nomark _)) (wx_or1 (tx_cmp op_dIsNot (px_call F_after_line hr (by decide) (ax_cons (px_var (i := 0)) ax_nil)) px_non (nomark _))))) (px_meth F_State_with_token T.cs hr (by decide) (px_var (i := 0)) (ax_cons (px_str (s := [99, 111, 109, 109, 101, 110, 116]) (by rfl) (by rfl)) ax_nil)) px_non))) bx_nil)
    (bx_one (sx_ret (px_call F_after_code_sign hr (by decide) (ax_cons (px_var (i := 0)) (ax_cons (px_var (i := 1)) ax_nil)))))))))))
theorem F_after_plain {P : Program} {w : World} {K : PySem.W.Frag} {mg : Str → Option Value} {base : Heap} {C : Addr} (T : Top P w K mg base C) : FnC P w K mg base C 11 "after_plain" m_after_plain :=
  fnc (N := ["state", "sign"]) (ps := ["state", "sign"]) (k := 10) T.d_after_plain sc_after_plain rfl rfl (fun _ _ _ _ _ _ us hl => match us, hl with | [_, _], _ => rfl) (bx_after_plain T)
theorem sc_after_operator : FnScope ["state", "sign", "word"] ["state", "sign"] (defScope (top 34)) := ⟨rfl, rfl, rfl, by decide +kernel, rfl, by decide +kernel, by decide +kernel⟩
theorem bx_after_operator {P : Program} {w : World} {K : PySem.W.Frag} {mg : Str → Option Value} {base : Heap} {C : Addr} (T : Top P w K mg base C) (f : Addr) (cdv : Value) (A : Around) (outer : List Env) (s : Shared) (H : Hp) (E : XK) (hr : Room 11 (A.deeper (envOfC "after_operator" (defScope (top 34)) s.heap.objs.size f cdv))) :
    BX C (CxD P w K mg base ["state", "sign", "word"] "after_operator" (defScope (top 34)) f cdv A outer s H E) (defBody (top 34)) b_after_operator := by
    have S := sc_after_operator
    have hu := hr.units
    have F_State_in_phase := F_State_in_phase T
    have F_after_plain := F_after_plain T
    have F_may_assign := F_may_assign T
    exact (bx_cons (sx_set (i := 2) S.nd (px_ix (px_fld .tk T.cs (px_var (i := 0))) px_int))
    (bx_cons (sx_if (tx_cmp (op_dEq hu) (px_var (i := 1)) (px_str (s := [61]) (by rfl) (by rfl)) (nomark _)) (bx_one (sx_ret (px_meth F_State_in_phase T.cs hr (by decide) (px_var (i := 0)) (ax_cons (px_str (s := [111, 112, 101, 114, 97, 110, 100]) (by rfl) (by rfl)) ax_nil)))) bx_nil)
    (bx_cons (sx_if (WX.tx (wx_or (tx_cmp (op_dEq hu) (px_var (i := 2)) (px_str (s := [108, 101, 115, 115]) (by rfl) (by rfl)) (nomark _)) (wx_or1 (WX.tx (wx_and (tx_cmp (op_dEq hu) (px_var (i := 2)) (px_str (s := [101, 113, 117, 97, 108]) (by rfl) (by rfl)) (nomark _)) (wx_and1 (tx_val (px_call F_may_assign hr (by decide) (ax_cons (px_var (i := 0)) (ax_cons (px_fld .ph T.cs (px_var (i := 0))) ax_nil)))))))))) (bx_one (sx_ret (px_call F_after_plain hr (by decide) (ax_cons (px_meth F_State_in_phase T.cs hr (by decide) (px_var (i := 0)) (ax_cons (px_str (s := [111, 112, 101, 114, 97, 110, 100]) (by rfl) (by rfl)) ax_nil)) (ax_cons (px_var (i := 1)) ax_nil))))) bx_nil)
    (bx_one (sx_ret px_non)))))
theorem F_after_operator {P : Program} {w : World} {K : PySem.W.Frag} {mg : Str → Option Value} {base : Heap} {C : Addr} (T : Top P w K mg base C) : FnC P w K mg base C 12 "after_operator" m_after_operator :=
  fnc (N := ["state", "sign", "word"]) (ps := ["state", "sign"]) (k := 11) T.d_after_operator sc_after_operator rfl rfl (fun _ _ _ _ _ _ us hl => match us, hl with | [_, _], _ => rfl) (bx_after_operator T)
theorem sc_after_word_sign : FnScope ["state", "sign", "word", "behind"] ["state", "sign"] (defScope (top 35)) := ⟨rfl, rfl, rfl, by decide +kernel, rfl, by decide +kernel, by decide +kernel⟩
theorem bx_after_word_sign {P : Program} {w : World} {K : PySem.W.Frag} {mg : Str → Option Value} {base : Heap} {C : Addr} (T : Top P w K mg base C) (f : Addr) (cdv : Value) (A : Around) (outer : List Env) (s : Shared) (H : Hp) (E : XK) (hr : Room 11 (A.deeper (envOfC "after_word_sign" (defScope (top 35)) s.heap.objs.size f cdv))) :
    BX C (CxD P w K mg base ["state", "sign", "word", "behind"] "after_word_sign" (defScope (top 35)) f cdv A outer s H E) (defBody (top 35)) b_after_word_sign := by
    have S := sc_after_word_sign
    have hu := hr.units
    have F_State_is_prefix := F_State_is_prefix T
    have F_State_with_token := F_State_with_token T
    have F_after_plain := F_after_plain T
    have F_after_word := F_after_word T 3
    exact (bx_cons (sx_set (i := 2) S.nd (px_ix (px_fld .tk T.cs (px_var (i := 0))) px_int))
    (bx_cons (sx_if (WX.tx (wx_or (tx_cmp op_dIn (px_var (i := 1)) (px_glob T.g_LETTERS) (by rfl)) (wx_or1 (tx_cmp op_dIn (px_var (i := 1)) (px_glob T.g_DIGITS_states) (by rfl))))) (bx_one (sx_ret (px_ifExp (tx_val (px_meth F_State_is_prefix T.cs hr (by decide) (px_var (i := 0)) (ax_cons (px_op op_dAdd (px_var (i := 2)) (px_var (i := 1))) ax_nil))) (px_meth F_State_with_token T.cs hr (by decide) (px_var (i := 0)) (ax_cons (px_str (s := [119, 111, 114, 100]) (by rfl) (by rfl)) (ax_cons (px_op op_dAdd (px_var (i := 2)) (px_var (i := 1))) ax_nil))) px_non))) bx_nil)
    (bx_cons (sx_set (i := 3) S.nd (px_call F_after_word hr (by decide) (ax_cons (px_var (i := 0)) (ax_cons (px_var (i := 2)) ax_nil))))
    (bx_one (sx_ret (px_ifExp (tx_cmp op_dIs (px_var (i := 3)) px_non (nomark _)) px_non (px_call F_after_plain hr (by decide) (ax_cons (px_var (i := 3)) (ax_cons (px_var (i := 1)) ax_nil)))))))))
theorem F_after_word_sign {P : Program} {w : World} {K : PySem.W.Frag} {mg : Str → Option Value} {base : Heap} {C : Addr} (T : Top P w K mg base C) : FnC P w K mg base C 12 "after_word_sign" m_after_word_sign :=
  fnc (N := ["state", "sign", "word", "behind"]) (ps := ["state", "sign"]) (k := 11) T.d_after_word_sign sc_after_word_sign rfl rfl (fun _ _ _ _ _ _ us hl => match us, hl with | [_, _], _ => rfl) (bx_after_word_sign T)
theorem sc_after_number : FnScope ["state", "sign"] ["state", "sign"] (defScope (top 36)) := ⟨rfl, rfl, rfl, by decide +kernel, rfl, by decide +kernel, by decide +kernel⟩
theorem bx_after_number {P : Program} {w : World} {K : PySem.W.Frag} {mg : Str → Option Value} {base : Heap} {C : Addr} (T : Top P w K mg base C) (f : Addr) (cdv : Value) (A : Around) (outer : List Env) (s : Shared) (H : Hp) (E : XK) (hr : Room 11 (A.deeper (envOfC "after_number" (defScope (top 36)) s.heap.objs.size f cdv))) :
    BX C (CxD P w K mg base ["state", "sign"] "after_number" (defScope (top 36)) f cdv A outer s H E) (defBody (top 36)) b_after_number := by
    have S := sc_after_number
    have hu := hr.units
    have F_State_in_phase := F_State_in_phase T
    have F_after_plain := F_after_plain T
    exact (bx_cons (sx_if (WX.tx (wx_and (tx_cmp op_dIn (px_var (i := 1)) (px_glob T.g_DIGITS_states) (by rfl)) (wx_and1 (tx_cmp (op_dEq hu) (px_ix (px_fld .tk T.cs (px_var (i := 0))) px_int) (px_str (s := [49]) (by rfl) (by rfl)) (nomark _))))) (bx_one (sx_ret (px_var (i := 0)))) bx_nil)
    (bx_cons (sx_if (WX.tx (wx_or (tx_cmp op_dIn (px_var (i := 1)) (px_glob T.g_LETTERS) (by rfl)) (wx_or1 (tx_cmp op_dIn (px_var (i := 1)) (px_glob T.g_DIGITS_states) (by rfl))))) (bx_one (sx_ret px_non)) bx_nil)
    (bx_one (sx_ret (px_call F_after_plain hr (by decide) (ax_cons (px_meth F_State_in_phase T.cs hr (by decide) (px_var (i := 0)) (ax_cons (px_str (s := [115, 101, 97, 108, 101, 100]) (by rfl) (by rfl)) ax_nil)) (ax_cons (px_var (i := 1)) ax_nil)))))))
theorem F_after_number {P : Program} {w : World} {K : PySem.W.Frag} {mg : Str → Option Value} {base : Heap} {C : Addr} (T : Top P w K mg base C) : FnC P w K mg base C 12 "after_number" m_after_number :=
  fnc (N := ["state", "sign"]) (ps := ["state", "sign"]) (k := 11) T.d_after_number sc_after_number rfl rfl (fun _ _ _ _ _ _ us hl => match us, hl with | [_, _], _ => rfl) (bx_after_number T)
theorem sc_after_quote : FnScope ["state", "sign", "word", "quote", "behind"] ["state", "sign"] (defScope (top 37)) := ⟨rfl, rfl, rfl, by decide +kernel, rfl, by decide +kernel, by decide +kernel⟩
theorem bx_after_quote {P : Program} {w : World} {K : PySem.W.Frag} {mg : Str → Option Value} {base : Heap} {C : Addr} (T : Top P w K mg base C) (f : Addr) (cdv : Value) (A : Around) (outer : List Env) (s : Shared) (H : Hp) (E : XK) (hr : Room 11 (A.deeper (envOfC "after_quote" (defScope (top 37)) s.heap.objs.size f cdv))) :
    BX C (CxD P w K mg base ["state", "sign", "word", "quote", "behind"] "after_quote" (defScope (top 37)) f cdv A outer s H E) (defBody (top 37)) b_after_quote := by
    have S := sc_after_quote
    have hu := hr.units
    have F_State_in_phase := F_State_in_phase T
    have F_State_with_token := F_State_with_token T
    have F_after_plain := F_after_plain T
    have F_after_short := F_after_short T
    exact (bx_cons (sx_unp rfl (gx_cons 2 S.nd (gx_cons 3 S.nd (gx_cons 4 S.nd gx_nil))) (px_fld .tk T.cs (px_var (i := 0))))
    (bx_cons (sx_if (tx_cmp (op_dEq hu) (px_var (i := 2)) (px_str (s := [101, 109, 112, 116, 121]) (by rfl) (by rfl)) (nomark _)) (bx_cons (sx_if (tx_cmp (op_dEq hu) (px_var (i := 1)) (px_var (i := 3)) (nomark _)) (bx_one (sx_ret (px_meth F_State_with_token T.cs hr (by decide) (px_var (i := 0)) (ax_cons (px_str (s := [108, 111, 110, 103]) (by rfl) (by rfl)) (ax_cons (px_var (i := 3)) (ax_cons (px_var (i := 4)) (ax_cons px_int (ax_cons px_bl ax_nil)))))))) bx_nil)
    (bx_one (sx_ret (px_call F_after_plain hr (by decide) (ax_cons (px_meth F_State_in_phase T.cs hr (by decide) (px_var (i := 0)) (ax_cons (px_var (i := 4)) ax_nil)) (ax_cons (px_var (i := 1)) ax_nil)))))) bx_nil)
    (bx_cons (sx_if (tx_cmp (op_dEq hu) (px_var (i := 1)) (px_var (i := 3)) (nomark _)) (bx_one (sx_ret (px_meth F_State_with_token T.cs hr (by decide) (px_var (i := 0)) (ax_cons (px_str (s := [101, 109, 112, 116, 121]) (by rfl) (by rfl)) (ax_cons (px_var (i := 3)) (ax_cons (px_var (i := 4)) ax_nil)))))) bx_nil)
    (bx_one (sx_ret (px_call F_after_short hr (by decide) (ax_cons (px_meth F_State_with_token T.cs hr (by decide) (px_var (i := 0)) (ax_cons (px_str (s := [115, 104, 111, 114, 116]) (by rfl) (by rfl)) (ax_cons (px_var (i := 3)) (ax_cons (px_var (i := 4)) (ax_cons px_bl ax_nil))))) (ax_cons (px_var (i := 1)) ax_nil))))))))
theorem F_after_quote {P : Program} {w : World} {K : PySem.W.Frag} {mg : Str → Option Value} {base : Heap} {C : Addr} (T : Top P w K mg base C) : FnC P w K mg base C 12 "after_quote" m_after_quote :=
  fnc (N := ["state", "sign", "word", "quote", "behind"]) (ps := ["state", "sign"]) (k := 11) T.d_after_quote sc_after_quote rfl rfl (fun _ _ _ _ _ _ us hl => match us, hl with | [_, _], _ => rfl) (bx_after_quote T)
theorem sc_after_token : FnScope ["state", "sign"] ["state", "sign"] (defScope (top 38)) := ⟨rfl, rfl, rfl, by decide +kernel, rfl, by decide +kernel, by decide +kernel⟩
theorem bx_after_token {P : Program} {w : World} {K : PySem.W.Frag} {mg : Str → Option Value} {base : Heap} {C : Addr} (T : Top P w K mg base C) (f : Addr) (cdv : Value) (A : Around) (outer : List Env) (s : Shared) (H : Hp) (E : XK) (hr : Room 12 (A.deeper (envOfC "after_token" (defScope (top 38)) s.heap.objs.size f cdv))) :
    BX C (CxD P w K mg base ["state", "sign"] "after_token" (defScope (top 38)) f cdv A outer s H E) (defBody (top 38)) b_after_token := by
    have S := sc_after_token
    have hu := hr.units
    have F_State_in_phase := F_State_in_phase T
    have F_State_with_token := F_State_with_token T
    have F_after_long := F_after_long T
    have F_after_number := F_after_number T
    have F_after_operator := F_after_operator T
    have F_after_plain := F_after_plain T
    have F_after_quote := F_after_quote T
    have F_after_short := F_after_short T
    have F_after_template := F_after_template T
    have F_after_word_sign := F_after_word_sign T
    exact (bx_cons (sx_match (px_ix (px_fld .tk T.cs (px_var (i := 0))) px_int) (mx_case (pat_one (t := [119, 111, 114, 100]) (by rfl)) (bx_one (sx_ret (px_call F_after_word_sign hr (by decide) (ax_cons (px_var (i := 0)) (ax_cons (px_var (i := 1)) ax_nil)))))
    (mx_case (pat_one (t := [110, 117, 109, 98, 101, 114]) (by rfl)) (bx_one (sx_ret (px_call F_after_number hr (by decide) (ax_cons (px_var (i := 0)) (ax_cons (px_var (i := 1)) ax_nil)))))
    (mx_case (pat_one (t := [115, 104, 111, 114, 116]) (by rfl)) (bx_one (sx_ret (px_call F_after_short hr (by decide) (ax_cons (px_var (i := 0)) (ax_cons (px_var (i := 1)) ax_nil)))))
    (mx_case (pat_one (t := [108, 111, 110, 103]) (by rfl)) (bx_one (sx_ret (px_call F_after_long hr (by decide) (ax_cons (px_var (i := 0)) (ax_cons (px_var (i := 1)) ax_nil)))))
    (mx_case (pat_one (t := [116, 101, 109, 112, 108, 97, 116, 101]) (by rfl)) (bx_one (sx_ret (px_call F_after_template hr (by decide) (ax_cons (px_var (i := 0)) (ax_cons (px_var (i := 1)) ax_nil)))))
    (mx_case (pat_or (pats_cons (t := [113, 117, 111, 116, 101]) (by rfl) (pats_cons (t := [101, 109, 112, 116, 121]) (by rfl) pats_nil))) (bx_one (sx_ret (px_call F_after_quote hr (by decide) (ax_cons (px_var (i := 0)) (ax_cons (px_var (i := 1)) ax_nil)))))
    (mx_case (pat_or (pats_cons (t := [108, 101, 115, 115]) (by rfl) (pats_cons (t := [101, 113, 117, 97, 108]) (by rfl) (pats_cons (t := [98, 97, 110, 103]) (by rfl) pats_nil)))) (bx_one (sx_ret (px_call F_after_operator hr (by decide) (ax_cons (px_var (i := 0)) (ax_cons (px_var (i := 1)) ax_nil)))))
    (mx_case (pat_one (t := [100, 111, 108, 108, 97, 114]) (by rfl)) (bx_one (sx_ret (px_ifExp (tx_cmp (op_dEq hu) (px_var (i := 1)) (px_str (s := [34]) (by rfl) (by rfl)) (nomark _)) (px_meth F_State_with_token T.cs hr (by decide) (px_var (i := 0)) (ax_cons (px_str (s := [116, 101, 109, 112, 108, 97, 116, 101]) (by rfl) (by rfl)) (ax_cons (px_ix (px_fld .tk T.cs (px_var (i := 0))) px_int) (ax_cons px_bl ax_nil)))) px_non)))
    (mx_case (pat_one (t := [106, 111, 105, 110]) (by rfl)) (bx_one (sx_ret (px_ifExp (tx_cmp (op_dEq hu) (px_var (i := 1)) (px_str (s := [10]) (by rfl) (by rfl)) (nomark _)) (px_meth F_State_in_phase T.cs hr (by decide) (px_var (i := 0)) (ax_cons (px_fld .ph T.cs (px_var (i := 0))) ax_nil)) px_non)))
    mx_nil))))))))))
    (bx_one (sx_ret (px_ifExp (tx_cmp (op_dEq hu) (px_var (i := 1)) (px_str (s := [10]) (by rfl) (by rfl)) (nomark _)) (px_call F_after_plain hr (by decide) (ax_cons (px_meth F_State_in_phase T.cs hr (by decide) (px_var (i := 0)) (ax_cons (px_fld .ph T.cs (px_var (i := 0))) ax_nil)) (ax_cons (px_var (i := 1)) ax_nil))) (px_var (i := 0))))))
theorem F_after_token {P : Program} {w : World} {K : PySem.W.Frag} {mg : Str → Option Value} {base : Heap} {C : Addr} (T : Top P w K mg base C) : FnC P w K mg base C 13 "after_token" m_after_token :=
  fnc (N := ["state", "sign"]) (ps := ["state", "sign"]) (k := 12) T.d_after_token sc_after_token rfl rfl (fun _ _ _ _ _ _ us hl => match us, hl with | [_, _], _ => rfl) (bx_after_token T)
end
end Rp
set_option Elab.async false
set_option linter.all false
set_option maxRecDepth 100000
set_option maxHeartbeats 4000000
namespace Rp
noncomputable section
open PySem PySem.Spec PyProof.Rows L2 SX
theorem sc_next_state : FnScope ["state", "sign"] ["state", "sign"] (defScope (top 46)) := ⟨rfl, rfl, rfl, by decide +kernel, rfl, by decide +kernel, by decide +kernel⟩
theorem bx_next_state {P : Program} {w : World} {K : PySem.W.Frag} {mg : Str → Option Value} {base : Heap} {C : Addr} (T : Top P w K mg base C) (f : Addr) (cdv : Value) (A : Around) (outer : List Env) (s : Shared) (H : Hp) (E : XK) (hr : Room 13 (A.deeper (envOfC "next_state" (defScope (top 46)) s.heap.objs.size f cdv))) :
    BX C (CxD P w K mg base ["state", "sign"] "next_state" (defScope (top 46)) f cdv A outer s H E) (defBody (top 46)) b_next_state := by
    have S := sc_next_state
    have hu := hr.units
    have F_State := F_State T
    have F_after_plain := F_after_plain T
    have F_after_token := F_after_token T
    exact (bx_cons (sx_if (tx_cmp (op_dEq hu) (px_fld .tk T.cs (px_var (i := 0))) (px_tup ax_nil) (nomark _)) (bx_one (sx_ret (px_call F_after_plain hr (by decide) (ax_cons (px_var (i := 0)) (ax_cons (px_var (i := 1)) ax_nil))))) bx_nil)
    (bx_cons (sx_if (WX.tx (wx_and (tx_cmp (op_dEq hu) (px_fld .tk T.cs (px_var (i := 0))) (px_tup (ax_cons (px_str (s := [99, 111, 109, 109, 101, 110, 116]) (by rfl) (by rfl)) ax_nil)) (nomark _)) (wx_and (tx_cmp (op_dEq hu) (px_ix (px_fld .gl T.cs (px_var (i := 0))) px_int) (px_str (s := [115, 116, 97, 114, 116]) (by rfl) (by rfl)) (nomark _)) (wx_and1 (tx_cmp (op_dEq hu) (px_var (i := 1)) (px_str (s := [10]) (by rfl) (by rfl)) (nomark _)))))) (bx_one (sx_ret (px_make F_State hr (by decide) (ax_cons (px_fld .lv T.cs (px_var (i := 0))) (ax_cons (px_tup (ax_cons (px_str (s := [115, 116, 97, 114, 116]) (by rfl) (by rfl)) (ax_cons px_int (ax_cons (px_ix (px_fld .gl T.cs (px_var (i := 0))) px_int) ax_nil)))) ax_nil))))) bx_nil)
    (bx_one (sx_ret (px_call F_after_token hr (by decide) (ax_cons (px_var (i := 0)) (ax_cons (px_var (i := 1)) ax_nil)))))))
theorem F_next_state {P : Program} {w : World} {K : PySem.W.Frag} {mg : Str → Option Value} {base : Heap} {C : Addr} (T : Top P w K mg base C) : FnC P w K mg base C 14 "next_state" m_next_state :=
  fnc (N := ["state", "sign"]) (ps := ["state", "sign"]) (k := 13) T.d_next_state sc_next_state rfl rfl (fun _ _ _ _ _ _ us hl => match us, hl with | [_, _], _ => rfl) (bx_next_state T)
theorem sc_state_behind : FnScope ["state", "text", "place", "sign", "behind"] ["state", "text"] (defScope (top 48)) := ⟨rfl, rfl, rfl, by decide +kernel, rfl, by decide +kernel, by decide +kernel⟩
theorem bx_state_behind {P : Program} {w : World} {K : PySem.W.Frag} {mg : Str → Option Value} {base : Heap} {C : Addr} (T : Top P w K mg base C) (f : Addr) (cdv : Value) (A : Around) (outer : List Env) (s : Shared) (H : Hp) (E : XK) (hr : Room 14 (A.deeper (envOfC "state_behind" (defScope (top 48)) s.heap.objs.size f cdv))) :
    BX C (CxD P w K mg base ["state", "text", "place", "sign", "behind"] "state_behind" (defScope (top 48)) f cdv A outer s H E) (defBody (top 48)) b_state_behind := by
    have S := sc_state_behind
    have hu := hr.units
    have F_next_state := F_next_state T
    exact (bx_cons (sx_for PassesOwn.never rfl (ix_enumS T.enumerate (px_var (i := 1))) (tg_tup rfl (gx_cons 2 S.nd (gx_cons 3 S.nd gx_nil))) (bx_cons (sx_set (i := 4) S.nd (px_call F_next_state hr (by decide) (ax_cons (px_var (i := 0)) (ax_cons (px_var (i := 3)) ax_nil))))
    (bx_cons (sx_if (tx_cmp op_dIs (px_var (i := 4)) px_non (nomark _)) (bx_one (sx_ret (px_tup (ax_cons px_non (ax_cons (px_var (i := 2)) ax_nil))))) bx_nil)
    (bx_one (sx_set (i := 0) S.nd (px_var (i := 4)))))))
    (bx_one (sx_ret (px_tup (ax_cons (px_var (i := 0)) (ax_cons (px_callB cl_len (by rfl) T.len (by decide +kernel) (ax_cons (px_var (i := 1)) ax_nil)) ax_nil))))))
theorem F_state_behind {P : Program} {w : World} {K : PySem.W.Frag} {mg : Str → Option Value} {base : Heap} {C : Addr} (T : Top P w K mg base C) : FnC P w K mg base C 15 "state_behind" m_state_behind :=
  fnc (N := ["state", "text", "place", "sign", "behind"]) (ps := ["state", "text"]) (k := 14) T.d_state_behind sc_state_behind rfl rfl (fun _ _ _ _ _ _ us hl => match us, hl with | [_, _], _ => rfl) (bx_state_behind T)
theorem sc_state_of : FnScope ["text"] ["text"] (defScope (top 49)) := ⟨rfl, rfl, rfl, by decide +kernel, rfl, by decide +kernel, by decide +kernel⟩
theorem bx_state_of {P : Program} {w : World} {K : PySem.W.Frag} {mg : Str → Option Value} {base : Heap} {C : Addr} (T : Top P w K mg base C) (f : Addr) (cdv : Value) (A : Around) (outer : List Env) (s : Shared) (H : Hp) (E : XK) (hr : Room 15 (A.deeper (envOfC "state_of" (defScope (top 49)) s.heap.objs.size f cdv))) :
    BX C (CxD P w K mg base ["text"] "state_of" (defScope (top 49)) f cdv A outer s H E) (defBody (top 49)) b_state_of := by
    have S := sc_state_of
    have hu := hr.units
    have F_State := F_State T
    have F_state_behind := F_state_behind T
    exact (bx_one (sx_ret (px_call F_state_behind hr (by decide) (ax_cons (px_make0 F_State hr (by decide)) (ax_cons (px_var (i := 0)) ax_nil)))))
theorem F_state_of {P : Program} {w : World} {K : PySem.W.Frag} {mg : Str → Option Value} {base : Heap} {C : Addr} (T : Top P w K mg base C) : FnC P w K mg base C 16 "state_of" m_state_of :=
  fnc (N := ["text"]) (ps := ["text"]) (k := 15) T.d_state_of sc_state_of rfl rfl (fun _ _ _ _ _ _ us hl => match us, hl with | [_], _ => rfl) (bx_state_of T)
theorem sc_is_entry_state : FnScope ["state"] ["state"] (defScope (top 50)) := ⟨rfl, rfl, rfl, by decide +kernel, rfl, by decide +kernel, by decide +kernel⟩
theorem bx_is_entry_state {P : Program} {w : World} {K : PySem.W.Frag} {mg : Str → Option Value} {base : Heap} {C : Addr} (T : Top P w K mg base C) (f : Addr) (cdv : Value) (A : Around) (outer : List Env) (s : Shared) (H : Hp) (E : XK) (hr : Room 0 (A.deeper (envOfC "is_entry_state" (defScope (top 50)) s.heap.objs.size f cdv))) :
    BX C (CxD P w K mg base ["state"] "is_entry_state" (defScope (top 50)) f cdv A outer s H E) (defBody (top 50)) b_is_entry_state := by
    have S := sc_is_entry_state
    have hu := hr.units
    exact (bx_one (sx_ret (px_cmp (op_dEq hu) (px_ix (px_fld .gl T.cs (px_var (i := 0))) px_int) (px_str (s := [100, 111, 110, 101]) (by rfl) (by rfl)) (nomark _))))
theorem F_is_entry_state {P : Program} {w : World} {K : PySem.W.Frag} {mg : Str → Option Value} {base : Heap} {C : Addr} (T : Top P w K mg base C) : FnC P w K mg base C 1 "is_entry_state" m_is_entry_state :=
  fnc (N := ["state"]) (ps := ["state"]) (k := 0) T.d_is_entry_state sc_is_entry_state rfl rfl (fun _ _ _ _ _ _ us hl => match us, hl with | [_], _ => rfl) (bx_is_entry_state T)
theorem sc_run_on : FnScope ["state", "text", "sign"] ["state", "text"] (defScope (top 53)) := ⟨rfl, rfl, rfl, by decide +kernel, rfl, by decide +kernel, by decide +kernel⟩
theorem bx_run_on {P : Program} {w : World} {K : PySem.W.Frag} {mg : Str → Option Value} {base : Heap} {C : Addr} (T : Top P w K mg base C) (f : Addr) (cdv : Value) (A : Around) (outer : List Env) (s : Shared) (H : Hp) (E : XK) (hr : Room 14 (A.deeper (envOfC "run_on" (defScope (top 53)) s.heap.objs.size f cdv))) :
    BX C (CxD P w K mg base ["state", "text", "sign"] "run_on" (defScope (top 53)) f cdv A outer s H E) (defBody (top 53)) b_run_on := by
    have S := sc_run_on
    have hu := hr.units
    have F_next_state := F_next_state T
    exact (bx_cons (sx_for PassesOwn.never rfl (ix_strD (px_var (i := 1))) (tg_name 2 S.nd) (bx_one (sx_set (i := 0) S.nd (px_ifExp (tx_cmp op_dIs (px_var (i := 0)) px_non (nomark _)) px_non (px_call F_next_state hr (by decide) (ax_cons (px_var (i := 0)) (ax_cons (px_var (i := 2)) ax_nil)))))))
    (bx_one (sx_ret (px_var (i := 0)))))
theorem F_run_on {P : Program} {w : World} {K : PySem.W.Frag} {mg : Str → Option Value} {base : Heap} {C : Addr} (T : Top P w K mg base C) : FnC P w K mg base C 15 "run_on" m_run_on :=
  fnc (N := ["state", "text", "sign"]) (ps := ["state", "text"]) (k := 14) T.d_run_on sc_run_on rfl rfl (fun _ _ _ _ _ _ us hl => match us, hl with | [_, _], _ => rfl) (bx_run_on T)
theorem sc_word_end : FnScope ["state", "word", "allowed", "found", "other"] ["state"] (defScope (top 54)) := ⟨rfl, rfl, rfl, by decide +kernel, rfl, by decide +kernel, by decide +kernel⟩
theorem bx_word_end {P : Program} {w : World} {K : PySem.W.Frag} {mg : Str → Option Value} {base : Heap} {C : Addr} (T : Top P w K mg base C) (f : Addr) (cdv : Value) (A : Around) (outer : List Env) (s : Shared) (H : Hp) (E : XK) (hr : Room 14 (A.deeper (envOfC "word_end" (defScope (top 54)) s.heap.objs.size f cdv))) :
    BX C (CxD P w K mg base ["state", "word", "allowed", "found", "other"] "word_end" (defScope (top 54)) f cdv A outer s H E) (defBody (top 54)) b_word_end := by
    have S := sc_word_end
    have hu := hr.units
    have F_next_state := F_next_state T
    exact (bx_cons (sx_set (i := 1) S.nd (px_ix (px_fld .tk T.cs (px_var (i := 0))) px_int))
    (bx_cons (sx_if (tx_cmp op_dIn (px_fld .ph T.cs (px_var (i := 0))) (px_glob T.g_ANY_WORD) (by rfl)) (bx_one (sx_ret (px_ifExp (tx_cmp op_dIsNot (px_call F_next_state hr (by decide) (ax_cons (px_var (i := 0)) (ax_cons (px_str (s := [32]) (by rfl) (by rfl)) ax_nil))) px_non (nomark _)) (px_str (s := [32]) (by rfl) (by rfl)) (px_str (s := [120, 32]) (by rfl) (by rfl))))) bx_nil)
    (bx_cons (sx_if (tx_cmp op_dIn (px_fld .ph T.cs (px_var (i := 0))) (px_glob T.g_DONE) (by rfl)) (bx_one (sx_set (i := 2) S.nd (px_glob T.g_BINARY_WORDS))) (bx_one (sx_set (i := 2) S.nd (px_ifExp (tx_cmp (op_dEq hu) (px_fld .ph T.cs (px_var (i := 0))) (px_str (s := [102, 111, 114, 105, 110]) (by rfl) (by rfl)) (nomark _)) (px_tup (ax_cons (px_str (s := [105, 110]) (by rfl) (by rfl)) ax_nil)) (px_kix T.g_CLAUSES (px_ix (px_fld .gl T.cs (px_var (i := 0))) px_int))))))
    (bx_cons (sx_setlc1 3 4 rfl S.nd (ix_tupD (px_var (i := 2))) rfl (blkOk_by (N := ["state", "word", "allowed", "found", "other"]) (sc := defScope (top 54)) (by decide +kernel)) (fun _ _ _ _ _ => pg_name (i := 4) S.nd rfl (Or.inl rfl)) (fun _ _ _ _ _ => (tx_val (px_startswith (px_var (i := 4)) (px_var (i := 1))))) (fun _ _ _ _ _ => (px_var (i := 4))))
    (bx_one (sx_ret (px_op op_dAdd (px_sl (px_ix (px_var (i := 3)) px_int) (ox_some (px_callB cl_len (by rfl) T.len (by decide +kernel) (ax_cons (px_var (i := 1)) ax_nil))) ox_none) (px_str (s := [32]) (by rfl) (by rfl)))))))))
theorem F_word_end {P : Program} {w : World} {K : PySem.W.Frag} {mg : Str → Option Value} {base : Heap} {C : Addr} (T : Top P w K mg base C) : FnC P w K mg base C 15 "word_end" m_word_end :=
  fnc (N := ["state", "word", "allowed", "found", "other"]) (ps := ["state"]) (k := 14) T.d_word_end sc_word_end rfl rfl (fun _ _ _ _ _ _ us hl => match us, hl with | [_], _ => rfl) (bx_word_end T)
theorem sc_token_end : FnScope ["state", "word", "token"] ["state"] (defScope (top 55)) := ⟨rfl, rfl, rfl, by decide +kernel, rfl, by decide +kernel, by decide +kernel⟩
theorem bx_token_end {P : Program} {w : World} {K : PySem.W.Frag} {mg : Str → Option Value} {base : Heap} {C : Addr} (T : Top P w K mg base C) (f : Addr) (cdv : Value) (A : Around) (outer : List Env) (s : Shared) (H : Hp) (E : XK) (hr : Room 15 (A.deeper (envOfC "token_end" (defScope (top 55)) s.heap.objs.size f cdv))) :
    BX C (CxD P w K mg base ["state", "word", "token"] "token_end" (defScope (top 55)) f cdv A outer s H E) (defBody (top 55)) b_token_end := by
    have S := sc_token_end
    have hu := hr.units
    have F_next_state := F_next_state T
    have F_word_end := F_word_end T
    exact (bx_cons (sx_par (i := 1) (j := 2) rfl S.nd (px_ix (px_fld .tk T.cs (px_var (i := 0))) px_int) (px_fld .tk T.cs (px_var (i := 0))))
    (bx_cons (sx_if (tx_cmp (op_dEq hu) (px_var (i := 1)) (px_str (s := [119, 111, 114, 100]) (by rfl) (by rfl)) (nomark _)) (bx_one (sx_ret (px_call F_word_end hr (by decide) (ax_cons (px_var (i := 0)) ax_nil)))) bx_nil)
    (bx_cons (sx_if (tx_cmp (op_dEq hu) (px_var (i := 1)) (px_str (s := [113, 117, 111, 116, 101]) (by rfl) (by rfl)) (nomark _)) (bx_one (sx_ret (px_ix (px_var (i := 2)) px_int))) bx_nil)
    (bx_cons (sx_if (tx_cmp (op_dEq hu) (px_var (i := 1)) (px_str (s := [115, 104, 111, 114, 116]) (by rfl) (by rfl)) (nomark _)) (bx_one (sx_ret (px_ifExp (tx_val (px_ix (px_var (i := 2)) px_int)) (px_op op_dAdd (px_str (s := [120]) (by rfl) (by rfl)) (px_ix (px_var (i := 2)) px_int)) (px_ix (px_var (i := 2)) px_int)))) bx_nil)
    (bx_cons (sx_if (tx_cmp (op_dEq hu) (px_var (i := 1)) (px_str (s := [108, 111, 110, 103]) (by rfl) (by rfl)) (nomark _)) (bx_one (sx_ret (px_ifExp (tx_val (px_ix (px_var (i := 2)) px_int)) (px_op op_dAdd (px_str (s := [120]) (by rfl) (by rfl)) (px_op op_dMul (px_ix (px_var (i := 2)) px_int) px_int)) (px_op op_dMul (px_ix (px_var (i := 2)) px_int) (px_op op_dSub px_int (px_ix (px_var (i := 2)) px_int)))))) bx_nil)
    (bx_cons (sx_if (tx_cmp (op_dEq hu) (px_var (i := 1)) (px_str (s := [116, 101, 109, 112, 108, 97, 116, 101]) (by rfl) (by rfl)) (nomark _)) (bx_one (sx_ret (px_ifExp (tx_val (px_ix (px_var (i := 2)) px_int)) (px_str (s := [120, 34]) (by rfl) (by rfl)) (px_str (s := [34]) (by rfl) (by rfl))))) bx_nil)
    (bx_cons (sx_if (tx_cmp op_dIn (px_var (i := 1)) (px_tup (ax_cons (px_str (s := [100, 111, 108, 108, 97, 114]) (by rfl) (by rfl)) (ax_cons (px_str (s := [106, 111, 105, 110]) (by rfl) (by rfl)) (ax_cons (px_str (s := [99, 111, 109, 109, 101, 110, 116]) (by rfl) (by rfl)) ax_nil)))) (by rfl)) (bx_one (sx_ret (px_ifExp (tx_cmp (op_dEq hu) (px_var (i := 1)) (px_str (s := [100, 111, 108, 108, 97, 114]) (by rfl) (by rfl)) (nomark _)) (px_str (s := [34]) (by rfl) (by rfl)) (px_str (s := [10]) (by rfl) (by rfl))))) bx_nil)
    (bx_one (sx_ret (px_ifExp (tx_cmp op_dIsNot (px_call F_next_state hr (by decide) (ax_cons (px_var (i := 0)) (ax_cons (px_str (s := [32]) (by rfl) (by rfl)) ax_nil))) px_non (nomark _)) (px_str (s := [32]) (by rfl) (by rfl)) (px_str (s := [61]) (by rfl) (by rfl))))))))))))
theorem F_token_end {P : Program} {w : World} {K : PySem.W.Frag} {mg : Str → Option Value} {base : Heap} {C : Addr} (T : Top P w K mg base C) : FnC P w K mg base C 16 "token_end" m_token_end :=
  fnc (N := ["state", "word", "token"]) (ps := ["state"]) (k := 15) T.d_token_end sc_token_end rfl rfl (fun _ _ _ _ _ _ us hl => match us, hl with | [_], _ => rfl) (bx_token_end T)
theorem sc_line_start : FnScope ["state", "word", "width", "need", "tries", "level"] ["state"] (defScope (top 56)) := ⟨rfl, rfl, rfl, by decide +kernel, rfl, by decide +kernel, by decide +kernel⟩
theorem bx_line_start {P : Program} {w : World} {K : PySem.W.Frag} {mg : Str → Option Value} {base : Heap} {C : Addr} (T : Top P w K mg base C) (f : Addr) (cdv : Value) (A : Around) (outer : List Env) (s : Shared) (H : Hp) (E : XK) (hr : Room 0 (A.deeper (envOfC "line_start" (defScope (top 56)) s.heap.objs.size f cdv))) :
    BX C (CxD P w K mg base ["state", "word", "width", "need", "tries", "level"] "line_start" (defScope (top 56)) f cdv A outer s H E) (defBody (top 56)) b_line_start := by
    have S := sc_line_start
    have hu := hr.units
    exact (bx_cons (sx_unp rfl (gx_cons 1 S.nd (gx_cons 2 S.nd (gx_cons 3 S.nd gx_nil))) (px_fld .gl T.cs (px_var (i := 0))))
    (bx_cons (sx_if (tx_cmp (op_dEq hu) (px_fld .lv T.cs (px_var (i := 0))) (px_tup ax_nil) (nomark _)) (bx_one (sx_ret (px_ifExp (tx_cmp (op_dEq hu) (px_var (i := 2)) px_int (nomark _)) (px_str (s := [48, 10]) (by rfl) (by rfl)) (px_str (s := [10]) (by rfl) (by rfl))))) bx_nil)
    (bx_cons (sx_if (tx_cmp (op_dNe hu) (px_var (i := 3)) (px_tup ax_nil) (nomark _)) (bx_one (sx_ret (px_op op_dAdd (px_op op_dMul (px_str (s := [32]) (by rfl) (by rfl)) (px_callB (cl_max rfl) (by rfl) T.max (by decide +kernel) (ax_cons px_int (ax_cons (px_op op_dSub (px_op op_dAdd (px_ix (px_ix (px_fld .lv T.cs (px_var (i := 0))) (px_neg px_int)) px_int) px_int) (px_var (i := 2))) ax_nil)))) (px_str (s := [48, 10]) (by rfl) (by rfl))))) bx_nil)
    (bx_cons (sx_setlc1 4 5 rfl S.nd (ix_tupD (px_fld .lv T.cs (px_var (i := 0)))) rfl (blkOk_by (N := ["state", "word", "width", "need", "tries", "level"]) (sc := defScope (top 56)) (by decide +kernel)) (fun _ _ _ _ _ => pg_name (i := 5) S.nd rfl (Or.inl rfl)) (fun _ _ _ _ _ => (tx_cmp (op_dEq hu) (px_ix (px_var (i := 5)) px_int) (px_str (s := [116, 114, 121]) (by rfl) (by rfl)) (nomark _))) (fun _ _ _ _ _ => (px_ix (px_var (i := 5)) px_int)))
    (bx_cons (sx_if (tx_cmp (op_dEq hu) (px_var (i := 4)) (px_lst ax_nil) (nomark _)) (bx_one (sx_ret (px_str (s := [10]) (by rfl) (by rfl)))) bx_nil)
    (bx_one (sx_ret (px_ifExp (tx_cmp op_dGt (px_var (i := 2)) (px_ix (px_var (i := 4)) (px_neg px_int)) (nomark _)) (px_str (s := [35, 10]) (by rfl) (by rfl)) (px_op op_dAdd (px_op op_dMul (px_str (s := [32]) (by rfl) (by rfl)) (px_op op_dSub (px_ix (px_var (i := 4)) (px_neg px_int)) (px_var (i := 2)))) (px_str (s := [102, 105, 110, 97, 108, 108, 121, 58, 48, 10]) (by rfl) (by rfl)))))))))))
theorem F_line_start {P : Program} {w : World} {K : PySem.W.Frag} {mg : Str → Option Value} {base : Heap} {C : Addr} (T : Top P w K mg base C) : FnC P w K mg base C 1 "line_start" m_line_start :=
  fnc (N := ["state", "word", "width", "need", "tries", "level"]) (ps := ["state"]) (k := 0) T.d_line_start sc_line_start rfl rfl (fun _ _ _ _ _ _ us hl => match us, hl with | [_], _ => rfl) (bx_line_start T)
theorem sc_phase_end : FnScope ["state", "phase", "kind"] ["state"] (defScope (top 57)) := ⟨rfl, rfl, rfl, by decide +kernel, rfl, by decide +kernel, by decide +kernel⟩
theorem bx_phase_end {P : Program} {w : World} {K : PySem.W.Frag} {mg : Str → Option Value} {base : Heap} {C : Addr} (T : Top P w K mg base C) (f : Addr) (cdv : Value) (A : Around) (outer : List Env) (s : Shared) (H : Hp) (E : XK) (hr : Room 1 (A.deeper (envOfC "phase_end" (defScope (top 57)) s.heap.objs.size f cdv))) :
    BX C (CxD P w K mg base ["state", "phase", "kind"] "phase_end" (defScope (top 57)) f cdv A outer s H E) (defBody (top 57)) b_phase_end := by
    have S := sc_phase_end
    have hu := hr.units
    have F_State_innermost := F_State_innermost T
    exact (bx_cons (sx_par (i := 1) (j := 2) rfl S.nd (px_fld .ph T.cs (px_var (i := 0))) (px_meth0 F_State_innermost T.cs hr (by decide) (px_var (i := 0))))
    (bx_cons (sx_if (tx_cmp op_dIn (px_var (i := 1)) (px_tup (ax_cons (px_str (s := [111, 112, 101, 114, 97, 110, 100]) (by rfl) (by rfl)) (ax_cons (px_str (s := [98, 101, 103, 105, 110]) (by rfl) (by rfl)) (ax_cons (px_str (s := [115, 117, 105, 116, 101]) (by rfl) (by rfl)) ax_nil)))) (by rfl)) (bx_one (sx_ret (px_str (s := [48]) (by rfl) (by rfl)))) bx_nil)
    (bx_cons (sx_if (tx_cmp op_dIn (px_var (i := 1)) (px_glob T.g_NAMES) (by rfl)) (bx_one (sx_ret (px_str (s := [120, 32]) (by rfl) (by rfl)))) bx_nil)
    (bx_cons (sx_if (WX.tx (wx_or (tx_cmp op_dIn (px_var (i := 1)) (px_tup (ax_cons (px_str (s := [102, 105, 114, 115, 116]) (by rfl) (by rfl)) (ax_cons (px_str (s := [97, 114, 103]) (by rfl) (by rfl)) (ax_cons (px_str (s := [112, 97, 114, 97, 109]) (by rfl) (by rfl)) (ax_cons (px_str (s := [112, 97, 114, 97, 109, 100, 111, 110, 101]) (by rfl) (by rfl)) ax_nil))))) (by rfl)) (wx_or1 (WX.tx (wx_and (tx_cmp op_dIn (px_var (i := 1)) (px_glob T.g_DONE) (by rfl)) (wx_and1 (tx_cmp op_dNotIn (px_var (i := 2)) (px_tup (ax_cons (px_str (s := []) (by rfl) (by rfl)) (ax_cons (px_str (s := [123, 107]) (by rfl) (by rfl)) ax_nil))) (by rfl)))))))) (bx_one (sx_ret (px_kix T.g_CLOSERS (px_var (i := 2))))) bx_nil)
    (bx_cons (sx_if (tx_cmp op_dIn (px_var (i := 1)) (px_glob T.g_DONE) (by rfl)) (bx_one (sx_ret (px_ifExp (WX.tx (wx_or (tx_cmp (op_dEq hu) (px_var (i := 2)) (px_str (s := [123, 107]) (by rfl) (by rfl)) (nomark _)) (wx_or1 (tx_cmp (op_dEq hu) (px_ix (px_fld .gl T.cs (px_var (i := 0))) px_int) (px_str (s := [104, 101, 97, 100]) (by rfl) (by rfl)) (nomark _))))) (px_str (s := [58]) (by rfl) (by rfl)) (px_str (s := [10]) (by rfl) (by rfl))))) bx_nil)
    (bx_one (sx_ret (px_get hu (px_dic (dx_cons (k := [102, 111, 114, 105, 110]) (by rfl) (by rfl) (px_str (s := [105, 110, 32]) (by rfl) (by rfl)) (dx_cons (k := [100, 101, 102, 111, 112, 101, 110]) (by rfl) (by rfl) (px_str (s := [40]) (by rfl) (by rfl)) (dx_cons (k := [99, 111, 108, 111, 110]) (by rfl) (by rfl) (px_str (s := [58]) (by rfl) (by rfl)) (dx_cons (k := [101, 120, 99, 101, 112, 116, 110, 97, 109, 101]) (by rfl) (by rfl) (px_str (s := [58]) (by rfl) (by rfl)) dx_nil))))) (px_var (i := 1)) (px_str (s := [10]) (by rfl) (by rfl))))))))))
theorem F_phase_end {P : Program} {w : World} {K : PySem.W.Frag} {mg : Str → Option Value} {base : Heap} {C : Addr} (T : Top P w K mg base C) : FnC P w K mg base C 2 "phase_end" m_phase_end :=
  fnc (N := ["state", "phase", "kind"]) (ps := ["state"]) (k := 1) T.d_phase_end sc_phase_end rfl rfl (fun _ _ _ _ _ _ us hl => match us, hl with | [_], _ => rfl) (bx_phase_end T)
theorem sc_completion_of : FnScope ["state", "found", "piece"] ["state"] (defScope (top 58)) := ⟨rfl, rfl, rfl, by decide +kernel, rfl, by decide +kernel, by decide +kernel⟩
theorem bx_completion_of {P : Program} {w : World} {K : PySem.W.Frag} {mg : Str → Option Value} {base : Heap} {C : Addr} (T : Top P w K mg base C) (f : Addr) (cdv : Value) (A : Around) (outer : List Env) (s : Shared) (H : Hp) (E : XK) (hr : Room 16 (A.deeper (envOfC "completion_of" (defScope (top 58)) s.heap.objs.size f cdv))) :
    BX C (CxD P w K mg base ["state", "found", "piece"] "completion_of" (defScope (top 58)) f cdv A outer s H E) (defBody (top 58)) b_completion_of := by
    have S := sc_completion_of
    have hu := hr.units
    have F_is_entry_state := F_is_entry_state T
    have F_line_start := F_line_start T
    have F_phase_end := F_phase_end T
    have F_run_on := F_run_on T
    have F_token_end := F_token_end T
    exact (bx_cons (sx_set (i := 1) S.nd (px_str (s := []) (by rfl) (by rfl)))
    (bx_cons (sx_while 60 PassesOwn.never (tx_not (tx_val (px_call F_is_entry_state hr (by decide) (ax_cons (px_var (i := 0)) ax_nil)))) (bx_cons (sx_if (tx_cmp (op_dNe hu) (px_fld .tk T.cs (px_var (i := 0))) (px_tup ax_nil) (nomark _)) (bx_one (sx_set (i := 2) S.nd (px_call F_token_end hr (by decide) (ax_cons (px_var (i := 0)) ax_nil)))) (bx_one (sx_set (i := 2) S.nd (px_ifExp (tx_cmp (op_dEq hu) (px_ix (px_fld .gl T.cs (px_var (i := 0))) px_int) (px_str (s := [115, 116, 97, 114, 116]) (by rfl) (by rfl)) (nomark _)) (px_call F_line_start hr (by decide) (ax_cons (px_var (i := 0)) ax_nil)) (px_call F_phase_end hr (by decide) (ax_cons (px_var (i := 0)) ax_nil))))))
    (bx_cons (sx_set (i := 1) S.nd (px_op op_dAdd (px_var (i := 1)) (px_var (i := 2))))
    (bx_one (sx_set (i := 0) S.nd (px_call F_run_on hr (by decide) (ax_cons (px_var (i := 0)) (ax_cons (px_var (i := 2)) ax_nil))))))))
    (bx_one (sx_ret (px_var (i := 1))))))
theorem F_completion_of {P : Program} {w : World} {K : PySem.W.Frag} {mg : Str → Option Value} {base : Heap} {C : Addr} (T : Top P w K mg base C) : FnC P w K mg base C 17 "completion_of" m_completion_of :=
  fnc (N := ["state", "found", "piece"]) (ps := ["state"]) (k := 16) T.d_completion_of sc_completion_of rfl rfl (fun _ _ _ _ _ _ us hl => match us, hl with | [_], _ => rfl) (bx_completion_of T)
theorem sc_lead_state : FnScope ["thing"] ["thing"] (defScope (top 63)) := ⟨rfl, rfl, rfl, by decide +kernel, rfl, by decide +kernel, by decide +kernel⟩
theorem bx_lead_state {P : Program} {w : World} {K : PySem.W.Frag} {mg : Str → Option Value} {base : Heap} {C : Addr} (T : Top P w K mg base C) (f : Addr) (cdv : Value) (A : Around) (outer : List Env) (s : Shared) (H : Hp) (E : XK) (hr : Room 16 (A.deeper (envOfC "lead_state" (defScope (top 63)) s.heap.objs.size f cdv))) :
    BX C (CxD P w K mg base ["thing"] "lead_state" (defScope (top 63)) f cdv A outer s H E) (defBody (top 63)) b_lead_state := by
    have S := sc_lead_state
    have hu := hr.units
    have F_is_text := F_is_text T
    have F_state_of := F_state_of T
    exact (bx_cons (sx_if (WX.tx (wx_or (tx_not (tx_val (px_call F_is_text hr (by decide) (ax_cons (px_var (i := 0)) ax_nil)))) (wx_or1 (WX.tx (wx_and (tx_cmp (op_dNe hu) (px_var (i := 0)) (px_str (s := []) (by rfl) (by rfl)) (nomark _)) (wx_and1 (tx_not (tx_val (px_endswith (px_var (i := 0)) (px_str (s := [10]) (by rfl) (by rfl))))))))))) (bx_one (sx_ret px_non)) bx_nil)
    (bx_one (sx_ret (px_ix (px_call F_state_of hr (by decide) (ax_cons (px_var (i := 0)) ax_nil)) px_int))))
theorem F_lead_state {P : Program} {w : World} {K : PySem.W.Frag} {mg : Str → Option Value} {base : Heap} {C : Addr} (T : Top P w K mg base C) : FnC P w K mg base C 17 "lead_state" m_lead_state :=
  fnc (N := ["thing"]) (ps := ["thing"]) (k := 16) T.d_lead_state sc_lead_state rfl rfl (fun _ _ _ _ _ _ us hl => match us, hl with | [_], _ => rfl) (bx_lead_state T)
theorem sc_need_lead : FnScope ["thing", "state"] ["thing"] (defScope (top 64)) := ⟨rfl, rfl, rfl, by decide +kernel, rfl, by decide +kernel, by decide +kernel⟩
theorem bx_need_lead {P : Program} {w : World} {K : PySem.W.Frag} {mg : Str → Option Value} {base : Heap} {C : Addr} (T : Top P w K mg base C) (f : Addr) (cdv : Value) (A : Around) (outer : List Env) (s : Shared) (H : Hp) (E : XK) (hr : Room 17 (A.deeper (envOfC "need_lead" (defScope (top 64)) s.heap.objs.size f cdv))) :
    BX C (CxD P w K mg base ["thing", "state"] "need_lead" (defScope (top 64)) f cdv A outer s H E) (defBody (top 64)) b_need_lead := by
    have S := sc_need_lead
    have hu := hr.units
    have F_lead_state := F_lead_state T
    exact (bx_cons (sx_set (i := 1) S.nd (px_call F_lead_state hr (by decide) (ax_cons (px_var (i := 0)) ax_nil)))
    (bx_cons (sx_if (tx_cmp op_dIs (px_var (i := 1)) px_non (nomark _)) (bx_one sx_no) bx_nil)
    (bx_one (sx_ret (px_var (i := 1))))))
theorem F_need_lead {P : Program} {w : World} {K : PySem.W.Frag} {mg : Str → Option Value} {base : Heap} {C : Addr} (T : Top P w K mg base C) : FnC P w K mg base C 18 "need_lead" m_need_lead :=
  fnc (N := ["thing", "state"]) (ps := ["thing"]) (k := 17) T.d_need_lead sc_need_lead rfl rfl (fun _ _ _ _ _ _ us hl => match us, hl with | [_], _ => rfl) (bx_need_lead T)
theorem sc_State_parts : FnScope ["self"] ["self"] (defScope (inClass (top 22) 1)) := ⟨rfl, rfl, rfl, by decide +kernel, rfl, by decide +kernel, by decide +kernel⟩
theorem bx_State_parts {P : Program} {w : World} {K : PySem.W.Frag} {mg : Str → Option Value} {base : Heap} {C : Addr} (T : Top P w K mg base C) (f : Addr) (cdv : Value) (A : Around) (outer : List Env) (s : Shared) (H : Hp) (E : XK) (hr : Room 0 (A.deeper (envOfC "State.parts" (defScope (inClass (top 22) 1)) s.heap.objs.size f cdv))) :
    BX C (CxD P w K mg base ["self"] "State.parts" (defScope (inClass (top 22) 1)) f cdv A outer s H E) (defBody (inClass (top 22) 1)) b_State_parts := by
    have S := sc_State_parts
    have hu := hr.units
    exact (bx_one (sx_ret (px_tup (ax_cons (px_fld .lv T.cs (px_var (i := 0))) (ax_cons (px_fld .gl T.cs (px_var (i := 0))) (ax_cons (px_fld .fr T.cs (px_var (i := 0))) (ax_cons (px_fld .ph T.cs (px_var (i := 0))) (ax_cons (px_fld .tk T.cs (px_var (i := 0))) ax_nil))))))))
theorem F_State_parts {P : Program} {w : World} {K : PySem.W.Frag} {mg : Str → Option Value} {base : Heap} {C : Addr} (T : Top P w K mg base C) : MtC P w K mg base C 1 "parts" m_State_parts :=
  mtc (N := ["self"]) (ps := ["self"]) (k := 0) T.e_parts sc_State_parts rfl rfl (fun _ _ _ _ _ _ us hl => match us, hl with | [_], _ => rfl) (bx_State_parts T)
theorem sc_are_alike : FnScope ["first", "second", "one", "other"] ["first", "second"] (defScope (top 65)) := ⟨rfl, rfl, rfl, by decide +kernel, rfl, by decide +kernel, by decide +kernel⟩
theorem bx_are_alike {P : Program} {w : World} {K : PySem.W.Frag} {mg : Str → Option Value} {base : Heap} {C : Addr} (T : Top P w K mg base C) (f : Addr) (cdv : Value) (A : Around) (outer : List Env) (s : Shared) (H : Hp) (E : XK) (hr : Room 18 (A.deeper (envOfC "are_alike" (defScope (top 65)) s.heap.objs.size f cdv))) :
    BX C (CxD P w K mg base ["first", "second", "one", "other"] "are_alike" (defScope (top 65)) f cdv A outer s H E) (defBody (top 65)) b_are_alike := by
    have S := sc_are_alike
    have hu := hr.units
    have F_State_parts := F_State_parts T
    have F_need_lead := F_need_lead T
    exact (bx_cons (sx_par (i := 2) (j := 3) rfl S.nd (px_call F_need_lead hr (by decide) (ax_cons (px_var (i := 0)) ax_nil)) (px_call F_need_lead hr (by decide) (ax_cons (px_var (i := 1)) ax_nil)))
    (bx_one (sx_ret (px_cmp (op_dEq hu) (px_meth0 F_State_parts T.cs hr (by decide) (px_var (i := 2))) (px_meth0 F_State_parts T.cs hr (by decide) (px_var (i := 3))) (nomark _)))))
theorem F_are_alike {P : Program} {w : World} {K : PySem.W.Frag} {mg : Str → Option Value} {base : Heap} {C : Addr} (T : Top P w K mg base C) : FnC P w K mg base C 19 "are_alike" m_are_alike :=
  fnc (N := ["first", "second", "one", "other"]) (ps := ["first", "second"]) (k := 18) T.d_are_alike sc_are_alike rfl rfl (fun _ _ _ _ _ _ us hl => match us, hl with | [_, _], _ => rfl) (bx_are_alike T)
theorem sc_pieces_for : FnScope ["one", "other", "more"] ["one", "other"] (defScope (top 67)) := ⟨rfl, rfl, rfl, by decide +kernel, rfl, by decide +kernel, by decide +kernel⟩
theorem bx_pieces_for {P : Program} {w : World} {K : PySem.W.Frag} {mg : Str → Option Value} {base : Heap} {C : Addr} (T : Top P w K mg base C) (f : Addr) (cdv : Value) (A : Around) (outer : List Env) (s : Shared) (H : Hp) (E : XK) (hr : Room 1 (A.deeper (envOfC "pieces_for" (defScope (top 67)) s.heap.objs.size f cdv))) :
    BX C (CxD P w K mg base ["one", "other", "more"] "pieces_for" (defScope (top 67)) f cdv A outer s H E) (defBody (top 67)) b_pieces_for := by
    have S := sc_pieces_for
    have hu := hr.units
    have F_rows_for := F_rows_for T
    exact (bx_cons (sx_if (WX.tx (wx_and (tx_cmp (op_dEq hu) (px_ix (px_fld .gl T.cs (px_var (i := 0))) px_int) (px_str (s := [115, 116, 97, 114, 116]) (by rfl) (by rfl)) (nomark _)) (wx_and1 (tx_cmp (op_dEq hu) (px_ix (px_fld .gl T.cs (px_var (i := 1))) px_int) (px_str (s := [115, 116, 97, 114, 116]) (by rfl) (by rfl)) (nomark _))))) (bx_one (sx_ret (px_call F_rows_for hr (by decide) (ax_cons (px_var (i := 0)) (ax_cons (px_var (i := 1)) ax_nil))))) bx_nil)
    (bx_cons (sx_set (i := 2) S.nd (px_ifExp (tx_cmp op_dIn (px_str (s := [100, 101, 102, 111, 112, 101, 110]) (by rfl) (by rfl)) (px_tup (ax_cons (px_fld .ph T.cs (px_var (i := 0))) (ax_cons (px_fld .ph T.cs (px_var (i := 1))) ax_nil))) (by rfl)) (px_tup (ax_cons (px_str (s := [40]) (by rfl) (by rfl)) ax_nil)) (px_tup ax_nil)))
    (bx_one (sx_ret (px_op op_dAdd (px_op op_dAdd (px_glob T.g_PIECES) (px_glob T.g_WORDS)) (px_var (i := 2)))))))
theorem F_pieces_for {P : Program} {w : World} {K : PySem.W.Frag} {mg : Str → Option Value} {base : Heap} {C : Addr} (T : Top P w K mg base C) : FnC P w K mg base C 2 "pieces_for" m_pieces_for :=
  fnc (N := ["one", "other", "more"]) (ps := ["one", "other"]) (k := 1) T.d_pieces_for sc_pieces_for rfl rfl (fun _ _ _ _ _ _ us hl => match us, hl with | [_, _], _ => rfl) (bx_pieces_for T)
theorem sc_told_apart : FnScope ["one", "other", "path", "found", "piece", "far", "near"] ["one", "other", "path"] (defScope (top 68)) := ⟨rfl, rfl, rfl, by decide +kernel, rfl, by decide +kernel, by decide +kernel⟩
theorem bx_told_apart {P : Program} {w : World} {K : PySem.W.Frag} {mg : Str → Option Value} {base : Heap} {C : Addr} (T : Top P w K mg base C) (f : Addr) (cdv : Value) (A : Around) (outer : List Env) (s : Shared) (H : Hp) (E : XK) (hr : Room 17 (A.deeper (envOfC "told_apart" (defScope (top 68)) s.heap.objs.size f cdv))) :
    LB 3 C (CxD P w K mg base ["one", "other", "path", "found", "piece", "far", "near"] "told_apart" (defScope (top 68)) f cdv A outer s H E) (defBody (top 68)) b_told_apart := by
    have S := sc_told_apart
    have hu := hr.units
    have F_State_parts := F_State_parts T
    have F_completion_of := F_completion_of T
    have F_is_entry_state := F_is_entry_state T
    have F_pieces_for := F_pieces_for T
    have F_run_on := F_run_on T
    exact (lb_cons (ls_if (tx_cmp (op_dNe hu) (px_call F_is_entry_state hr (by decide) (ax_cons (px_var (i := 0)) ax_nil)) (px_call F_is_entry_state hr (by decide) (ax_cons (px_var (i := 1)) ax_nil)) (nomark _)) (lb_one (ls_ret (px_var (i := 2)))) lb_nil)
    (lb_cons (ls_setF S.nd fx_nilX)
    (lb_cons (ls_for 4 PassesOwn.never rfl S.nd (px_call F_pieces_for hr (by decide) (ax_cons (px_var (i := 0)) (ax_cons (px_var (i := 1)) ax_nil))) (lb_cons (ls_par (j := 5) (k := 6) rfl S.nd (px_call F_run_on hr (by decide) (ax_cons (px_var (i := 0)) (ax_cons (px_var (i := 4)) ax_nil))) (px_call F_run_on hr (by decide) (ax_cons (px_var (i := 1)) (ax_cons (px_var (i := 4)) ax_nil))))
    (lb_cons (ls_if (WX.tx (wx_and (tx_cmp op_dIs (px_var (i := 5)) px_non (nomark _)) (wx_and1 (tx_cmp op_dIs (px_var (i := 6)) px_non (nomark _))))) (lb_one ls_cont) lb_nil)
    (lb_cons (ls_if (WX.tx (wx_or (tx_cmp op_dIs (px_var (i := 5)) px_non (nomark _)) (wx_or1 (tx_cmp op_dIs (px_var (i := 6)) px_non (nomark _))))) (lb_one (ls_ret (px_op op_dAdd (px_op op_dAdd (px_var (i := 2)) (px_var (i := 4))) (px_call F_completion_of hr (by decide) (ax_cons (px_ifExp (tx_cmp op_dIs (px_var (i := 5)) px_non (nomark _)) (px_var (i := 6)) (px_var (i := 5))) ax_nil))))) lb_nil)
    (lb_one (ls_if (tx_cmp (op_dNe hu) (px_meth0 F_State_parts T.cs hr (by decide) (px_var (i := 5))) (px_meth0 F_State_parts T.cs hr (by decide) (px_var (i := 6))) (nomark _)) (lb_one (ls_app (px_tup (ax_cons (px_var (i := 5)) (ax_cons (px_var (i := 6)) (ax_cons (px_op op_dAdd (px_var (i := 2)) (px_var (i := 4))) ax_nil)))) (pv 3))) lb_nil))))))
    (lb_one (ls_retOwn (pv 3))))))
theorem F_told_apart {P : Program} {w : World} {K : PySem.W.Frag} {mg : Str → Option Value} {base : Heap} {C : Addr} (T : Top P w K mg base C) : FnF P w K mg base C 18 "told_apart" m_told_apart :=
  fncF 3 (N := ["one", "other", "path", "found", "piece", "far", "near"]) (ps := ["one", "other", "path"]) (k := 17) T.d_told_apart sc_told_apart rfl rfl (by decide) (fun _ _ _ _ _ _ us hl => match us, hl with | [_, _, _], _ => rfl) (bx_told_apart T)
end
end Rp
set_option Elab.async false
set_option linter.all false
set_option maxRecDepth 100000
set_option maxHeartbeats 4000000
namespace Rp
noncomputable section
open PySem PySem.Spec PyProof.Rows L2 SX
theorem sc_nearest : FnScope ["waiting", "found", "fewest", "at", "row", "many"] ["waiting"] (defScope (top 69)) := ⟨rfl, rfl, rfl, by decide +kernel, rfl, by decide +kernel, by decide +kernel⟩
theorem bx_nearest {P : Program} {w : World} {K : PySem.W.Frag} {mg : Str → Option Value} {base : Heap} {C : Addr} (T : Top P w K mg base C) (f : Addr) (cdv : Value) (A : Around) (outer : List Env) (s : Shared) (H : Hp) (E : XK) (hr : Room 0 (A.deeper (envOfC "nearest" (defScope (top 69)) s.heap.objs.size f cdv))) :
    BX C (CxD P w K mg base ["waiting", "found", "fewest", "at", "row", "many"] "nearest" (defScope (top 69)) f cdv A outer s H E) (defBody (top 69)) b_nearest := by
    have S := sc_nearest
    have hu := hr.units
    exact (bx_cons (sx_unp rfl (gx_cons 1 S.nd (gx_cons 2 S.nd gx_nil)) (px_tup (ax_cons px_int (ax_cons px_non ax_nil))))
    (bx_cons (sx_for PassesOwn.never rfl (ix_enumL T.enumerate (px_var (i := 0))) (tg_tup rfl (gx_cons 3 S.nd (gx_cons 4 S.nd gx_nil))) (bx_cons (sx_set (i := 5) S.nd (px_op op_dAdd (px_callB cl_len (by rfl) T.len (by decide +kernel) (ax_cons (px_fld .fr T.cs (px_ix (px_var (i := 4)) px_int)) ax_nil)) (px_callB cl_len (by rfl) T.len (by decide +kernel) (ax_cons (px_fld .fr T.cs (px_ix (px_var (i := 4)) px_int)) ax_nil))))
    (bx_one (sx_if (WX.tx (wx_or (tx_cmp op_dIs (px_var (i := 2)) px_non (nomark _)) (wx_or1 (tx_cmp op_dLt (px_var (i := 5)) (px_var (i := 2)) (nomark _))))) (bx_one (sx_par (i := 1) (j := 2) rfl S.nd (px_var (i := 3)) (px_var (i := 5)))) bx_nil))))
    (bx_one (sx_ret (px_var (i := 1))))))
theorem F_nearest {P : Program} {w : World} {K : PySem.W.Frag} {mg : Str → Option Value} {base : Heap} {C : Addr} (T : Top P w K mg base C) : FnC P w K mg base C 1 "nearest" m_nearest :=
  fnc (N := ["waiting", "found", "fewest", "at", "row", "many"]) (ps := ["waiting"]) (k := 0) T.d_nearest sc_nearest rfl rfl (fun _ _ _ _ _ _ us hl => match us, hl with | [_], _ => rfl) (bx_nearest T)
theorem sc_l_leads : FnScope ["_law_some", "_law_s"] [] (defScope (top 76)) := ⟨rfl, rfl, rfl, by decide +kernel, rfl, by decide +kernel, by decide +kernel⟩
theorem bx_l_leads {P : Program} {w : World} {K : PySem.W.Frag} {mg : Str → Option Value} {base : Heap} {C : Addr} (T : Top P w K mg base C) (f : Addr) (cdv : Value) (A : Around) (outer : List Env) (s : Shared) (H : Hp) (E : XK) (hr : Room 0 (A.deeper (envOfC "_law_leads" (defScope (top 76)) s.heap.objs.size f cdv))) :
    BX C (CxD P w K mg base ["_law_some", "_law_s"] "_law_leads" (defScope (top 76)) f cdv A outer s H E) (defBody (top 76)) b_l_leads := by
    have S := sc_l_leads
    have hu := hr.units
    exact (bx_cons (sx_set (i := 0) S.nd (px_lst (ax_cons (px_str (s := []) (by rfl) (by rfl)) (ax_cons (px_str (s := [35, 32, 97, 10]) (by rfl) (by rfl)) (ax_cons (px_str (s := [40, 10]) (by rfl) (by rfl)) (ax_cons (px_str (s := [40, 97, 44, 10]) (by rfl) (by rfl)) (ax_cons (px_str (s := [40, 97, 10]) (by rfl) (by rfl)) (ax_cons (px_str (s := [40, 49, 10]) (by rfl) (by rfl)) (ax_cons (px_str (s := [40, 45, 10]) (by rfl) (by rfl)) (ax_cons (px_str (s := [91, 10]) (by rfl) (by rfl)) (ax_cons (px_str (s := [91, 97, 10]) (by rfl) (by rfl)) (ax_cons (px_str (s := [123, 10]) (by rfl) (by rfl)) (ax_cons (px_str (s := [123, 97, 58, 10]) (by rfl) (by rfl)) (ax_cons (px_str (s := [123, 97, 58, 32, 98, 10]) (by rfl) (by rfl)) (ax_cons (px_str (s := [102, 40, 10]) (by rfl) (by rfl)) ax_nil)))))))))))))))
    (bx_cons (sx_set (i := 0) S.nd (px_op op_dAdd (px_var (i := 0)) (px_lst (ax_cons (px_str (s := [102, 40, 97, 10]) (by rfl) (by rfl)) (ax_cons (px_str (s := [102, 40, 97, 46, 98, 10]) (by rfl) (by rfl)) (ax_cons (px_str (s := [102, 40, 107, 32, 61, 10]) (by rfl) (by rfl)) (ax_cons (px_str (s := [120, 91, 10]) (by rfl) (by rfl)) (ax_cons (px_str (s := [121, 32, 61, 32, 120, 91, 10]) (by rfl) (by rfl)) (ax_cons (px_str (s := [121, 32, 43, 32, 40, 10]) (by rfl) (by rfl)) (ax_cons (px_str (s := [120, 32, 92, 10]) (by rfl) (by rfl)) (ax_cons (px_str (s := [120, 40, 41, 32, 92, 10]) (by rfl) (by rfl)) (ax_cons (px_str (s := [49, 32, 92, 10]) (by rfl) (by rfl)) ax_nil))))))))))))
    (bx_cons (sx_set (i := 0) S.nd (px_op op_dAdd (px_var (i := 0)) (px_lst (ax_cons (px_str (s := [112, 97, 115, 115, 32, 92, 10]) (by rfl) (by rfl)) (ax_cons (px_str (s := [120, 59, 32, 92, 10]) (by rfl) (by rfl)) (ax_cons (px_str (s := [39, 39, 39, 10]) (by rfl) (by rfl)) (ax_cons (px_str (s := [34, 34, 34, 97, 10]) (by rfl) (by rfl)) (ax_cons (px_str (s := [120, 32, 61, 32, 39, 39, 39, 10]) (by rfl) (by rfl)) (ax_cons (px_str (s := [36, 34, 123, 10]) (by rfl) (by rfl)) (ax_cons (px_str (s := [36, 34, 123, 97, 10]) (by rfl) (by rfl)) (ax_cons (px_str (s := [105, 102, 32, 120, 58, 10]) (by rfl) (by rfl)) ax_nil)))))))))))
    (bx_cons (sx_set (i := 0) S.nd (px_op op_dAdd (px_var (i := 0)) (px_lst (ax_cons (px_str (s := [119, 104, 105, 108, 101, 32, 120, 58, 10]) (by rfl) (by rfl)) (ax_cons (px_str (s := [102, 111, 114, 32, 97, 32, 105, 110, 32, 98, 58, 10]) (by rfl) (by rfl)) (ax_cons (px_str (s := [100, 101, 102, 32, 102, 40, 41, 58, 10]) (by rfl) (by rfl)) (ax_cons (px_str (s := [116, 114, 121, 58, 10]) (by rfl) (by rfl)) (ax_cons (px_str (s := [105, 102, 32, 120, 58, 32, 121, 10]) (by rfl) (by rfl)) (ax_cons (px_str (s := [105, 102, 32, 120, 58, 32, 121, 10, 101, 108, 115, 101, 58, 32, 122, 10]) (by rfl) (by rfl)) ax_nil)))))))))
    (bx_cons (sx_set (i := 0) S.nd (px_op op_dAdd (px_var (i := 0)) (px_lst (ax_cons (px_str (s := [116, 114, 121, 58, 32, 120, 10]) (by rfl) (by rfl)) (ax_cons (px_str (s := [120, 10]) (by rfl) (by rfl)) (ax_cons (px_str (s := [116, 114, 121, 58, 32, 120, 10, 101, 120, 99, 101, 112, 116, 58, 32, 121, 10]) (by rfl) (by rfl)) (ax_cons (px_str (s := [119, 104, 105, 108, 101, 32, 120, 58, 32, 121, 10]) (by rfl) (by rfl)) (ax_cons (px_str (s := [100, 101, 102, 32, 102, 40, 10]) (by rfl) (by rfl)) (ax_cons (px_str (s := [100, 101, 102, 32, 102, 40, 97, 10]) (by rfl) (by rfl)) (ax_cons (px_str (s := [105, 102, 32, 40, 10]) (by rfl) (by rfl)) ax_nil))))))))))
    (bx_cons (sx_set (i := 0) S.nd (px_op op_dAdd (px_var (i := 0)) (px_lst (ax_cons (px_str (s := [119, 104, 105, 108, 101, 32, 40, 10]) (by rfl) (by rfl)) (ax_cons (px_str (s := [123, 48, 58, 32, 91, 10]) (by rfl) (by rfl)) (ax_cons (px_str (s := [105, 102, 32, 120, 58, 10, 32, 32, 121, 10]) (by rfl) (by rfl)) (ax_cons (px_str (s := [105, 102, 32, 120, 58, 10, 32, 32, 119, 104, 105, 108, 101, 32, 121, 58, 10, 32, 32, 32, 32, 122, 10]) (by rfl) (by rfl)) ax_nil)))))))
    (bx_cons (sx_set (i := 0) S.nd (px_op op_dAdd (px_var (i := 0)) (px_lst (ax_cons (px_str (s := [100, 101, 102, 32, 102, 40, 41, 58, 10, 32, 32, 105, 102, 32, 121, 58, 32, 122, 10]) (by rfl) (by rfl)) (ax_cons (px_str (s := [119, 104, 105, 108, 101, 32, 120, 58, 32, 40, 10]) (by rfl) (by rfl)) (ax_cons (px_str (s := [105, 102, 32, 120, 58, 32, 40, 10]) (by rfl) (by rfl)) (ax_cons (px_str (s := [100, 101, 102, 32, 102, 40, 41, 58, 32, 40, 10]) (by rfl) (by rfl)) ax_nil)))))))
    (bx_cons (sx_set (i := 0) S.nd (px_op op_dAdd (px_var (i := 0)) (px_lst (ax_cons (px_str (s := [105, 102, 32, 120, 58, 32, 121, 10, 10]) (by rfl) (by rfl)) (ax_cons (px_str (s := [36, 34, 123, 91, 40, 10]) (by rfl) (by rfl)) (ax_cons (px_str (s := [102, 40, 97, 91, 10]) (by rfl) (by rfl)) ax_nil))))))
    (bx_cons (sx_for PassesOwn.never rfl (ix_lstD (px_lst (ax_cons (px_str (s := [100, 101, 102, 32, 102, 40, 41, 58, 10, 32, 119, 104, 105, 108, 101, 32, 120, 58, 10]) (by rfl) (by rfl)) (ax_cons (px_str (s := [119, 104, 105, 108, 101, 32, 120, 58, 10, 32, 100, 101, 102, 32, 102, 40, 41, 58, 10]) (by rfl) (by rfl)) (ax_cons (px_str (s := [105, 102, 32, 120, 58, 10, 32, 116, 114, 121, 58, 10]) (by rfl) (by rfl)) (ax_cons (px_str (s := [116, 114, 121, 58, 10, 32, 105, 102, 32, 120, 58, 10]) (by rfl) (by rfl)) ax_nil)))))) (tg_name 1 S.nd) (bx_one (sx_set (i := 0) S.nd (px_op op_dAdd (px_var (i := 0)) (px_lst (ax_cons (px_var (i := 1)) (ax_cons (px_op op_dAdd (px_var (i := 1)) (px_str (s := [32, 32, 32, 121, 10]) (by rfl) (by rfl))) (ax_cons (px_op op_dAdd (px_var (i := 1)) (px_str (s := [32, 32, 32, 102, 40, 10]) (by rfl) (by rfl))) (ax_cons (px_op op_dAdd (px_var (i := 1)) (px_str (s := [32, 32, 105, 102, 32, 97, 58, 32, 98, 10]) (by rfl) (by rfl))) ax_nil)))))))))
    (bx_one (sx_ret (px_var (i := 0)))))))))))))
theorem F_l_leads {P : Program} {w : World} {K : PySem.W.Frag} {mg : Str → Option Value} {base : Heap} {C : Addr} (T : Top P w K mg base C) : FnC P w K mg base C 1 "_law_leads" m_l_leads :=
  fnc (N := ["_law_some", "_law_s"]) (ps := []) (k := 0) T.d__law_leads sc_l_leads rfl rfl (fun _ _ _ _ _ _ us hl => match us, hl with | [], _ => rfl) (bx_l_leads T)
theorem sc_l_word_end : FnScope ["_law_s", "_law_at", "_law_some"] ["_law_s", "_law_at"] (defScope (top 77)) := ⟨rfl, rfl, rfl, by decide +kernel, rfl, by decide +kernel, by decide +kernel⟩
theorem bx_l_word_end {P : Program} {w : World} {K : PySem.W.Frag} {mg : Str → Option Value} {base : Heap} {C : Addr} (T : Top P w K mg base C) (f : Addr) (cdv : Value) (A : Around) (outer : List Env) (s : Shared) (H : Hp) (E : XK) (hr : Room 0 (A.deeper (envOfC "_law_word_end" (defScope (top 77)) s.heap.objs.size f cdv))) :
    BX C (CxD P w K mg base ["_law_s", "_law_at", "_law_some"] "_law_word_end" (defScope (top 77)) f cdv A outer s H E) (defBody (top 77)) b_l_word_end := by
    have S := sc_l_word_end
    have hu := hr.units
    exact (bx_cons (sx_set (i := 2) S.nd (px_str (s := [97, 98, 99, 100, 101, 102, 103, 104, 105, 106, 107, 108, 109, 110, 111, 112, 113, 114, 115, 116, 117, 118, 119, 120, 121, 122, 65, 66, 67, 68, 69, 70, 71, 72, 73, 74, 75, 76, 77, 78, 79, 80, 81, 82, 83, 84, 85, 86, 87, 88, 89, 90, 95, 48, 49, 50, 51, 52, 53, 54, 55, 56, 57]) (by rfl) (by rfl)))
    (bx_cons (sx_while 100 PassesOwn.never (WX.tx (wx_and (tx_cmp op_dLt (px_var (i := 1)) (px_callB cl_len (by rfl) T.len (by decide +kernel) (ax_cons (px_var (i := 0)) ax_nil)) (nomark _)) (wx_and1 (tx_cmp op_dIn (px_ix (px_var (i := 0)) (px_var (i := 1))) (px_var (i := 2)) (by rfl))))) (bx_one (sx_set (i := 1) S.nd (px_op op_dAdd (px_var (i := 1)) px_int))))
    (bx_one (sx_ret (px_var (i := 1))))))
theorem F_l_word_end {P : Program} {w : World} {K : PySem.W.Frag} {mg : Str → Option Value} {base : Heap} {C : Addr} (T : Top P w K mg base C) : FnC P w K mg base C 1 "_law_word_end" m_l_word_end :=
  fnc (N := ["_law_s", "_law_at", "_law_some"]) (ps := ["_law_s", "_law_at"]) (k := 0) T.d__law_word_end sc_l_word_end rfl rfl (fun _ _ _ _ _ _ us hl => match us, hl with | [_, _], _ => rfl) (bx_l_word_end T)
theorem sc_l_string_end : FnScope ["_law_s", "_law_at", "_law_size", "_law_quote"] ["_law_s", "_law_at"] (defScope (top 78)) := ⟨rfl, rfl, rfl, by decide +kernel, rfl, by decide +kernel, by decide +kernel⟩
theorem bx_l_string_end {P : Program} {w : World} {K : PySem.W.Frag} {mg : Str → Option Value} {base : Heap} {C : Addr} (T : Top P w K mg base C) (f : Addr) (cdv : Value) (A : Around) (outer : List Env) (s : Shared) (H : Hp) (E : XK) (hr : Room 0 (A.deeper (envOfC "_law_string_end" (defScope (top 78)) s.heap.objs.size f cdv))) :
    BX C (CxD P w K mg base ["_law_s", "_law_at", "_law_size", "_law_quote"] "_law_string_end" (defScope (top 78)) f cdv A outer s H E) (defBody (top 78)) b_l_string_end := by
    have S := sc_l_string_end
    have hu := hr.units
    exact (bx_cons (sx_par (i := 2) (j := 3) rfl S.nd (px_ifExp (tx_cmp (op_dEq hu) (px_sl (px_var (i := 0)) (ox_some (px_var (i := 1))) (ox_some (px_op op_dAdd (px_var (i := 1)) px_int))) (px_op op_dMul (px_ix (px_var (i := 0)) (px_var (i := 1))) px_int) (nomark _)) px_int px_int) (px_ix (px_var (i := 0)) (px_var (i := 1))))
    (bx_cons (sx_set (i := 1) S.nd (px_op op_dAdd (px_var (i := 1)) (px_var (i := 2))))
    (bx_cons (sx_while 100 PassesOwn.never (WX.tx (wx_and (tx_cmp op_dLt (px_var (i := 1)) (px_callB cl_len (by rfl) T.len (by decide +kernel) (ax_cons (px_var (i := 0)) ax_nil)) (nomark _)) (wx_and1 (tx_cmp (op_dNe hu) (px_sl (px_var (i := 0)) (ox_some (px_var (i := 1))) (ox_some (px_op op_dAdd (px_var (i := 1)) (px_var (i := 2))))) (px_op op_dMul (px_var (i := 3)) (px_var (i := 2))) (nomark _))))) (bx_cons (sx_if (WX.tx (wx_and (tx_cmp (op_dEq hu) (px_var (i := 2)) px_int (nomark _)) (wx_and1 (WX.tx (wx_or (tx_cmp (op_dEq hu) (px_ix (px_var (i := 0)) (px_var (i := 1))) (px_str (s := [10]) (by rfl) (by rfl)) (nomark _)) (wx_or1 (tx_cmp (op_dEq hu) (px_sl (px_var (i := 0)) (ox_some (px_var (i := 1))) (ox_some (px_op op_dAdd (px_var (i := 1)) px_int))) (px_str (s := [92, 10]) (by rfl) (by rfl)) (nomark _)))))))) (bx_one (sx_ret (px_op op_dSub px_int px_int))) bx_nil)
    (bx_one (sx_set (i := 1) S.nd (px_op op_dAdd (px_var (i := 1)) (px_ifExp (tx_cmp (op_dEq hu) (px_ix (px_var (i := 0)) (px_var (i := 1))) (px_str (s := [92]) (by rfl) (by rfl)) (nomark _)) px_int px_int))))))
    (bx_one (sx_ret (px_ifExp (tx_cmp op_dLe (px_op op_dAdd (px_var (i := 1)) (px_var (i := 2))) (px_callB cl_len (by rfl) T.len (by decide +kernel) (ax_cons (px_var (i := 0)) ax_nil)) (nomark _)) (px_op op_dAdd (px_var (i := 1)) (px_var (i := 2))) (px_op op_dSub px_int px_int)))))))
theorem F_l_string_end {P : Program} {w : World} {K : PySem.W.Frag} {mg : Str → Option Value} {base : Heap} {C : Addr} (T : Top P w K mg base C) : FnC P w K mg base C 1 "_law_string_end" m_l_string_end :=
  fnc (N := ["_law_s", "_law_at", "_law_size", "_law_quote"]) (ps := ["_law_s", "_law_at"]) (k := 0) T.d__law_string_end sc_l_string_end rfl rfl (fun _ _ _ _ _ _ us hl => match us, hl with | [_, _], _ => rfl) (bx_l_string_end T)
structure Itw_l_expr (P : Program) (w : World) (K : PySem.W.Frag) (mg : Str → Option Value) (base : Heap) (C : Addr) (k : Nat) (g : Gtw_l_expr) : Prop where
  l_expr : FnC P w K mg base C k "_law_expr" g.l_expr
  l_items : FnC P w K mg base C k "_law_items" g.l_items
  l_primary : FnC P w K mg base C k "_law_primary" g.l_primary
theorem sc_l_expr : FnScope ["_law_t", "_law_at", "_law_far", "_law_some"] ["_law_t", "_law_at"] (defScope (top 84)) := ⟨rfl, rfl, rfl, by decide +kernel, rfl, by decide +kernel, by decide +kernel⟩
theorem bx_l_expr {P : Program} {w : World} {K : PySem.W.Frag} {mg : Str → Option Value} {base : Heap} {C : Addr} (T : Top P w K mg base C) (j : Nat) (hj : 1 ≤ j) (g : Gtw_l_expr) (I : Itw_l_expr P w K mg base C j g) (f : Addr) (cdv : Value) (A : Around) (outer : List Env) (s : Shared) (H : Hp) (E : XK) (hr : Room j (A.deeper (envOfC "_law_expr" (defScope (top 84)) s.heap.objs.size f cdv))) :
    BX C (CxD P w K mg base ["_law_t", "_law_at", "_law_far", "_law_some"] "_law_expr" (defScope (top 84)) f cdv A outer s H E) (defBody (top 84)) (b_l_expr g) := by
    have S := sc_l_expr
    have hu := hr.units
    have F_l_expr := I.l_expr
    have F_l_primary := I.l_primary
    exact (bx_cons (sx_while 100 PassesOwn.never (tx_cmp op_dIn (px_ix (px_var (i := 0)) (px_var (i := 1))) (px_tup (ax_cons (px_str (s := [45]) (by rfl) (by rfl)) (ax_cons (px_str (s := [110, 111, 116]) (by rfl) (by rfl)) ax_nil))) (by rfl)) (bx_one (sx_set (i := 1) S.nd (px_op op_dAdd (px_var (i := 1)) px_int))))
    (bx_cons (sx_set (i := 2) S.nd (px_ix (px_call F_l_primary hr (by omega) (ax_cons (px_var (i := 0)) (ax_cons (px_var (i := 1)) ax_nil))) px_int))
    (bx_cons (sx_set (i := 3) S.nd (px_tup (ax_cons (px_str (s := [43]) (by rfl) (by rfl)) (ax_cons (px_str (s := [45]) (by rfl) (by rfl)) (ax_cons (px_str (s := [42]) (by rfl) (by rfl)) (ax_cons (px_str (s := [47]) (by rfl) (by rfl)) (ax_cons (px_str (s := [60]) (by rfl) (by rfl)) (ax_cons (px_str (s := [62]) (by rfl) (by rfl)) (ax_cons (px_str (s := [60, 61]) (by rfl) (by rfl)) (ax_cons (px_str (s := [62, 61]) (by rfl) (by rfl)) (ax_cons (px_str (s := [61, 61]) (by rfl) (by rfl)) (ax_cons (px_str (s := [33, 61]) (by rfl) (by rfl)) (ax_cons (px_str (s := [97, 110, 100]) (by rfl) (by rfl)) (ax_cons (px_str (s := [111, 114]) (by rfl) (by rfl)) (ax_cons (px_str (s := [105, 110]) (by rfl) (by rfl)) ax_nil)))))))))))))))
    (bx_one (sx_ret (px_ifExp (WX.tx (wx_and (tx_cmp op_dGe (px_var (i := 2)) px_int (nomark _)) (wx_and1 (tx_cmp op_dIn (px_ix (px_var (i := 0)) (px_var (i := 2))) (px_var (i := 3)) (by rfl))))) (px_call F_l_expr hr (by omega) (ax_cons (px_var (i := 0)) (ax_cons (px_op op_dAdd (px_var (i := 2)) px_int) ax_nil))) (px_var (i := 2))))))))
theorem sc_l_items : FnScope ["_law_t", "_law_at", "_law_way", "_law_closing"] ["_law_t", "_law_at", "_law_way"] (defScope (top 82)) := ⟨rfl, rfl, rfl, by decide +kernel, rfl, by decide +kernel, by decide +kernel⟩
theorem bx_l_items {P : Program} {w : World} {K : PySem.W.Frag} {mg : Str → Option Value} {base : Heap} {C : Addr} (T : Top P w K mg base C) (j : Nat) (hj : 1 ≤ j) (g : Gtw_l_expr) (I : Itw_l_expr P w K mg base C j g) (f : Addr) (cdv : Value) (A : Around) (outer : List Env) (s : Shared) (H : Hp) (E : XK) (hr : Room j (A.deeper (envOfC "_law_items" (defScope (top 82)) s.heap.objs.size f cdv))) :
    BX C (CxD P w K mg base ["_law_t", "_law_at", "_law_way", "_law_closing"] "_law_items" (defScope (top 82)) f cdv A outer s H E) (defBody (top 82)) (b_l_items g) := by
    have S := sc_l_items
    have hu := hr.units
    have F_l_expr := I.l_expr
    exact (bx_cons (sx_par (i := 3) (j := 1) rfl S.nd (px_dix hu (px_dic (dx_cons (k := [40]) (by rfl) (by rfl) (px_str (s := [41]) (by rfl) (by rfl)) (dx_cons (k := [91]) (by rfl) (by rfl) (px_str (s := [93]) (by rfl) (by rfl)) (dx_cons (k := [123]) (by rfl) (by rfl) (px_str (s := [125]) (by rfl) (by rfl)) dx_nil)))) (px_ix (px_var (i := 0)) (px_var (i := 1)))) (px_op op_dAdd (px_var (i := 1)) px_int))
    (bx_cons (sx_while 100 PassesOwn.never (tx_cmp (op_dNe hu) (px_ix (px_var (i := 0)) (px_var (i := 1))) (px_var (i := 3)) (nomark _)) (bx_cons (sx_if (tx_cmp (op_dEq hu) (px_var (i := 2)) (px_str (s := [110, 97, 109, 101, 115]) (by rfl) (by rfl)) (nomark _)) (bx_one (sx_set (i := 1) S.nd (px_ifExp (tx_cmp (op_dEq hu) (px_ix (px_var (i := 0)) (px_var (i := 1))) (px_str (s := [110]) (by rfl) (by rfl)) (nomark _)) (px_op op_dAdd (px_var (i := 1)) px_int) (px_op op_dSub px_int px_int)))) (bx_cons (sx_set (i := 1) S.nd (px_ifExp (WX.tx (wx_and (tx_cmp (op_dEq hu) (px_var (i := 2)) (px_str (s := [99, 97, 108, 108]) (by rfl) (by rfl)) (nomark _)) (wx_and1 (tx_cmp (op_dEq hu) (px_sl (px_var (i := 0)) (ox_some (px_var (i := 1))) (ox_some (px_op op_dAdd (px_var (i := 1)) px_int))) (px_lst (ax_cons (px_str (s := [110]) (by rfl) (by rfl)) (ax_cons (px_str (s := [61]) (by rfl) (by rfl)) ax_nil))) (nomark _))))) (px_op op_dAdd (px_var (i := 1)) px_int) (px_var (i := 1))))
    (bx_cons (sx_set (i := 1) S.nd (px_call F_l_expr hr (by omega) (ax_cons (px_var (i := 0)) (ax_cons (px_var (i := 1)) ax_nil))))
    (bx_one (sx_if (WX.tx (wx_and (tx_cmp (op_dEq hu) (px_var (i := 2)) (px_str (s := [112, 97, 105, 114, 115]) (by rfl) (by rfl)) (nomark _)) (wx_and1 (tx_cmp op_dGe (px_var (i := 1)) px_int (nomark _))))) (bx_one (sx_set (i := 1) S.nd (px_ifExp (tx_cmp (op_dEq hu) (px_ix (px_var (i := 0)) (px_var (i := 1))) (px_str (s := [58]) (by rfl) (by rfl)) (nomark _)) (px_call F_l_expr hr (by omega) (ax_cons (px_var (i := 0)) (ax_cons (px_op op_dAdd (px_var (i := 1)) px_int) ax_nil))) (px_op op_dSub px_int px_int)))) bx_nil)))))
    (bx_cons (sx_if (WX.tx (wx_or (tx_cmp op_dLt (px_var (i := 1)) px_int (nomark _)) (wx_or1 (tx_cmp op_dNotIn (px_ix (px_var (i := 0)) (px_var (i := 1))) (px_tup (ax_cons (px_str (s := [44]) (by rfl) (by rfl)) (ax_cons (px_var (i := 3)) ax_nil))) (by rfl))))) (bx_one (sx_ret (px_op op_dSub px_int px_int))) bx_nil)
    (bx_one (sx_set (i := 1) S.nd (px_op op_dAdd (px_var (i := 1)) (px_callTy cl_int (by rfl) T.int (by decide +kernel) (ax_cons (px_cmp (op_dEq hu) (px_ix (px_var (i := 0)) (px_var (i := 1))) (px_str (s := [44]) (by rfl) (by rfl)) (nomark _)) ax_nil))))))))
    (bx_one (sx_ret (px_op op_dAdd (px_var (i := 1)) px_int)))))
theorem sc_l_primary : FnScope ["_law_t", "_law_at", "_law_sign", "_law_far", "_law_is_target"] ["_law_t", "_law_at"] (defScope (top 83)) := ⟨rfl, rfl, rfl, by decide +kernel, rfl, by decide +kernel, by decide +kernel⟩
theorem bx_l_primary {P : Program} {w : World} {K : PySem.W.Frag} {mg : Str → Option Value} {base : Heap} {C : Addr} (T : Top P w K mg base C) (j : Nat) (hj : 1 ≤ j) (g : Gtw_l_expr) (I : Itw_l_expr P w K mg base C j g) (f : Addr) (cdv : Value) (A : Around) (outer : List Env) (s : Shared) (H : Hp) (E : XK) (hr : Room j (A.deeper (envOfC "_law_primary" (defScope (top 83)) s.heap.objs.size f cdv))) :
    BX C (CxD P w K mg base ["_law_t", "_law_at", "_law_sign", "_law_far", "_law_is_target"] "_law_primary" (defScope (top 83)) f cdv A outer s H E) (defBody (top 83)) (b_l_primary g) := by
    have S := sc_l_primary
    have hu := hr.units
    have F_l_expr := I.l_expr
    have F_l_items := I.l_items
    exact (bx_cons (sx_par (i := 2) (j := 3) rfl S.nd (px_ix (px_var (i := 0)) (px_var (i := 1))) (px_op op_dAdd (px_var (i := 1)) px_int))
    (bx_cons (sx_if (tx_cmp (op_dEq hu) (px_var (i := 2)) (px_str (s := [100]) (by rfl) (by rfl)) (nomark _)) (bx_one (sx_ret (px_tup (ax_cons (px_var (i := 3)) (ax_cons px_bl ax_nil))))) bx_nil)
    (bx_cons (sx_if (tx_cmp op_dNotIn (px_var (i := 2)) (px_tup (ax_cons (px_str (s := [110]) (by rfl) (by rfl)) (ax_cons (px_str (s := [115]) (by rfl) (by rfl)) ax_nil))) (by rfl)) (bx_one (sx_set (i := 3) S.nd (px_ifExp (tx_cmp op_dIn (px_var (i := 2)) (px_tup (ax_cons (px_str (s := [40]) (by rfl) (by rfl)) (ax_cons (px_str (s := [91]) (by rfl) (by rfl)) (ax_cons (px_str (s := [123]) (by rfl) (by rfl)) ax_nil)))) (by rfl)) (px_call F_l_items hr (by omega) (ax_cons (px_var (i := 0)) (ax_cons (px_var (i := 1)) (ax_cons (px_ifExp (tx_cmp (op_dEq hu) (px_var (i := 2)) (px_str (s := [123]) (by rfl) (by rfl)) (nomark _)) (px_str (s := [112, 97, 105, 114, 115]) (by rfl) (by rfl)) (px_str (s := [105, 116, 101, 109, 115]) (by rfl) (by rfl))) ax_nil)))) (px_op op_dSub px_int px_int)))) bx_nil)
    (bx_cons (sx_set (i := 4) S.nd (px_cmp (op_dEq hu) (px_var (i := 2)) (px_str (s := [110]) (by rfl) (by rfl)) (nomark _)))
    (bx_cons (sx_while 100 PassesOwn.never (WX.tx (wx_and (tx_cmp op_dGe (px_var (i := 3)) px_int (nomark _)) (wx_and1 (tx_cmp op_dIn (px_ix (px_var (i := 0)) (px_var (i := 3))) (px_tup (ax_cons (px_str (s := [46]) (by rfl) (by rfl)) (ax_cons (px_str (s := [40]) (by rfl) (by rfl)) (ax_cons (px_str (s := [91]) (by rfl) (by rfl)) ax_nil)))) (by rfl))))) (bx_cons (sx_par (i := 2) (j := 4) rfl S.nd (px_ix (px_var (i := 0)) (px_var (i := 3))) (px_cmp (op_dNe hu) (px_ix (px_var (i := 0)) (px_var (i := 3))) (px_str (s := [40]) (by rfl) (by rfl)) (nomark _)))
    (bx_one (sx_if (tx_cmp (op_dEq hu) (px_var (i := 2)) (px_str (s := [46]) (by rfl) (by rfl)) (nomark _)) (bx_one (sx_set (i := 3) S.nd (px_ifExp (tx_cmp (op_dEq hu) (px_ix (px_var (i := 0)) (px_op op_dAdd (px_var (i := 3)) px_int)) (px_str (s := [110]) (by rfl) (by rfl)) (nomark _)) (px_op op_dAdd (px_var (i := 3)) px_int) (px_op op_dSub px_int px_int)))) (bx_one (sx_if (tx_cmp (op_dEq hu) (px_var (i := 2)) (px_str (s := [40]) (by rfl) (by rfl)) (nomark _)) (bx_one (sx_set (i := 3) S.nd (px_call F_l_items hr (by omega) (ax_cons (px_var (i := 0)) (ax_cons (px_var (i := 3)) (ax_cons (px_str (s := [99, 97, 108, 108]) (by rfl) (by rfl)) ax_nil)))))) (bx_cons (sx_set (i := 3) S.nd (px_call F_l_expr hr (by omega) (ax_cons (px_var (i := 0)) (ax_cons (px_op op_dAdd (px_var (i := 3)) px_int) ax_nil))))
    (bx_one (sx_set (i := 3) S.nd (px_ifExp (WX.tx (wx_and (tx_cmp op_dGe (px_var (i := 3)) px_int (nomark _)) (wx_and1 (tx_cmp (op_dEq hu) (px_ix (px_var (i := 0)) (px_var (i := 3))) (px_str (s := [93]) (by rfl) (by rfl)) (nomark _))))) (px_op op_dAdd (px_var (i := 3)) px_int) (px_op op_dSub px_int px_int)))))))))))
    (bx_one (sx_ret (px_tup (ax_cons (px_var (i := 3)) (ax_cons (px_var (i := 4)) ax_nil))))))))))
theorem I_tw_l_expr {P : Program} {w : World} {K : PySem.W.Frag} {mg : Str → Option Value} {base : Heap} {C : Addr} (T : Top P w K mg base C) : ∀ n : Nat, Itw_l_expr P w K mg base C (1 + n) (tw_l_expr n)
  | 0 => ⟨fnc0 T.d__law_expr, fnc0 T.d__law_items, fnc0 T.d__law_primary⟩
  | n + 1 => ⟨fnc (N := ["_law_t", "_law_at", "_law_far", "_law_some"]) (ps := ["_law_t", "_law_at"]) (k := 1 + n) T.d__law_expr sc_l_expr rfl rfl (fun _ _ _ _ _ _ us hl => match us, hl with | [_, _], _ => rfl) (bx_l_expr T _ (by omega) _ (I_tw_l_expr T n)), fnc (N := ["_law_t", "_law_at", "_law_way", "_law_closing"]) (ps := ["_law_t", "_law_at", "_law_way"]) (k := 1 + n) T.d__law_items sc_l_items rfl rfl (fun _ _ _ _ _ _ us hl => match us, hl with | [_, _, _], _ => rfl) (bx_l_items T _ (by omega) _ (I_tw_l_expr T n)), fnc (N := ["_law_t", "_law_at", "_law_sign", "_law_far", "_law_is_target"]) (ps := ["_law_t", "_law_at"]) (k := 1 + n) T.d__law_primary sc_l_primary rfl rfl (fun _ _ _ _ _ _ us hl => match us, hl with | [_, _], _ => rfl) (bx_l_primary T _ (by omega) _ (I_tw_l_expr T n))⟩
theorem F_l_expr {P : Program} {w : World} {K : PySem.W.Frag} {mg : Str → Option Value} {base : Heap} {C : Addr} (T : Top P w K mg base C) (n : Nat) : FnC P w K mg base C (1 + n) "_law_expr" (tw_l_expr n).l_expr := (I_tw_l_expr T n).l_expr
theorem F_l_items {P : Program} {w : World} {K : PySem.W.Frag} {mg : Str → Option Value} {base : Heap} {C : Addr} (T : Top P w K mg base C) (n : Nat) : FnC P w K mg base C (1 + n) "_law_items" (tw_l_expr n).l_items := (I_tw_l_expr T n).l_items
theorem F_l_primary {P : Program} {w : World} {K : PySem.W.Frag} {mg : Str → Option Value} {base : Heap} {C : Addr} (T : Top P w K mg base C) (n : Nat) : FnC P w K mg base C (1 + n) "_law_primary" (tw_l_expr n).l_primary := (I_tw_l_expr T n).l_primary
end
end Rp
set_option Elab.async false
set_option linter.all false
set_option maxRecDepth 100000
set_option maxHeartbeats 4000000
namespace Rp
noncomputable section
open PySem PySem.Spec PyProof.Rows L2 SX
def tF (c : Cw) (f : RE) : TE := fun σ H Q => ∃ ρ d, SRep c H σ ρ ∧ f ρ = some d ∧ ∀ v H', Same H H' → Rep c H' d v → (∀ a, v = .ref a → H a = none) → Q v H'
theorem FX.pe {C : Addr} {X : Cx} {e : Expr} {f : RE} (h : FX C X e f) : PE X e (tF (cw C X) f) := by
  obtain ⟨t, p, r⟩ := h
  exact ⟨fun pins s σ H Q I ⟨ρ, d, h1, h2, h3⟩ => p.run pins s σ H Q I (r σ H ρ d Q h1 h2 h3)⟩
theorem SRep.know {c : Cw} {H : Hp} {σ : L2.St} {ρ : Rho} {d : D} {v : V} (i : Nat) (h : SRep c H σ ρ) (hv : σ[i]? = some (some v)) (r : Rep c H d v) : SRep c H σ (ρ.set i (some d)) := by
  refine ⟨by simpa using h.1, fun j e q => ?_⟩
  by_cases hj : j = i
  · subst hj
    have hl : j < ρ.length := by
      have := (List.getElem?_eq_some_iff.mp q).1
      simpa using this
    rw [List.getElem?_set_self hl] at q
    cases q
    exact ⟨v, hv, r⟩
  · rw [List.getElem?_set_ne (Ne.symm hj)] at q
    exact h.2 j e q
theorem srepN {c : Cw} {H : Hp} {σ : L2.St} {n : Nat} (hl : σ.length = n) : SRep c H σ (List.replicate n none) := ⟨by simp [hl], fun j d ej => by
  rw [List.getElem?_replicate] at ej
  split at ej <;> cases ej⟩
def fIf : RE := ifE (asB fTest) (eA mkLstX (aCons (eA mkTup (aCons (eVar 2) (aCons (eVar 3) (aCons (eC (.str [])) aNil)))) aNil)) (eA mkLstX aNil)
def tD1 (c : Cw) : TS := tPar 2 3 (tCons (tE c (eA m_need_lead (aCons (eVar 0) aNil))) (tCons (tE c (eA m_need_lead (aCons (eVar 1) aNil))) tNil))
def tD2 (c : Cw) (P : Program) : TS := tPar 4 5 (tCons (tF c fIf) (tCons (tNewSeen P c.w) tNil))
def tDc (c : Cw) : TT := tTest (tOp (rNeE c.K) (tVar 4) (tLst tNil))
def tDb1 (c : Cw) : TS := tAsg (tBM c.K "list" rPopAt (tVar 4) (tCons (tE c (eA m_nearest (aCons (eVar 4) aNil))) tNil)) (gTup c.K 3 (gCons (gName 2) (gCons (gName 3) (gCons (gName 6) gNil))))
def fTold : RE := e1 onlyF (eA m_told_apart (aCons (eVar 2) (aCons (eVar 3) (aCons (eVar 6) aNil))))
def tDb2 (c : Cw) : TS := tAsg (tF c fTold) (gName 7)
def tDb3 (c : Cw) : TS := tIfS (tT c (asB (e1 is_str (eVar 7)))) (tRet (tVar 7)) tNext
def tDk (c : Cw) : TS := tAsg (tE c fKey) (gName 11)
def tDi (c : Cw) (P : Program) : TS := tIfS (tB (tNotSeen c P (tVar 11) (tVar 5))) (tSeq (sPutSeen c P (tVar 5) (tVar 11)) (tDrop (tBM c.K "list" rAppend (tVar 4) (tCons (tE c fTri) tNil)))) tNext
def tDb4 (c : Cw) (P : Program) : TS := tFor (iList c.K (tVar 7)) (gTup c.K 3 (gCons (gName 8) (gCons (gName 9) (gCons (gName 10) gNil)))) (tSeq (tDk c) (tDi c P))
def tDb (c : Cw) (P : Program) : TS := tSeq (tDb1 c) (tSeq (tDb2 c) (tSeq (tDb3 c) (tDb4 c P)))
def tDf (c : Cw) (P : Program) : TS := tSeq (tD1 c) (tSeq (tD2 c P) (tSeq (tWhile (tDc c) (tDb c P)) (tRet (tC .non))))
section
variable {P : Program} {w : World} {K : PySem.W.Frag} {mg : Str → Option Value} {base : Heap} {C : Addr}
theorem sc_difference : FnScope ["first", "second", "one", "other", "waiting", "seen", "path", "found", "far", "near", "text", "key"] ["first", "second"] (defScope (top 70)) := ⟨rfl, rfl, rfl, by decide +kernel, rfl, by decide +kernel, by decide +kernel⟩
theorem ps_difference (T : Top P w K mg base C) (f : Addr) (cdv : Value) (A : Around) (outer : List Env) (s : Shared) (H : Hp) (E : XK) (hr : Room 18 (A.deeper (envOfC "difference" (defScope (top 70)) s.heap.objs.size f cdv))) :
    PSs (CxD P w K mg base ["first", "second", "one", "other", "waiting", "seen", "path", "found", "far", "near", "text", "key"] "difference" (defScope (top 70)) f cdv A outer s H E) (defBody (top 70)) (tDf ⟨C, K, w⟩ P) := by
  have S := sc_difference
  have hu := hr.units
  have F_need_lead := F_need_lead T
  have F_parts := F_State_parts T
  have F_nearest := F_nearest T
  have F_told := F_told_apart T
  refine pss_cons (ps_par (i := 2) (j := 3) rfl S.nd rfl rfl (by decide) rfl rfl (pa_cons (PX.pe (C := C) (px_call F_need_lead hr (by decide) (ax_cons (px_var (i := 0)) ax_nil))) (pa_cons (PX.pe (C := C) (px_call F_need_lead hr (by decide) (ax_cons (px_var (i := 1)) ax_nil))) pa_nil)) rfl rfl) (pss_cons ?_ (pss_cons ?_ (pss_one (ps_ret pe_non))))
  · refine ps_par (i := 4) (j := 5) rfl S.nd rfl rfl (by decide) rfl rfl (pa_cons (FX.pe (C := C) (fx_ifExp (tx_cmp (op_dNe hu) (px_meth0 F_parts T.cs hr (by decide) (px_var (i := 2))) (px_meth0 F_parts T.cs hr (by decide) (px_var (i := 3))) (nomark _)) (fx_lstX (ax_cons (px_tup (ax_cons (px_var (i := 2)) (ax_cons (px_var (i := 3)) (ax_cons (px_str (s := []) (by rfl) (by rfl)) ax_nil)))) ax_nil)) fx_nilX)) (pa_cons pe_newSeen pa_nil)) rfl rfl
  · refine ps_while PassesOwn.never (pt_cmpR (op_neE hu) (pv 4) (pe_lst pa_nil) (nomark _)) (pss_cons ?_ (pss_cons ?_ (pss_cons ?_ (pss_one ?_))))
    · refine ps_asg (pe_bm PySem.F.plainAttrs_list PySem.F.slot_list_pop PySem.F.type_list_pop mt_popAt (pv 4) (pa_cons (PX.pe (C := C) (px_call F_nearest hr (by decide) (ax_cons (px_var (i := 4)) ax_nil))) pa_nil)) (pg_tup rfl (pgs_cons (pg_name (i := 2) S.nd rfl (Or.inl rfl)) (pgs_cons (pg_name (i := 3) S.nd rfl (Or.inl rfl)) (pgs_cons (pg_name (i := 6) S.nd rfl (Or.inl rfl)) pgs_nil))))
    · exact ps_set (i := 7) S.nd rfl (Or.inl rfl) (FX.pe (C := C) (fx_call F_told hr (by decide) (ax_cons (px_var (i := 2)) (ax_cons (px_var (i := 3)) (ax_cons (px_var (i := 6)) ax_nil))))) rfl
    · exact ps_if (TX.pt (C := C) (tx_val (px_isi_str T.isinstance T.str (px_var (i := 7))))) (pss_one (ps_ret (pv 7))) pss_nil
    · refine ps_for PassesOwn.never rfl (pi_list (pv 7)) (pg_tup rfl (pgs_cons (pg_name (i := 8) S.nd rfl (Or.inl rfl)) (pgs_cons (pg_name (i := 9) S.nd rfl (Or.inl rfl)) (pgs_cons (pg_name (i := 10) S.nd rfl (Or.inl rfl)) pgs_nil)))) (pss_cons ?_ (pss_one ?_))
      · exact ps_set (i := 11) S.nd rfl (Or.inl rfl) (PX.pe (C := C) (px_tup (ax_cons (px_meth0 F_parts T.cs hr (by decide) (px_var (i := 8))) (ax_cons (px_meth0 F_parts T.cs hr (by decide) (px_var (i := 9))) ax_nil)))) rfl
      · refine ps_if (pt_cmp (pc_notseen (C := C) hu (pv 11) (pv 5)) (by rfl)) (pss_cons ?_ (pss_one ?_)) pss_nil
        · exact ps_putSeen (C := C) hu (pv 5) (pv 11)
        · exact ps_expr (pe_bm PySem.F.plainAttrs_list PySem.F.slot_list_append PySem.F.type_list_append mt_append (pv 4) (pa_cons (PX.pe (C := C) (px_tup (ax_cons (px_var (i := 8)) (ax_cons (px_var (i := 9)) (ax_cons (px_var (i := 10)) ax_nil))))) pa_nil))
end
end
end Rp
set_option Elab.async false
set_option linter.all false
set_option maxRecDepth 100000
set_option maxHeartbeats 4000000
namespace Rp
noncomputable section
open PySem PySem.Spec PyProof.Rows L2 SX
theorem seqIx {k n : Nat} (h : k < n) : seqIndex? ((k : Nat) : Int) n = some k := by
  unfold seqIndex?
  have h1 : ¬ ((k : Int) < 0) := by omega
  simp only [if_neg h1]
  have h2 : (decide ((0 : Int) ≤ (k : Int)) && decide ((k : Int) < (n : Int))) = true := by
    rw [decide_eq_true (by omega), decide_eq_true (by omega)]
    rfl
  rw [if_pos h2]
  rfl
theorem RepL.erase {c : Cw} {H : Hp} : ∀ {ds : List D} {vs : List V} (k : Nat), RepL c H ds vs → RepL c H (ds.eraseIdx k) (vs.eraseIdx k)
  | [], _, k, h => by rw [show _ = _ from h]; rfl
  | d :: ds, _, 0, h => by
    obtain ⟨v, r, h1, h2, h3⟩ := h
    subst h1
    exact h3
  | d :: ds, _, k + 1, h => by
    obtain ⟨v, r, h1, h2, h3⟩ := h
    subst h1
    exact ⟨v, _, rfl, h2, RepL.erase k h3⟩
theorem all_erase {p : D → Bool} {l : List D} (k : Nat) (h : l.all p = true) : (l.eraseIdx k).all p = true :=
  List.all_eq_true.mpr fun x hx => List.all_eq_true.mp h x (List.mem_of_mem_eraseIdx hx)
theorem pairedApp {α β : Type} {F : α → β → Prop} : ∀ {a a' : List α} {b b' : List β}, Paired F a b → Paired F a' b' → Paired F (a ++ a') (b ++ b')
  | _, _, _, _, .nil, h => h
  | _, _, _, _, .cons r t, h => .cons r (pairedApp t h)
/-- the loop's state: what waits stands at aw, what was seen at as -/
structure WI (c : Cw) (P : Program) (B : Hp) (aw as : Addr) (σ : L2.St) (H : Hp) (w ks : List D) : Prop where
  sm : Same B H
  len : σ.length = 12
  s4 : σ[4]? = some (some (.ref aw))
  s5 : σ[5]? = some (some (.ref as))
  bw : B aw = none
  bs : B as = none
  ex : ∃ ws xs, H aw = some (.lst ws) ∧ RepL c H w ws ∧ w.all noL = true ∧ w.length ≤ 4001 ∧ H as = some (.ext (seenP P c.w as xs)) ∧ KeysR c H ks xs
theorem WI.same {c : Cw} {P : Program} {B : Hp} {aw as : Addr} {σ : L2.St} {H H' : Hp} {w ks : List D} (h : WI c P B aw as σ H w ks) (e : Same H H') : WI c P B aw as σ H' w ks := by
  obtain ⟨ws, xs, h1, h2, h3, h4, h5, h6⟩ := h.ex
  exact ⟨h.sm.trans e, h.len, h.s4, h.s5, h.bw, h.bs, ws, xs, e _ _ h1, h2.same e, h3, h4, e _ _ h5, h6.same e⟩
theorem WI.set {c : Cw} {P : Program} {B : Hp} {aw as : Addr} {σ : L2.St} {H : Hp} {w ks : List D} (h : WI c P B aw as σ H w ks) (j : Nat) (v : Option V) (h4 : j ≠ 4 := by decide) (h5 : j ≠ 5 := by decide) : WI c P B aw as (σ.set j v) H w ks :=
  ⟨h.sm, by simpa using h.len, by rw [List.getElem?_set_ne h4]; exact h.s4, by rw [List.getElem?_set_ne h5]; exact h.s5, h.bw, h.bs, h.ex⟩
theorem stepAdd_some {far near text : D} {w ks : List D} {z : List D × List D} (e : stepAdd far near text w ks = some z) : ∃ kk, fKey (rho3 far near text) = some (.tup kk) ∧ dpLe (.tup kk) 8 = true ∧
    (((ks.any fun x => eqD x (.tup kk)) = true ∧ z = (w, ks)) ∨ ((ks.any fun x => eqD x (.tup kk)) = false ∧ ∃ d, fTri (rho3 far near text) = some d ∧ noL d = true ∧ w.length ≤ 4000 ∧ ks.length ≤ 4000 ∧ z = (w ++ [d], ks ++ [.tup kk]))) := by
  unfold stepAdd at e
  split at e
  · rename_i kk e1
    obtain ⟨z1, e⟩ := cond_some e
    refine ⟨kk, e1, z1, ?_⟩
    cases z2 : ks.any fun x => eqD x (.tup kk) with
    | true => rw [z2] at e; cases e; exact .inl ⟨rfl, rfl⟩
    | false =>
      rw [z2] at e
      have e' : (match fTri (rho3 far near text) with
        | some d => cnd (noL d) (cnd (Nat.ble w.length 4000) (cnd (Nat.ble ks.length 4000) (some (w ++ [d], ks ++ [.tup kk])) none) none) none
        | none => none) = some z := e
      split at e'
      · rename_i d e2
        obtain ⟨y1, e'⟩ := cond_some e'
        obtain ⟨y2, e'⟩ := cond_some e'
        obtain ⟨y3, e'⟩ := cond_some e'
        cases e'
        exact .inr ⟨rfl, d, e2, y1, Nat.le_of_ble_eq_true y2, Nat.le_of_ble_eq_true y3, rfl⟩
      · cases e'
  · cases e
section
variable {c : Cw} {P : Program} {B : Hp} {aw as : Addr}
/-- key = ..; if key not in seen: .. -/
theorem step_read {far near text : D} {vf vn vt : V} {w ks : List D} {z : List D × List D} {σ : L2.St} {H G : Hp} {D0 : Ends} (h : WI c P B aw as σ H w ks) (hG : Same G H) (g4 : G aw = none) (g5 : G as = none)
    (h8 : σ[8]? = some (some vf)) (h9 : σ[9]? = some (some vn)) (h10 : σ[10]? = some (some vt)) (rf : Rep c G far vf) (rn : Rep c G near vn) (rt : Rep c G text vt) (e : stepAdd far near text w ks = some z)
    (q : ∀ σ' H', WI c P B aw as σ' H' z.1 z.2 → Same G H' → σ'[7]? = σ[7]? → D0.nx σ' H') : tSeq (tDk c) (tDi c P) D0 σ H := by
  obtain ⟨kk, e1, e2, e3⟩ := stepAdd_some e
  have sr : ∀ {H' : Hp}, Same G H' → SRep c H' σ (rho3 far near text) := fun s => ((srepN (n := 12) h.len).know 8 h8 (rf.same s)).know 9 h9 (rn.same s) |>.know 10 h10 (rt.same s)
  refine ⟨rho3 far near text, .tup kk, sr hG, e1, fun vk H1 s1 rk => ?_⟩
  have h1 := (h.same s1).set 11 (some vk)
  have gH1 := hG.trans s1
  have l11 : (σ.set 11 (some vk))[11]? = some (some vk) := List.getElem?_set_self (by rw [h.len]; decide)
  have l7 : (σ.set 11 (some vk))[7]? = σ[7]? := List.getElem?_set_ne (by decide)
  have m8 : (σ.set 11 (some vk))[8]? = some (some vf) := by rw [List.getElem?_set_ne (by decide)]; exact h8
  have m9 : (σ.set 11 (some vk))[9]? = some (some vn) := by rw [List.getElem?_set_ne (by decide)]; exact h9
  have m10 : (σ.set 11 (some vk))[10]? = some (some vt) := by rw [List.getElem?_set_ne (by decide)]; exact h10
  show tDi c P D0 (σ.set 11 (some vk)) H1
  generalize σ.set 11 (some vk) = σ1 at h1 l11 l7 m8 m9 m10 ⊢
  obtain ⟨ws, xs, w1, w2, w3, w4, w5, w6⟩ := h1.ex
  obtain ⟨b, kvs, k1, k2, k3, k4⟩ := id rk
  have ka : KeyAt c P H1 (.ref as) vk as b xs ks (.tup kk) := ⟨rfl, k1, w5, w6, rfl, e2, by rw [← k1]; exact rk⟩
  refine ⟨vk, l11, .ref as, h1.s5, as, b, xs, ks, .tup kk, ka, _, rfl, ?_⟩
  rcases e3 with ⟨y1, y2⟩ | ⟨y1, d, y2, y3, y4, y5, y6⟩
  · rw [y1, if_neg (by decide)]
    subst y2
    exact q σ1 H1 h1 gH1 l7
  · rw [y1, if_pos (by decide)]
    subst y6
    have hxl : xs.length = ks.length := (Paired.length w6).symm
    refine ⟨.ref as, h1.s5, vk, l11, as, b, xs, ks, .tup kk, ka, y1, by rw [hxl]; omega, ?_⟩
    have nas : aw ≠ as := fun zz => by rw [zz, w5] at w1; cases w1
    -- the heap with the new key
    have sK : Same (hide as H1) (upd H1 as (.ext (seenP P c.w as (xs ++ [(keyN (.tup kk), b, .bool true)])))) := fun bb u eb => by
      have n1 : bb ≠ as := fun zz => by rw [zz] at eb; unfold hide at eb; rw [if_pos rfl] at eb; cases eb
      rw [upd_ne n1]
      exact hide_le _ _ eb
    have gK : Same G (upd H1 as (.ext (seenP P c.w as (xs ++ [(keyN (.tup kk), b, .bool true)])))) := fun bb u eb => by
      rw [upd_ne (ne_of_none eb g5)]
      exact gH1 _ _ eb
    have bK : Same B (upd H1 as (.ext (seenP P c.w as (xs ++ [(keyN (.tup kk), b, .bool true)])))) := fun bb u eb => by
      rw [upd_ne (ne_of_none eb h1.bs)]
      exact h1.sm _ _ eb
    have awK : upd H1 as (.ext (seenP P c.w as (xs ++ [(keyN (.tup kk), b, .bool true)]))) aw = some (.lst ws) := by rw [upd_ne nas]; exact w1
    have asK : upd H1 as (.ext (seenP P c.w as (xs ++ [(keyN (.tup kk), b, .bool true)]))) as = some (.ext (seenP P c.w as (xs ++ [(keyN (.tup kk), b, .bool true)]))) := upd_same
    have wsK : RepL c (upd H1 as (.ext (seenP P c.w as (xs ++ [(keyN (.tup kk), b, .bool true)])))) w ws := (noLs_hide w5 big_ext w3 w2).same sK
    have ksK : KeysR c (upd H1 as (.ext (seenP P c.w as (xs ++ [(keyN (.tup kk), b, .bool true)])))) (ks ++ [.tup kk]) (xs ++ [(keyN (.tup kk), b, .bool true)]) := by
      refine pairedApp ((KeysR.hide w5 big_ext w6).same sK) (.cons ⟨rfl, rfl, e2, ?_⟩ .nil)
      rw [← k1]
      exact (Rep.hide w5 big_ext _ rfl rk).same sK
    generalize upd H1 as (.ext (seenP P c.w as (xs ++ [(keyN (.tup kk), b, .bool true)]))) = H2 at sK gK bK awK asK wsK ksK
    have sr1 : SRep c H2 σ1 (rho3 far near text) := ((srepN (n := 12) h1.len).know 8 m8 (rf.same gK)).know 9 m9 (rn.same gK) |>.know 10 m10 (rt.same gK)
    refine ⟨.ref aw, h1.s4, tyV_lst awK, rho3 far near text, d, sr1, y2, fun vd H3 s3 rd => ?_⟩
    have aw3 := s3 _ _ awK
    have as3 := s3 _ _ asK
    have sW : Same (hide aw H3) (upd H3 aw (.lst (ws ++ [vd]))) := fun bb u eb => by
      have n1 : bb ≠ aw := fun zz => by rw [zz] at eb; unfold hide at eb; rw [if_pos rfl] at eb; cases eb
      rw [upd_ne n1]
      exact hide_le _ _ eb
    refine ⟨aw, ws, vd, rfl, rfl, aw3, by rw [w2.length, sizeLine_eq]; omega, ?_⟩
    refine q _ _ ⟨fun bb u eb => ?_, h1.len, h1.s4, h1.s5, h1.bw, h1.bs, ws ++ [vd], _, upd_same, ?_, ?_, ?_, by rw [upd_ne (Ne.symm nas)]; exact as3, ?_⟩ (fun bb u eb => ?_) l7
    · rw [upd_ne (ne_of_none eb h1.bw)]
      exact s3 _ _ (bK _ _ eb)
    · exact ((noLs_hide aw3 big_lst w3 (wsK.same s3)).same sW).append ⟨vd, [], rfl, (noL_hide aw3 big_lst y3 rd).same sW, rfl⟩
    · show (w ++ [d]).all noL = true
      rw [List.all_append, w3, List.all_cons, y3]
      rfl
    · show (w ++ [d]).length ≤ 4001
      rw [List.length_append]
      show w.length + 1 ≤ 4001
      omega
    · exact (KeysR.hide aw3 big_lst (ksK.same s3)).same sW
    · rw [upd_ne (ne_of_none eb g4)]
      exact s3 _ _ (gK _ _ eb)
theorem addAll_cons {x : D} {r w ks : List D} {z : List D × List D} (e : addAll (x :: r) w ks = some z) : ∃ far near text y, tupOf x = some [far, near, text] ∧ stepAdd far near text w ks = some y ∧ addAll r y.1 y.2 = some z := by
  unfold addAll at e
  split at e
  · rename_i far near text e1
    split at e
    · rename_i w' ks' e2
      exact ⟨far, near, text, (w', ks'), e1, e2, e⟩
    · cases e
  · cases e
/-- for far, near, text in found: .. -/
theorem for_read {found w ks w2 ks2 : List D} {fs : List V} {af : Addr} {σ : L2.St} {H : Hp} {D0 : Ends} (h : WI c P B aw as σ H w ks) (h7 : σ[7]? = some (some (.ref af))) (hf : H af = some (.lst fs)) (rf : RepL c H found fs) (hn : found.all noL = true)
    (n4 : af ≠ aw) (n5 : af ≠ as) (e : addAll found w ks = some (w2, ks2)) (q : ∀ σ' H', WI c P B aw as σ' H' w2 ks2 → D0.nx σ' H') : tDb4 c P D0 σ H := by
  obtain ⟨ws, xs, w1, w2', w3, w4, w5, w6⟩ := h.ex
  have nas : as ≠ aw := fun zz => by rw [zz, w1] at w5; cases w5
  have g1 : hide aw H as = some (.ext (seenP P c.w as xs)) := by rw [hide_at nas]; exact w5
  have rG := noLs_hide g1 big_ext hn (noLs_hide w1 big_lst hn rf)
  have sG : Same (hide as (hide aw H)) H := fun b u eb => hide_le _ _ (hide_le _ _ eb)
  have g4 : hide as (hide aw H) aw = none := by rw [hide_at (Ne.symm nas)]; exact if_pos rfl
  have g5 : hide as (hide aw H) as = none := if_pos rfl
  have gf : hide as (hide aw H) af = some (.lst fs) := by rw [hide_at n5, hide_at n4]; exact hf
  generalize hide as (hide aw H) = G at rG sG g4 g5 gf
  refine ⟨.ref af, h7, af, rfl, ⟨fs, SqL.of hf⟩, ?_⟩
  refine for_it (walk_list (K := c.K) (a := af) (xs := fs)) (fun i σ' H' => ∃ w' ks', WI c P B aw as σ' H' w' ks' ∧ Same G H' ∧ addAll (found.drop i) w' ks' = some (w2, ks2)) ⟨w, ks, h, sG, by rw [List.drop_zero]; exact e⟩ (fun i σ' H' _ ⟨_, _, _, s, _⟩ => SqL.of (s _ _ gf)) ?_ ?_
  · rintro i x σ1 H1 H2 hi ⟨w', ks', h1, s1, e1⟩ y
    obtain ⟨rfl, hx⟩ := y
    have hif : i < found.length := by rw [← rG.length]; exact hi
    obtain ⟨v2, z1, z2⟩ := rG.get (i := i) (d := found[i]) (by simp [hif])
    rw [hx] at z1
    cases z1
    rw [dropD_at found i found[i] (by simp [hif])] at e1
    obtain ⟨far, near, text, y, t1, t2, t3⟩ := addAll_cons e1
    obtain ⟨t, vs, u1, u2, u3⟩ := tupOf_rep t1 z2
    obtain ⟨vf, r1, p1, p2, p3⟩ := u3
    obtain ⟨vn, r2, p4, p5, p6⟩ := p3
    obtain ⟨vt, r3, p7, p8, p9⟩ := p6
    have p10 : r3 = [] := p9
    subst p10 p7 p4 p1
    refine ⟨t, _, u1, SqT.same s1 u2, rfl, vf, _, rfl, vn, _, rfl, vt, _, rfl, rfl, ?_⟩
    have h2 := ((h1.set 8 (some vf)).set 9 (some vn)).set 10 (some vt)
    have l := h1.len
    refine step_read (G := G) h2 s1 g4 g5 ?_ ?_ ?_ p2 p5 p8 t2 fun σ' H' h3 s3 _ => ⟨_, _, h3, s3, t3⟩
    · rw [List.getElem?_set_ne (by decide), List.getElem?_set_ne (by decide), List.getElem?_set_self (by rw [l]; decide)]
    · rw [List.getElem?_set_ne (by decide), List.getElem?_set_self (by simp [l])]
    · rw [List.getElem?_set_self (by simp [l])]
  · rintro σ1 H1 ⟨w', ks', h1, s1, e1⟩
    rw [rG.length, List.drop_length] at e1
    cases e1
    exact q σ1 H1 h1
theorem diffLoop_cons {n : Nat} {x : D} {w' ks : List D} {d : D} (e : diffLoop (n + 1) (x :: w') ks = some d) : ∃ k y one other path fo, m_nearest [.lstx (x :: w')] = some (.int (.ofNat k)) ∧ (x :: w')[k]? = some y ∧ tupOf y = some [one, other, path] ∧ m_told_apart [one, other, path] = some fo ∧
    ((∃ s, fo = .str s ∧ d = .str s) ∨ ∃ found w2 ks2, fo = .lstx found ∧ found.all noL = true ∧ addAll found ((x :: w').eraseIdx k) ks = some (w2, ks2) ∧ diffLoop n w2 ks2 = some d) := by
  unfold diffLoop at e
  have e' : (match m_nearest [.lstx (x :: w')] with
      | some (.int (.ofNat k)) => (match (x :: w')[k]? with
        | some y => (match tupOf y with
          | some [one, other, path] => (match m_told_apart [one, other, path] with
            | some (.str s) => some (.str s)
            | some (.lstx found) => cnd (found.all noL) (match addAll found ((x :: w').eraseIdx k) ks with
              | some (w2, ks2) => diffLoop n w2 ks2
              | none => none) none
            | _ => none)
          | _ => none)
        | none => none)
      | _ => none) = some d := e
  split at e'
  · rename_i k e1
    split at e'
    · rename_i y e2
      split at e'
      · rename_i one other path e3
        split at e'
        · rename_i s e4
          cases e'
          exact ⟨k, y, one, other, path, _, e1, e2, e3, e4, .inl ⟨s, rfl, rfl⟩⟩
        · rename_i found e4
          obtain ⟨z1, e'⟩ := cond_some e'
          split at e'
          · rename_i w2 ks2 e5
            exact ⟨k, y, one, other, path, _, e1, e2, e3, e4, .inr ⟨found, w2, ks2, rfl, z1, e5, e'⟩⟩
          · cases e'
        · cases e'
      · cases e'
    · cases e'
  · cases e'
/-- one turn of the while -/
theorem body_read {n : Nat} {x : D} {w' ks : List D} {d : D} {σ : L2.St} {H : Hp} {D0 : Ends} (h : WI c P B aw as σ H (x :: w') ks) (e : diffLoop (n + 1) (x :: w') ks = some d) (qr : ∀ v H', Same B H' → Rep c H' d v → D0.rt v H')
    (q : ∀ σ' H' w2 ks2, WI c P B aw as σ' H' w2 ks2 → diffLoop n w2 ks2 = some d → D0.nx σ' H') : tDb c P D0 σ H := by
  obtain ⟨k, y, one, other, path, fo, e1, e2, e3, e4, e5⟩ := diffLoop_cons e
  have l := h.len
  obtain ⟨ws, xs, w1, w2, w3, w4, w5, w6⟩ := h.ex
  have hk : k < (x :: w').length := (List.getElem?_eq_some_iff.mp e2).1
  refine ⟨.ref aw, h.s4, tyV_lst w1, (List.replicate 12 none).set 4 (some (.lstx (x :: w'))), .int (.ofNat k), (srepN l).know 4 h.s4 ⟨aw, ws, rfl, w1, w2⟩, e1, fun vk H1 s1 rk => ?_⟩
  have h1 := h.same s1
  have q1 := s1 _ _ w1
  have q2 := w2.same s1
  have q5 := s1 _ _ w5
  have q6 := w6.same s1
  obtain ⟨vy, y1, y2⟩ := q2.get e2
  have nas : as ≠ aw := fun zz => by rw [zz, w1] at w5; cases w5
  have ny : noL y = true := List.all_eq_true.mp w3 y (List.mem_of_getElem? e2)
  have y3 := noL_hide q1 big_lst ny y2
  have sE : Same (hide aw H1) (upd H1 aw (.lst (ws.eraseIdx k))) := fun bb u eb => by
    have n1 : bb ≠ aw := fun zz => by rw [zz] at eb; unfold hide at eb; rw [if_pos rfl] at eb; cases eb
    rw [upd_ne n1]
    exact hide_le _ _ eb
  refine ⟨aw, ws, ((k : Nat) : Int), k, vy, rfl, by rw [show vk = V.int (Int.ofNat k) from rk]; rfl, q1, by omega, ?_, seqIx (by rw [w2.length]; exact hk), y1, ?_⟩
  · have : k < 4001 := Nat.lt_of_lt_of_le hk w4
    omega
  obtain ⟨t, vs, u1, u2, u3⟩ := tupOf_rep e3 (y3.same sE)
  obtain ⟨v1, r1, p1, p2, p3⟩ := u3
  obtain ⟨v2, r2, p4, p5, p6⟩ := p3
  obtain ⟨v3, r3, p7, p8, p9⟩ := p6
  have p10 : r3 = [] := p9
  subst p10 p7 p4 p1
  refine ⟨t, _, u1, u2, rfl, v1, _, rfl, v2, _, rfl, v3, _, rfl, rfl, ?_⟩
  have hE : WI c P B aw as σ (upd H1 aw (.lst (ws.eraseIdx k))) ((x :: w').eraseIdx k) ks := by
    refine ⟨fun bb u eb => ?_, l, h.s4, h.s5, h.bw, h.bs, ws.eraseIdx k, xs, upd_same, (RepL.erase k (noLs_hide q1 big_lst w3 q2)).same sE, all_erase k w3, ?_, by rw [upd_ne nas]; exact q5, (KeysR.hide q1 big_lst q6).same sE⟩
    · rw [upd_ne (ne_of_none eb h.bw)]
      exact h1.sm _ _ eb
    · exact Nat.le_trans (List.length_eraseIdx_le ..) w4
  generalize upd H1 aw (.lst (ws.eraseIdx k)) = H2 at p2 p5 p8 hE sE
  have hS := ((hE.set 2 (some v1)).set 3 (some v2)).set 6 (some v3)
  have m2 : (((σ.set 2 (some v1)).set 3 (some v2)).set 6 (some v3))[2]? = some (some v1) := by rw [List.getElem?_set_ne (by decide), List.getElem?_set_ne (by decide), List.getElem?_set_self (by rw [l]; decide)]
  have m3 : (((σ.set 2 (some v1)).set 3 (some v2)).set 6 (some v3))[3]? = some (some v2) := by rw [List.getElem?_set_ne (by decide), List.getElem?_set_self (by simp [l])]
  have m6 : (((σ.set 2 (some v1)).set 3 (some v2)).set 6 (some v3))[6]? = some (some v3) := by rw [List.getElem?_set_self (by simp [l])]
  show tSeq (tDb2 c) (tSeq (tDb3 c) (tDb4 c P)) D0 (((σ.set 2 (some v1)).set 3 (some v2)).set 6 (some v3)) H2
  generalize ((σ.set 2 (some v1)).set 3 (some v2)).set 6 (some v3) = σ2 at hS m2 m3 m6 ⊢
  have eo : fTold (((((List.replicate 12 none).set 2 (some one)).set 3 (some other)).set 6 (some path))) = onlyF fo := by
    show Rp.e1 onlyF (eA m_told_apart (aCons (eVar 2) (aCons (eVar 3) (aCons (eVar 6) aNil)))) _ = _
    have : eA m_told_apart (aCons (eVar 2) (aCons (eVar 3) (aCons (eVar 6) aNil))) ((((List.replicate 12 none).set 2 (some one)).set 3 (some other)).set 6 (some path)) = some fo := e4
    unfold Rp.e1
    rw [this]
  have sr := (((srepN (c := c) (H := H2) hS.len).know 2 m2 p2).know 3 m3 p5).know 6 m6 p8
  rcases e5 with ⟨st, z1, z2⟩ | ⟨found, w2a, ks2, z1, z2, z3, z4⟩
  · subst z1 z2
    refine ⟨_, .str st, sr, eo, fun vf H3 s3 rf nw => ?_⟩
    have hS3 := (hS.same s3).set 7 (some vf)
    have m7 : (σ2.set 7 (some vf))[7]? = some (some vf) := List.getElem?_set_self (by rw [hS.len]; decide)
    refine ⟨(List.replicate 12 none).set 7 (some (.str st)), true, (srepN hS3.len).know 7 m7 rf, rfl, fun H4 s4 => ?_⟩
    show tRet (tVar 7) _ (σ2.set 7 (some vf)) H4
    exact ⟨vf, m7, qr vf H4 ((hS.sm.trans s3).trans s4) (rf.same s4)⟩
  · subst z1
    refine ⟨_, .lstx found, sr, eo, fun vf H3 s3 rf nw => ?_⟩
    have hS3 := (hS.same s3).set 7 (some vf)
    have m7 : (σ2.set 7 (some vf))[7]? = some (some vf) := List.getElem?_set_self (by rw [hS.len]; decide)
    refine ⟨(List.replicate 12 none).set 7 (some (.lstx found)), false, (srepN hS3.len).know 7 m7 rf, rfl, fun H4 s4 => ?_⟩
    show tDb4 c P D0 (σ2.set 7 (some vf)) H4
    have hS4 := hS3.same s4
    obtain ⟨af, fs, f1, f2, f3⟩ := rf.same s4
    subst f1
    have na := nw af rfl
    obtain ⟨wsE, xsE, x1, _, _, _, x5, _⟩ := hS.ex
    exact for_read hS4 m7 f2 f3 z2 (fun zz => by rw [zz, x1] at na; cases na) (fun zz => by rw [zz, x5] at na; cases na) z3 fun σ' H' h5 => q σ' H' _ _ h5 z4
end
section
variable {c : Cw} {P : Program}
theorem diffBody_some {first second d : D} (e : diffBody first second = some d) : ∃ one other w, m_need_lead [first] = some one ∧ m_need_lead [second] = some other ∧
    fIf [none, none, some one, some other, none, none, none, none, none, none, none, none] = some (.lstx w) ∧ w.all noL = true ∧ w.length ≤ 4001 ∧ diffLoop 200 w [] = some d := by
  unfold diffBody at e
  split at e
  · rename_i one e1
    split at e
    · rename_i other e2
      split at e
      · rename_i w e3
        obtain ⟨z1, e⟩ := cond_some e
        obtain ⟨z2, e⟩ := cond_some e
        exact ⟨one, other, w, e1, e2, e3, z1, Nat.le_of_ble_eq_true z2, e⟩
      · cases e
    · cases e
  · cases e
theorem while_read {aw as : Addr} {w0 : List D} {d : D} {n : Nat} {B : Hp} {σ : L2.St} {H : Hp} {D0 : Ends} (h : WI c P B aw as σ H w0 []) (e : diffLoop n w0 [] = some d) (qr : ∀ v H', Same B H' → Rep c H' d v → D0.rt v H') :
    tSeq (tWhile (tDc c) (tDb c P)) (tRet (tC .non)) D0 σ H := by
  refine ⟨fun m σ' H' => ∃ w ks, WI c P B aw as σ' H' w ks ∧ diffLoop m w ks = some d, ⟨n, w0, [], h, e⟩, ?_⟩
  rintro m σ1 H1 ⟨w, ks, h1, e1⟩
  obtain ⟨ws, xs, w1, w2, w3, w4, w5, w6⟩ := h1.ex
  refine ⟨.ref aw, h1.s4, Nat.zero_le _, fun pz hz => ?_⟩
  have sz : Same H1 (upd H1 pz (.lst [])) := same_new hz
  refine ⟨aw, pz, ws, rfl, rfl, SqL.of (sz _ _ w1), SqL.of upd_same, _, rfl, ?_⟩
  have h2 := h1.same sz
  generalize upd H1 pz (.lst []) = H2 at sz h2
  cases m with
  | zero => cases e1
  | succ m =>
    cases w with
    | nil =>
      have z : ws = [] := w2
      subst z
      cases e1
      show tRet (tC .non) D0 σ1 H2
      exact qr .non H2 h2.sm rfl
    | cons x w' =>
      obtain ⟨v, r, z1, _, _⟩ := w2
      subst z1
      show ∃ N : L2.St → Hp → Prop, _ ∧ _
      exact ⟨fun σ' H' => ∃ w ks, WI c P B aw as σ' H' w ks ∧ diffLoop m w ks = some d, fun σ' H' z => ⟨m, Nat.lt_succ_self m, z⟩, body_read h2 e1 qr fun σ' H' w2 ks2 h3 e3 => ⟨w2, ks2, h3, e3⟩⟩
theorem diff_read {σ : L2.St} {H : Hp} {ρ : Rho} {r : R} {D0 : Ends} (h : SRep c H σ ρ) (e : b_difference ρ = some r) (q : Aft c H D0 r) : tDf c P D0 σ H := by
  unfold b_difference at e
  split at e
  · rename_i first second _ _ _ _ _ _ _ _ _ _
    split at e
    · rename_i d e0
      cases e
      obtain ⟨one, other, w, e1, e2, e3, e4, e5, e6⟩ := diffBody_some e0
      have l : σ.length = 12 := h.1
      refine ⟨_, one, h, e1, fun va H1 s1 ra => ⟨_, other, h.same s1, e2, fun vb H2 s2 rb => ⟨va, vb, rfl, ?_⟩⟩⟩
      have l2 : ((σ.set 2 (some va)).set 3 (some vb)).length = 12 := by simpa using l
      have m2 : ((σ.set 2 (some va)).set 3 (some vb))[2]? = some (some va) := by rw [List.getElem?_set_ne (by decide), List.getElem?_set_self (by rw [l]; decide)]
      have m3 : ((σ.set 2 (some va)).set 3 (some vb))[3]? = some (some vb) := by rw [List.getElem?_set_self (by simp [l])]
      show tSeq (tD2 c P) (tSeq (tWhile (tDc c) (tDb c P)) (tRet (tC .non))) D0 ((σ.set 2 (some va)).set 3 (some vb)) H2
      generalize (σ.set 2 (some va)).set 3 (some vb) = σ2 at l2 m2 m3 ⊢
      have s12 := s1.trans s2
      refine ⟨_, .lstx w, ((srepN (n := 12) l2).know 2 m2 (ra.same s2)).know 3 m3 rb, e3, fun vw H3 s3 rw nw p hp => ⟨vw, .ref p, rfl, ?_⟩⟩
      obtain ⟨aw, ws, z1, z2, z3⟩ := rw
      subst z1
      have s13 := s12.trans s3
      have up : ∀ {a : Addr} {H' : Hp}, Same H H' → H' a = none → H a = none := fun {a H'} s z => by
        cases hh : H a with
        | none => rfl
        | some u =>
          have := s _ _ hh
          rw [z] at this
          cases this
      have s4 : Same H3 (upd H3 p (.ext (seenP P c.w p []))) := same_new hp
      show tSeq (tWhile (tDc c) (tDb c P)) (tRet (tC .non)) D0 ((σ2.set 4 (some (.ref aw))).set 5 (some (.ref p))) (upd H3 p (.ext (seenP P c.w p [])))
      refine while_read (aw := aw) (as := p) (B := H) ⟨s13.trans s4, by simpa using l2, ?_, ?_, up s12 (nw aw rfl), up s13 hp, ws, [], s4 _ _ z2, z3.same s4, e4, e5, upd_same, .nil⟩ e6 q
      · rw [List.getElem?_set_ne (by decide), List.getElem?_set_self (by rw [l2]; decide)]
      · rw [List.getElem?_set_self (by simp [l2])]
    · cases e
  · cases e
end
section
variable {P : Program} {w : World} {K : PySem.W.Frag} {mg : Str → Option Value} {base : Heap} {C : Addr}
theorem F_difference (T : Top P w K mg base C) : FnC P w K mg base C 19 "difference" m_difference :=
  fnc (N := ["first", "second", "one", "other", "waiting", "seen", "path", "found", "far", "near", "text", "key"]) (ps := ["first", "second"]) (k := 18) T.d_difference sc_difference rfl rfl (fun _ _ _ _ _ _ us hl => match us, hl with | [_, _], _ => rfl)
    (fun f cdv A outer s H E hr => ⟨_, ps_difference T f cdv A outer s H E hr, fun σ H ρ r D h e q => diff_read h e q⟩)
end
end
end Rp
set_option Elab.async false
set_option linter.all false
set_option maxRecDepth 100000
set_option maxHeartbeats 4000000
namespace Rp
noncomputable section
open PySem PySem.Spec PyProof.Rows L2 SX
structure Itw_l_lexed (P : Program) (w : World) (K : PySem.W.Frag) (mg : Str → Option Value) (base : Heap) (C : Addr) (k : Nat) (g : Gtw_l_lexed) : Prop where
  l_lexed : FnC P w K mg base C k "_law_lexed" g.l_lexed
  l_template_end : FnC P w K mg base C k "_law_template_end" g.l_template_end
  l_token : FnC P w K mg base C k "_law_token" g.l_token
theorem sc_l_lexed : FnScope ["_law_s", "_law_at", "_law_is_field", "_law_found", "_law_depth", "_law_is_begun", "_law_last", "_law_far", "_law_one"] ["_law_s", "_law_at", "_law_is_field"] (defScope (top 81)) := ⟨rfl, rfl, rfl, by decide +kernel, rfl, by decide +kernel, by decide +kernel⟩
theorem bx_l_lexed {P : Program} {w : World} {K : PySem.W.Frag} {mg : Str → Option Value} {base : Heap} {C : Addr} (T : Top P w K mg base C) (j : Nat) (hj : 66 ≤ j) (g : Gtw_l_lexed) (I : Itw_l_lexed P w K mg base C j g) (f : Addr) (cdv : Value) (A : Around) (outer : List Env) (s : Shared) (H : Hp) (E : XK) (hr : Room j (A.deeper (envOfC "_law_lexed" (defScope (top 81)) s.heap.objs.size f cdv))) :
    LB 3 C (CxD P w K mg base ["_law_s", "_law_at", "_law_is_field", "_law_found", "_law_depth", "_law_is_begun", "_law_last", "_law_far", "_law_one"] "_law_lexed" (defScope (top 81)) f cdv A outer s H E) (defBody (top 81)) (b_l_lexed g) := by
    have S := sc_l_lexed
    have hu := hr.units
    have F_l_token := I.l_token
    exact (lb_cons (ls_init rfl S.nd (gl_cons 4 S.nd (gl_cons 5 S.nd (gl_cons 6 S.nd gl_nil))) (ax_cons (px_callTy cl_int (by rfl) T.int (by decide +kernel) (ax_cons (px_var (i := 2)) ax_nil)) (ax_cons (px_var (i := 2)) (ax_cons px_int ax_nil))))
    (lb_cons (ls_while 100 PassesOwn.never (tx_cmp op_dLt (px_var (i := 1)) (px_callB cl_len (by rfl) T.len (by decide +kernel) (ax_cons (px_var (i := 0)) ax_nil)) (nomark _)) (lb_cons (ls_set (j := 7) S.nd (px_var (i := 1)))
    (lb_cons (ls_while 100 PassesOwn.never (tx_cmp (op_dEq hu) (px_sl (px_var (i := 0)) (ox_some (px_var (i := 7))) (ox_some (px_op op_dAdd (px_var (i := 7)) px_int))) (px_str (s := [32]) (by rfl) (by rfl)) (nomark _)) (lb_one (ls_set (j := 7) S.nd (px_op op_dAdd (px_var (i := 7)) px_int))))
    (lb_cons (ls_if (WX.tx (wx_and (tx_not (tx_val (px_var (i := 5)))) (wx_and1 (tx_cmp op_dIn (px_sl (px_var (i := 0)) (ox_some (px_var (i := 7))) (ox_some (px_op op_dAdd (px_var (i := 7)) px_int))) (px_tup (ax_cons (px_str (s := [10]) (by rfl) (by rfl)) (ax_cons (px_str (s := [35]) (by rfl) (by rfl)) (ax_cons (px_str (s := []) (by rfl) (by rfl)) ax_nil)))) (by rfl))))) (lb_cons (ls_setF S.nd (fx_add (px_var (i := 3)) (px_op op_dMul (px_lst (ax_cons (px_str (s := [101, 109, 112, 116, 121]) (by rfl) (by rfl)) ax_nil)) (px_callTy cl_int (by rfl) T.int (by decide +kernel) (ax_cons (px_cmp (op_dEq hu) (px_sl (px_var (i := 0)) (ox_some (px_var (i := 7))) (ox_some (px_op op_dAdd (px_var (i := 7)) px_int))) (px_str (s := [10]) (by rfl) (by rfl)) (nomark _)) ax_nil)))))
    (lb_cons (ls_set (j := 1) S.nd (px_op op_dAdd (px_find (px_var (i := 0)) (px_str (s := [10]) (by rfl) (by rfl)) (px_var (i := 7))) px_int))
    (lb_cons (ls_set (j := 6) S.nd (px_ifExp (tx_cmp (op_dEq hu) (px_sl (px_var (i := 0)) (ox_some (px_var (i := 7))) (ox_some (px_op op_dAdd (px_var (i := 7)) px_int))) (px_str (s := [10]) (by rfl) (by rfl)) (nomark _)) (px_var (i := 1)) (px_var (i := 6))))
    (lb_cons (ls_if (tx_cmp (op_dEq hu) (px_var (i := 1)) px_int (nomark _)) (lb_one (ls_ret (px_tup (ax_cons px_non (ax_cons (px_var (i := 7)) ax_nil))))) lb_nil)
    (lb_one ls_cont))))) lb_nil)
    (lb_cons (ls_if (tx_not (tx_val (px_var (i := 5)))) (lb_one (ls_parF (k := 5) rfl S.nd (fx_add (px_var (i := 3)) (px_lst (ax_cons (px_op op_dSub (px_var (i := 7)) (px_var (i := 1))) ax_nil))) px_bl)) lb_nil)
    (lb_cons (ls_set (j := 1) S.nd (px_var (i := 7)))
    (lb_one (ls_if (tx_cmp (op_dEq hu) (px_sl (px_var (i := 0)) (ox_some (px_var (i := 1))) (ox_some (px_op op_dAdd (px_var (i := 1)) px_int))) (px_str (s := [35]) (by rfl) (by rfl)) (nomark _)) (lb_one (ls_set (j := 1) S.nd (px_ifExp (tx_cmp op_dGe (px_find (px_var (i := 0)) (px_str (s := [10]) (by rfl) (by rfl)) (px_var (i := 1))) px_int (nomark _)) (px_find (px_var (i := 0)) (px_str (s := [10]) (by rfl) (by rfl)) (px_var (i := 1))) (px_callB cl_len (by rfl) T.len (by decide +kernel) (ax_cons (px_var (i := 0)) ax_nil))))) (lb_one (ls_if (tx_cmp (op_dEq hu) (px_sl (px_var (i := 0)) (ox_some (px_var (i := 1))) (ox_some (px_op op_dAdd (px_var (i := 1)) px_int))) (px_str (s := [10]) (by rfl) (by rfl)) (nomark _)) (lb_cons (ls_parF (k := 1) rfl S.nd (fx_add (px_var (i := 3)) (px_op op_dMul (px_lst (ax_cons (px_str (s := [101, 110, 100]) (by rfl) (by rfl)) ax_nil)) (px_callTy cl_int (by rfl) T.int (by decide +kernel) (ax_cons (px_cmp (op_dEq hu) (px_var (i := 4)) px_int (nomark _)) ax_nil)))) (px_op op_dAdd (px_var (i := 1)) px_int))
    (lb_one (ls_par (j := 5) (k := 6) rfl S.nd (px_cmp op_dGt (px_var (i := 4)) px_int (nomark _)) (px_ifExp (tx_cmp (op_dEq hu) (px_var (i := 4)) px_int (nomark _)) (px_var (i := 1)) (px_var (i := 6)))))) (lb_one (ls_if (WX.tx (wx_and (tx_cmp (op_dEq hu) (px_sl (px_var (i := 0)) (ox_some (px_var (i := 1))) (ox_some (px_op op_dAdd (px_var (i := 1)) px_int))) (px_str (s := [92, 10]) (by rfl) (by rfl)) (nomark _)) (wx_and1 (WX.tx (wx_or (tx_cmp (op_dEq hu) (px_var (i := 3)) (px_lst ax_nil) (nomark _)) (wx_or1 (tx_not (tx_val (px_isi_int T.isinstance T.int (px_ix (px_var (i := 3)) (px_neg px_int))))))))))) (lb_one (ls_set (j := 1) S.nd (px_op op_dAdd (px_var (i := 1)) px_int))) (lb_one (ls_if (WX.tx (wx_and (tx_val (px_var (i := 2))) (wx_and (tx_cmp (op_dEq hu) (px_var (i := 4)) px_int (nomark _)) (wx_and1 (tx_cmp (op_dEq hu) (px_sl (px_var (i := 0)) (ox_some (px_var (i := 1))) (ox_some (px_op op_dAdd (px_var (i := 1)) px_int))) (px_str (s := [125]) (by rfl) (by rfl)) (nomark _)))))) (lb_one (ls_ret (px_tup (ax_cons (px_var (i := 3)) (ax_cons (px_op op_dAdd (px_var (i := 1)) px_int) ax_nil))))) (lb_one (ls_if (tx_cmp op_dLt (px_var (i := 1)) (px_callB cl_len (by rfl) T.len (by decide +kernel) (ax_cons (px_var (i := 0)) ax_nil)) (nomark _)) (lb_cons (ls_unp rfl (gl_cons 8 S.nd (gl_cons 1 S.nd gl_nil)) (px_call F_l_token hr (by omega) (ax_cons (px_var (i := 0)) (ax_cons (px_var (i := 1)) ax_nil))))
    (lb_cons (ls_set (j := 4) S.nd (px_op op_dSub (px_op op_dAdd (px_var (i := 4)) (px_callTy cl_int (by rfl) T.int (by decide +kernel) (ax_cons (px_cmp op_dIn (px_var (i := 8)) (px_tup (ax_cons (px_str (s := [40]) (by rfl) (by rfl)) (ax_cons (px_str (s := [91]) (by rfl) (by rfl)) (ax_cons (px_str (s := [123]) (by rfl) (by rfl)) ax_nil)))) (by rfl)) ax_nil))) (px_callTy cl_int (by rfl) T.int (by decide +kernel) (ax_cons (px_cmp op_dIn (px_var (i := 8)) (px_tup (ax_cons (px_str (s := [41]) (by rfl) (by rfl)) (ax_cons (px_str (s := [93]) (by rfl) (by rfl)) (ax_cons (px_str (s := [125]) (by rfl) (by rfl)) ax_nil)))) (by rfl)) ax_nil))))
    (lb_cons (ls_if (WX.tx (wx_or (tx_cmp op_dIs (px_var (i := 8)) px_non (nomark _)) (wx_or1 (tx_cmp op_dLt (px_var (i := 4)) (px_callTy cl_int (by rfl) T.int (by decide +kernel) (ax_cons (px_var (i := 2)) ax_nil)) (nomark _))))) (lb_one (ls_ret (px_tup (ax_cons px_non (ax_cons (px_var (i := 1)) ax_nil))))) lb_nil)
    (lb_one (ls_app (px_var (i := 8)) (pv 3)))))) lb_nil))))))))))))))))
    (lb_one (ls_ret (px_tup (ax_cons (px_ifExp (tx_val (px_var (i := 5))) px_non (px_var (i := 3))) (ax_cons (px_var (i := 6)) ax_nil)))))))
theorem sc_l_template_end : FnScope ["_law_s", "_law_at", "_law_t"] ["_law_s", "_law_at"] (defScope (top 79)) := ⟨rfl, rfl, rfl, by decide +kernel, rfl, by decide +kernel, by decide +kernel⟩
theorem bx_l_template_end {P : Program} {w : World} {K : PySem.W.Frag} {mg : Str → Option Value} {base : Heap} {C : Addr} (T : Top P w K mg base C) (j : Nat) (hj : 66 ≤ j) (g : Gtw_l_lexed) (I : Itw_l_lexed P w K mg base C j g) (f : Addr) (cdv : Value) (A : Around) (outer : List Env) (s : Shared) (H : Hp) (E : XK) (hr : Room j (A.deeper (envOfC "_law_template_end" (defScope (top 79)) s.heap.objs.size f cdv))) :
    BX C (CxD P w K mg base ["_law_s", "_law_at", "_law_t"] "_law_template_end" (defScope (top 79)) f cdv A outer s H E) (defBody (top 79)) (b_l_template_end g) := by
    have S := sc_l_template_end
    have hu := hr.units
    have F_l_expr := F_l_expr T 64
    have F_l_lexed := I.l_lexed
    exact (bx_cons (sx_set (i := 1) S.nd (px_op op_dAdd (px_var (i := 1)) px_int))
    (bx_cons (sx_while 100 PassesOwn.never (WX.tx (wx_and (tx_cmp op_dLt (px_var (i := 1)) (px_callB cl_len (by rfl) T.len (by decide +kernel) (ax_cons (px_var (i := 0)) ax_nil)) (nomark _)) (wx_and1 (tx_cmp op_dNotIn (px_ix (px_var (i := 0)) (px_var (i := 1))) (px_tup (ax_cons (px_str (s := [10]) (by rfl) (by rfl)) (ax_cons (px_str (s := [34]) (by rfl) (by rfl)) (ax_cons (px_str (s := [125]) (by rfl) (by rfl)) ax_nil)))) (by rfl))))) (bx_one (sx_if (tx_cmp (op_dEq hu) (px_ix (px_var (i := 0)) (px_var (i := 1))) (px_str (s := [123]) (by rfl) (by rfl)) (nomark _)) (bx_cons (sx_unp rfl (gx_cons 2 S.nd (gx_cons 1 S.nd gx_nil)) (px_call F_l_lexed hr (by omega) (ax_cons (px_var (i := 0)) (ax_cons (px_op op_dAdd (px_var (i := 1)) px_int) (ax_cons px_bl ax_nil)))))
    (bx_one (sx_if (WX.tx (wx_or (tx_cmp op_dIs (px_var (i := 2)) px_non (nomark _)) (wx_or1 (tx_cmp (op_dNe hu) (px_call F_l_expr hr (by omega) (ax_cons (px_op op_dAdd (px_var (i := 2)) (px_lst (ax_cons (px_str (s := []) (by rfl) (by rfl)) ax_nil))) (ax_cons px_int ax_nil))) (px_callB cl_len (by rfl) T.len (by decide +kernel) (ax_cons (px_var (i := 2)) ax_nil)) (nomark _))))) (bx_one (sx_ret (px_op op_dSub px_int px_int))) bx_nil))) (bx_one (sx_if (tx_cmp (op_dEq hu) (px_sl (px_var (i := 0)) (ox_some (px_var (i := 1))) (ox_some (px_op op_dAdd (px_var (i := 1)) px_int))) (px_str (s := [92, 10]) (by rfl) (by rfl)) (nomark _)) (bx_one (sx_ret (px_op op_dSub px_int px_int))) (bx_one (sx_set (i := 1) S.nd (px_op op_dAdd (px_var (i := 1)) (px_ifExp (tx_cmp (op_dEq hu) (px_ix (px_var (i := 0)) (px_var (i := 1))) (px_str (s := [92]) (by rfl) (by rfl)) (nomark _)) px_int px_int)))))))))
    (bx_one (sx_ret (px_ifExp (tx_cmp (op_dEq hu) (px_sl (px_var (i := 0)) (ox_some (px_var (i := 1))) (ox_some (px_op op_dAdd (px_var (i := 1)) px_int))) (px_str (s := [34]) (by rfl) (by rfl)) (nomark _)) (px_op op_dAdd (px_var (i := 1)) px_int) (px_op op_dSub px_int px_int))))))
theorem sc_l_token : FnScope ["_law_s", "_law_at", "_law_sign", "_law_far", "_law_is_wrong", "_law_one", "_law_some"] ["_law_s", "_law_at"] (defScope (top 80)) := ⟨rfl, rfl, rfl, by decide +kernel, rfl, by decide +kernel, by decide +kernel⟩
theorem bx_l_token {P : Program} {w : World} {K : PySem.W.Frag} {mg : Str → Option Value} {base : Heap} {C : Addr} (T : Top P w K mg base C) (j : Nat) (hj : 66 ≤ j) (g : Gtw_l_lexed) (I : Itw_l_lexed P w K mg base C j g) (f : Addr) (cdv : Value) (A : Around) (outer : List Env) (s : Shared) (H : Hp) (E : XK) (hr : Room j (A.deeper (envOfC "_law_token" (defScope (top 80)) s.heap.objs.size f cdv))) :
    BX C (CxD P w K mg base ["_law_s", "_law_at", "_law_sign", "_law_far", "_law_is_wrong", "_law_one", "_law_some"] "_law_token" (defScope (top 80)) f cdv A outer s H E) (defBody (top 80)) (b_l_token g) := by
    have S := sc_l_token
    have hu := hr.units
    have F_l_string_end := F_l_string_end T
    have F_l_template_end := I.l_template_end
    have F_l_word_end := F_l_word_end T
    exact (bx_cons (sx_par (i := 2) (j := 3) rfl S.nd (px_ix (px_var (i := 0)) (px_var (i := 1))) (px_call F_l_word_end hr (by omega) (ax_cons (px_var (i := 0)) (ax_cons (px_var (i := 1)) ax_nil))))
    (bx_cons (sx_if (tx_cmp op_dIn (px_var (i := 2)) (px_str (s := [48, 49, 50, 51, 52, 53, 54, 55, 56, 57]) (by rfl) (by rfl)) (by rfl)) (bx_cons (sx_set (i := 4) S.nd (px_or (px_cmp (op_dNe hu) (px_lc1 5 rfl S.nd (ix_strD (px_sl (px_var (i := 0)) (ox_some (px_var (i := 1))) (ox_some (px_var (i := 3))))) rfl (blkOk_by (N := ["_law_s", "_law_at", "_law_sign", "_law_far", "_law_is_wrong", "_law_one", "_law_some"]) (sc := defScope (top 80)) (by decide +kernel)) (fun _ _ _ _ _ => pg_name (i := 5) S.nd rfl (Or.inl rfl)) (fun _ _ _ _ _ => (tx_cmp op_dNotIn (px_var (i := 5)) (px_str (s := [48, 49, 50, 51, 52, 53, 54, 55, 56, 57]) (by rfl) (by rfl)) (by rfl))) (fun _ _ _ _ _ => (px_var (i := 5)))) (px_lst ax_nil) (nomark _)) (px_one (px_and (px_cmp (op_dEq hu) (px_var (i := 2)) (px_str (s := [48]) (by rfl) (by rfl)) (nomark _)) (px_one (px_cmp op_dGt (px_var (i := 3)) (px_op op_dAdd (px_var (i := 1)) px_int) (nomark _)))))))
    (bx_one (sx_ret (px_tup (ax_cons (px_ifExp (tx_val (px_var (i := 4))) px_non (px_str (s := [100]) (by rfl) (by rfl))) (ax_cons (px_var (i := 3)) ax_nil)))))) bx_nil)
    (bx_cons (sx_if (tx_cmp op_dGt (px_var (i := 3)) (px_var (i := 1)) (nomark _)) (bx_cons (sx_set (i := 6) S.nd (px_split (a := [97, 110, 100, 32, 98, 114, 101, 97, 107, 32, 100, 101, 102, 32, 101, 108, 105, 102, 32, 101, 108, 115, 101, 32, 101, 120, 99, 101, 112, 116, 32, 102, 105, 110, 97, 108, 108, 121, 32, 102, 111, 114, 32, 105, 102, 32, 105, 110, 32, 110, 111, 116, 32, 111, 114, 32, 112, 97, 115, 115, 32, 114, 101, 116, 117, 114, 110, 32, 116, 114, 121, 32, 119, 104, 105, 108, 101]) (b := [32]) (l := [[97, 110, 100], [98, 114, 101, 97, 107], [100, 101, 102], [101, 108, 105, 102], [101, 108, 115, 101], [101, 120, 99, 101, 112, 116], [102, 105, 110, 97, 108, 108, 121], [102, 111, 114], [105, 102], [105, 110], [110, 111, 116], [111, 114], [112, 97, 115, 115], [114, 101, 116, 117, 114, 110], [116, 114, 121], [119, 104, 105, 108, 101]]) (by rfl) (by rfl) (by decide +kernel)))
    (bx_one (sx_ret (px_tup (ax_cons (px_ifExp (tx_cmp op_dIn (px_sl (px_var (i := 0)) (ox_some (px_var (i := 1))) (ox_some (px_var (i := 3)))) (px_var (i := 6)) (by rfl)) (px_sl (px_var (i := 0)) (ox_some (px_var (i := 1))) (ox_some (px_var (i := 3)))) (px_str (s := [110]) (by rfl) (by rfl))) (ax_cons (px_var (i := 3)) ax_nil)))))) bx_nil)
    (bx_cons (sx_if (WX.tx (wx_or (tx_cmp op_dIn (px_var (i := 2)) (px_tup (ax_cons (px_str (s := [39]) (by rfl) (by rfl)) (ax_cons (px_str (s := [34]) (by rfl) (by rfl)) ax_nil))) (by rfl)) (wx_or1 (tx_cmp (op_dEq hu) (px_sl (px_var (i := 0)) (ox_some (px_var (i := 1))) (ox_some (px_op op_dAdd (px_var (i := 1)) px_int))) (px_str (s := [36, 34]) (by rfl) (by rfl)) (nomark _))))) (bx_cons (sx_set (i := 3) S.nd (px_ifExp (tx_cmp (op_dEq hu) (px_var (i := 2)) (px_str (s := [36]) (by rfl) (by rfl)) (nomark _)) (px_call F_l_template_end hr (by omega) (ax_cons (px_var (i := 0)) (ax_cons (px_var (i := 1)) ax_nil))) (px_call F_l_string_end hr (by omega) (ax_cons (px_var (i := 0)) (ax_cons (px_var (i := 1)) ax_nil)))))
    (bx_one (sx_ret (px_tup (ax_cons (px_ifExp (tx_cmp op_dGt (px_var (i := 3)) px_int (nomark _)) (px_str (s := [115]) (by rfl) (by rfl)) px_non) (ax_cons (px_var (i := 3)) ax_nil)))))) bx_nil)
    (bx_cons (sx_if (tx_cmp op_dIn (px_sl (px_var (i := 0)) (ox_some (px_var (i := 1))) (ox_some (px_op op_dAdd (px_var (i := 1)) px_int))) (px_tup (ax_cons (px_str (s := [60, 61]) (by rfl) (by rfl)) (ax_cons (px_str (s := [62, 61]) (by rfl) (by rfl)) (ax_cons (px_str (s := [61, 61]) (by rfl) (by rfl)) (ax_cons (px_str (s := [33, 61]) (by rfl) (by rfl)) ax_nil))))) (by rfl)) (bx_one (sx_ret (px_tup (ax_cons (px_sl (px_var (i := 0)) (ox_some (px_var (i := 1))) (ox_some (px_op op_dAdd (px_var (i := 1)) px_int))) (ax_cons (px_op op_dAdd (px_var (i := 1)) px_int) ax_nil))))) bx_nil)
    (bx_one (sx_ret (px_tup (ax_cons (px_ifExp (tx_cmp op_dIn (px_var (i := 2)) (px_str (s := [43, 45, 42, 47, 60, 62, 61, 46, 44, 58, 59, 40, 41, 91, 93, 123, 125]) (by rfl) (by rfl)) (by rfl)) (px_var (i := 2)) px_non) (ax_cons (px_op op_dAdd (px_var (i := 1)) px_int) ax_nil))))))))))
theorem I_tw_l_lexed {P : Program} {w : World} {K : PySem.W.Frag} {mg : Str → Option Value} {base : Heap} {C : Addr} (T : Top P w K mg base C) : ∀ n : Nat, Itw_l_lexed P w K mg base C (66 + n) (tw_l_lexed n)
  | 0 => ⟨fnc0 T.d__law_lexed, fnc0 T.d__law_template_end, fnc0 T.d__law_token⟩
  | n + 1 => ⟨fncL 3 (N := ["_law_s", "_law_at", "_law_is_field", "_law_found", "_law_depth", "_law_is_begun", "_law_last", "_law_far", "_law_one"]) (ps := ["_law_s", "_law_at", "_law_is_field"]) (k := 66 + n) T.d__law_lexed sc_l_lexed rfl rfl (by decide) (fun _ _ _ _ _ _ us hl => match us, hl with | [_, _, _], _ => rfl) (bx_l_lexed T _ (by omega) _ (I_tw_l_lexed T n)), fnc (N := ["_law_s", "_law_at", "_law_t"]) (ps := ["_law_s", "_law_at"]) (k := 66 + n) T.d__law_template_end sc_l_template_end rfl rfl (fun _ _ _ _ _ _ us hl => match us, hl with | [_, _], _ => rfl) (bx_l_template_end T _ (by omega) _ (I_tw_l_lexed T n)), fnc (N := ["_law_s", "_law_at", "_law_sign", "_law_far", "_law_is_wrong", "_law_one", "_law_some"]) (ps := ["_law_s", "_law_at"]) (k := 66 + n) T.d__law_token sc_l_token rfl rfl (fun _ _ _ _ _ _ us hl => match us, hl with | [_, _], _ => rfl) (bx_l_token T _ (by omega) _ (I_tw_l_lexed T n))⟩
theorem F_l_lexed {P : Program} {w : World} {K : PySem.W.Frag} {mg : Str → Option Value} {base : Heap} {C : Addr} (T : Top P w K mg base C) (n : Nat) : FnC P w K mg base C (66 + n) "_law_lexed" (tw_l_lexed n).l_lexed := (I_tw_l_lexed T n).l_lexed
theorem F_l_template_end {P : Program} {w : World} {K : PySem.W.Frag} {mg : Str → Option Value} {base : Heap} {C : Addr} (T : Top P w K mg base C) (n : Nat) : FnC P w K mg base C (66 + n) "_law_template_end" (tw_l_lexed n).l_template_end := (I_tw_l_lexed T n).l_template_end
theorem F_l_token {P : Program} {w : World} {K : PySem.W.Frag} {mg : Str → Option Value} {base : Heap} {C : Addr} (T : Top P w K mg base C) (n : Nat) : FnC P w K mg base C (66 + n) "_law_token" (tw_l_lexed n).l_token := (I_tw_l_lexed T n).l_token
structure Itw_l_simple (P : Program) (w : World) (K : PySem.W.Frag) (mg : Str → Option Value) (base : Heap) (C : Addr) (k : Nat) (g : Gtw_l_simple) : Prop where
  l_simple : FnC P w K mg base C k "_law_simple" g.l_simple
theorem sc_l_simple : FnScope ["_law_t", "_law_at", "_law_rights", "_law_far", "_law_is_target"] ["_law_t", "_law_at", "_law_rights"] (defScope (top 85)) := ⟨rfl, rfl, rfl, by decide +kernel, rfl, by decide +kernel, by decide +kernel⟩
theorem bx_l_simple {P : Program} {w : World} {K : PySem.W.Frag} {mg : Str → Option Value} {base : Heap} {C : Addr} (T : Top P w K mg base C) (j : Nat) (hj : 66 ≤ j) (g : Gtw_l_simple) (I : Itw_l_simple P w K mg base C j g) (f : Addr) (cdv : Value) (A : Around) (outer : List Env) (s : Shared) (H : Hp) (E : XK) (hr : Room j (A.deeper (envOfC "_law_simple" (defScope (top 85)) s.heap.objs.size f cdv))) :
    BX C (CxD P w K mg base ["_law_t", "_law_at", "_law_rights", "_law_far", "_law_is_target"] "_law_simple" (defScope (top 85)) f cdv A outer s H E) (defBody (top 85)) (b_l_simple g) := by
    have S := sc_l_simple
    have hu := hr.units
    have F_l_expr := F_l_expr T 64
    have F_l_primary := F_l_primary T 64
    have F_l_simple := I.l_simple
    exact (bx_cons (sx_unp rfl (gx_cons 3 S.nd (gx_cons 4 S.nd gx_nil)) (px_call F_l_primary hr (by omega) (ax_cons (px_var (i := 0)) (ax_cons (px_var (i := 1)) ax_nil))))
    (bx_cons (sx_if (WX.tx (wx_or (tx_cmp (op_dEq hu) (px_ix (px_var (i := 0)) (px_var (i := 1))) (px_str (s := [112, 97, 115, 115]) (by rfl) (by rfl)) (nomark _)) (wx_or1 (WX.tx (wx_and (tx_cmp (op_dEq hu) (px_ix (px_var (i := 0)) (px_var (i := 1))) (px_str (s := [98, 114, 101, 97, 107]) (by rfl) (by rfl)) (nomark _)) (wx_and1 (tx_val (px_ix (px_var (i := 2)) px_int)))))))) (bx_one (sx_set (i := 3) S.nd (px_op op_dAdd (px_var (i := 1)) px_int))) (bx_one (sx_if (tx_cmp (op_dEq hu) (px_ix (px_var (i := 0)) (px_var (i := 1))) (px_str (s := [114, 101, 116, 117, 114, 110]) (by rfl) (by rfl)) (nomark _)) (bx_cons (sx_set (i := 3) S.nd (px_ifExp (tx_cmp op_dIn (px_ix (px_var (i := 0)) (px_op op_dAdd (px_var (i := 1)) px_int)) (px_tup (ax_cons (px_str (s := [59]) (by rfl) (by rfl)) (ax_cons (px_str (s := [101, 110, 100]) (by rfl) (by rfl)) ax_nil))) (by rfl)) (px_op op_dAdd (px_var (i := 1)) px_int) (px_call F_l_expr hr (by omega) (ax_cons (px_var (i := 0)) (ax_cons (px_op op_dAdd (px_var (i := 1)) px_int) ax_nil)))))
    (bx_one (sx_set (i := 3) S.nd (px_ifExp (tx_val (px_ix (px_var (i := 2)) px_int)) (px_var (i := 3)) (px_op op_dSub px_int px_int))))) (bx_one (sx_if (WX.tx (wx_and (tx_cmp op_dGe (px_var (i := 3)) px_int (nomark _)) (wx_and1 (tx_cmp (op_dEq hu) (px_ix (px_var (i := 0)) (px_var (i := 3))) (px_str (s := [61]) (by rfl) (by rfl)) (nomark _))))) (bx_one (sx_set (i := 3) S.nd (px_ifExp (tx_val (px_var (i := 4))) (px_call F_l_expr hr (by omega) (ax_cons (px_var (i := 0)) (ax_cons (px_op op_dAdd (px_var (i := 3)) px_int) ax_nil))) (px_op op_dSub px_int px_int)))) (bx_one (sx_set (i := 3) S.nd (px_call F_l_expr hr (by omega) (ax_cons (px_var (i := 0)) (ax_cons (px_var (i := 1)) ax_nil))))))))))
    (bx_cons (sx_if (WX.tx (wx_and (tx_cmp op_dGe (px_var (i := 3)) px_int (nomark _)) (wx_and1 (tx_cmp (op_dEq hu) (px_ix (px_var (i := 0)) (px_var (i := 3))) (px_str (s := [59]) (by rfl) (by rfl)) (nomark _))))) (bx_one (sx_ret (px_ifExp (tx_cmp (op_dEq hu) (px_ix (px_var (i := 0)) (px_op op_dAdd (px_var (i := 3)) px_int)) (px_str (s := [101, 110, 100]) (by rfl) (by rfl)) (nomark _)) (px_op op_dAdd (px_var (i := 3)) px_int) (px_call F_l_simple hr (by omega) (ax_cons (px_var (i := 0)) (ax_cons (px_op op_dAdd (px_var (i := 3)) px_int) (ax_cons (px_var (i := 2)) ax_nil))))))) bx_nil)
    (bx_one (sx_ret (px_ifExp (WX.tx (wx_and (tx_cmp op_dGe (px_var (i := 3)) px_int (nomark _)) (wx_and1 (tx_cmp (op_dEq hu) (px_ix (px_var (i := 0)) (px_var (i := 3))) (px_str (s := [101, 110, 100]) (by rfl) (by rfl)) (nomark _))))) (px_op op_dAdd (px_var (i := 3)) px_int) (px_op op_dSub px_int px_int)))))))
theorem I_tw_l_simple {P : Program} {w : World} {K : PySem.W.Frag} {mg : Str → Option Value} {base : Heap} {C : Addr} (T : Top P w K mg base C) : ∀ n : Nat, Itw_l_simple P w K mg base C (66 + n) (tw_l_simple n)
  | 0 => ⟨fnc0 T.d__law_simple⟩
  | n + 1 => ⟨fnc (N := ["_law_t", "_law_at", "_law_rights", "_law_far", "_law_is_target"]) (ps := ["_law_t", "_law_at", "_law_rights"]) (k := 66 + n) T.d__law_simple sc_l_simple rfl rfl (fun _ _ _ _ _ _ us hl => match us, hl with | [_, _, _], _ => rfl) (bx_l_simple T _ (by omega) _ (I_tw_l_simple T n))⟩
theorem F_l_simple {P : Program} {w : World} {K : PySem.W.Frag} {mg : Str → Option Value} {base : Heap} {C : Addr} (T : Top P w K mg base C) (n : Nat) : FnC P w K mg base C (66 + n) "_law_simple" (tw_l_simple n).l_simple := (I_tw_l_simple T n).l_simple
structure Itw_l_clause (P : Program) (w : World) (K : PySem.W.Frag) (mg : Str → Option Value) (base : Heap) (C : Addr) (k : Nat) (g : Gtw_l_clause) : Prop where
  l_clause : FnC P w K mg base C k "_law_clause" g.l_clause
  l_statement : FnC P w K mg base C k "_law_statement" g.l_statement
theorem sc_l_clause : FnScope ["_law_t", "_law_at", "_law_width", "_law_rights", "_law_word", "_law_inner"] ["_law_t", "_law_at", "_law_width", "_law_rights"] (defScope (top 86)) := ⟨rfl, rfl, rfl, by decide +kernel, rfl, by decide +kernel, by decide +kernel⟩
theorem bx_l_clause {P : Program} {w : World} {K : PySem.W.Frag} {mg : Str → Option Value} {base : Heap} {C : Addr} (T : Top P w K mg base C) (j : Nat) (hj : 79 ≤ j) (g : Gtw_l_clause) (I : Itw_l_clause P w K mg base C j g) (f : Addr) (cdv : Value) (A : Around) (outer : List Env) (s : Shared) (H : Hp) (E : XK) (hr : Room j (A.deeper (envOfC "_law_clause" (defScope (top 86)) s.heap.objs.size f cdv))) :
    BX C (CxD P w K mg base ["_law_t", "_law_at", "_law_width", "_law_rights", "_law_word", "_law_inner"] "_law_clause" (defScope (top 86)) f cdv A outer s H E) (defBody (top 86)) (b_l_clause g) := by
    have S := sc_l_clause
    have hu := hr.units
    have F_l_expr := F_l_expr T 64
    have F_l_items := F_l_items T 64
    have F_l_simple := F_l_simple T 12
    have F_l_statement := I.l_statement
    exact (bx_cons (sx_par (i := 4) (j := 1) rfl S.nd (px_ix (px_var (i := 0)) (px_var (i := 1))) (px_op op_dAdd (px_var (i := 1)) px_int))
    (bx_cons (sx_if (tx_cmp op_dIn (px_var (i := 4)) (px_tup (ax_cons (px_str (s := [105, 102]) (by rfl) (by rfl)) (ax_cons (px_str (s := [101, 108, 105, 102]) (by rfl) (by rfl)) (ax_cons (px_str (s := [119, 104, 105, 108, 101]) (by rfl) (by rfl)) ax_nil)))) (by rfl)) (bx_one (sx_set (i := 1) S.nd (px_call F_l_expr hr (by omega) (ax_cons (px_var (i := 0)) (ax_cons (px_var (i := 1)) ax_nil))))) (bx_one (sx_if (tx_cmp (op_dEq hu) (px_var (i := 4)) (px_str (s := [102, 111, 114]) (by rfl) (by rfl)) (nomark _)) (bx_one (sx_set (i := 1) S.nd (px_ifExp (tx_cmp (op_dEq hu) (px_sl (px_var (i := 0)) (ox_some (px_var (i := 1))) (ox_some (px_op op_dAdd (px_var (i := 1)) px_int))) (px_lst (ax_cons (px_str (s := [110]) (by rfl) (by rfl)) (ax_cons (px_str (s := [105, 110]) (by rfl) (by rfl)) ax_nil))) (nomark _)) (px_call F_l_expr hr (by omega) (ax_cons (px_var (i := 0)) (ax_cons (px_op op_dAdd (px_var (i := 1)) px_int) ax_nil))) (px_op op_dSub px_int px_int)))) (bx_one (sx_if (tx_cmp (op_dEq hu) (px_var (i := 4)) (px_str (s := [100, 101, 102]) (by rfl) (by rfl)) (nomark _)) (bx_one (sx_set (i := 1) S.nd (px_ifExp (tx_cmp (op_dEq hu) (px_sl (px_var (i := 0)) (ox_some (px_var (i := 1))) (ox_some (px_op op_dAdd (px_var (i := 1)) px_int))) (px_lst (ax_cons (px_str (s := [110]) (by rfl) (by rfl)) (ax_cons (px_str (s := [40]) (by rfl) (by rfl)) ax_nil))) (nomark _)) (px_call F_l_items hr (by omega) (ax_cons (px_var (i := 0)) (ax_cons (px_op op_dAdd (px_var (i := 1)) px_int) (ax_cons (px_str (s := [110, 97, 109, 101, 115]) (by rfl) (by rfl)) ax_nil)))) (px_op op_dSub px_int px_int)))) (bx_one (sx_if (WX.tx (wx_and (tx_cmp (op_dEq hu) (px_var (i := 4)) (px_str (s := [101, 120, 99, 101, 112, 116]) (by rfl) (by rfl)) (nomark _)) (wx_and1 (tx_cmp (op_dEq hu) (px_ix (px_var (i := 0)) (px_var (i := 1))) (px_str (s := [110]) (by rfl) (by rfl)) (nomark _))))) (bx_one (sx_set (i := 1) S.nd (px_op op_dAdd (px_var (i := 1)) px_int))) bx_nil)))))))
    (bx_cons (sx_if (WX.tx (wx_or (tx_cmp op_dLt (px_var (i := 1)) px_int (nomark _)) (wx_or1 (tx_cmp (op_dNe hu) (px_ix (px_var (i := 0)) (px_var (i := 1))) (px_str (s := [58]) (by rfl) (by rfl)) (nomark _))))) (bx_one (sx_ret (px_op op_dSub px_int px_int))) bx_nil)
    (bx_cons (sx_set (i := 3) S.nd (px_tup (ax_cons (px_ix (px_var (i := 3)) px_int) (ax_cons (px_or (px_ix (px_var (i := 3)) px_int) (px_one (px_cmp op_dIn (px_var (i := 4)) (px_tup (ax_cons (px_str (s := [119, 104, 105, 108, 101]) (by rfl) (by rfl)) (ax_cons (px_str (s := [102, 111, 114]) (by rfl) (by rfl)) ax_nil))) (by rfl)))) ax_nil))))
    (bx_cons (sx_set (i := 3) S.nd (px_ifExp (tx_cmp (op_dEq hu) (px_var (i := 4)) (px_str (s := [100, 101, 102]) (by rfl) (by rfl)) (nomark _)) (px_tup (ax_cons px_bl (ax_cons px_bl ax_nil))) (px_var (i := 3))))
    (bx_cons (sx_if (tx_cmp (op_dNe hu) (px_ix (px_var (i := 0)) (px_op op_dAdd (px_var (i := 1)) px_int)) (px_str (s := [101, 110, 100]) (by rfl) (by rfl)) (nomark _)) (bx_one (sx_ret (px_call F_l_simple hr (by omega) (ax_cons (px_var (i := 0)) (ax_cons (px_op op_dAdd (px_var (i := 1)) px_int) (ax_cons (px_var (i := 3)) ax_nil)))))) bx_nil)
    (bx_cons (sx_par (i := 1) (j := 5) rfl S.nd (px_op op_dAdd (px_var (i := 1)) px_int) (px_ix (px_var (i := 0)) (px_op op_dAdd (px_var (i := 1)) px_int)))
    (bx_cons (sx_if (WX.tx (wx_or (tx_not (tx_val (px_isi_int T.isinstance T.int (px_var (i := 5))))) (wx_or1 (tx_cmp op_dLe (px_var (i := 5)) (px_var (i := 2)) (nomark _))))) (bx_one (sx_ret (px_op op_dSub px_int px_int))) bx_nil)
    (bx_cons (sx_while 100 PassesOwn.never (WX.tx (wx_and (tx_cmp op_dGe (px_var (i := 1)) px_int (nomark _)) (wx_and1 (tx_cmp (op_dEq hu) (px_ix (px_var (i := 0)) (px_var (i := 1))) (px_var (i := 5)) (nomark _))))) (bx_one (sx_set (i := 1) S.nd (px_call F_l_statement hr (by omega) (ax_cons (px_var (i := 0)) (ax_cons (px_op op_dAdd (px_var (i := 1)) px_int) (ax_cons (px_var (i := 5)) (ax_cons (px_var (i := 3)) ax_nil))))))))
    (bx_one (sx_ret (px_var (i := 1)))))))))))))
theorem sc_l_statement : FnScope ["_law_t", "_law_at", "_law_width", "_law_rights", "_law_word", "_law_follow", "_law_must"] ["_law_t", "_law_at", "_law_width", "_law_rights"] (defScope (top 87)) := ⟨rfl, rfl, rfl, by decide +kernel, rfl, by decide +kernel, by decide +kernel⟩
theorem bx_l_statement {P : Program} {w : World} {K : PySem.W.Frag} {mg : Str → Option Value} {base : Heap} {C : Addr} (T : Top P w K mg base C) (j : Nat) (hj : 79 ≤ j) (g : Gtw_l_clause) (I : Itw_l_clause P w K mg base C j g) (f : Addr) (cdv : Value) (A : Around) (outer : List Env) (s : Shared) (H : Hp) (E : XK) (hr : Room j (A.deeper (envOfC "_law_statement" (defScope (top 87)) s.heap.objs.size f cdv))) :
    BX C (CxD P w K mg base ["_law_t", "_law_at", "_law_width", "_law_rights", "_law_word", "_law_follow", "_law_must"] "_law_statement" (defScope (top 87)) f cdv A outer s H E) (defBody (top 87)) (b_l_statement g) := by
    have S := sc_l_statement
    have hu := hr.units
    have F_l_clause := I.l_clause
    have F_l_simple := F_l_simple T 12
    exact (bx_cons (sx_if (tx_cmp op_dNotIn (px_ix (px_var (i := 0)) (px_var (i := 1))) (px_tup (ax_cons (px_str (s := [105, 102]) (by rfl) (by rfl)) (ax_cons (px_str (s := [119, 104, 105, 108, 101]) (by rfl) (by rfl)) (ax_cons (px_str (s := [102, 111, 114]) (by rfl) (by rfl)) (ax_cons (px_str (s := [100, 101, 102]) (by rfl) (by rfl)) (ax_cons (px_str (s := [116, 114, 121]) (by rfl) (by rfl)) ax_nil)))))) (by rfl)) (bx_one (sx_ret (px_call F_l_simple hr (by omega) (ax_cons (px_var (i := 0)) (ax_cons (px_var (i := 1)) (ax_cons (px_var (i := 3)) ax_nil)))))) bx_nil)
    (bx_cons (sx_par (i := 4) (j := 5) rfl S.nd (px_ix (px_var (i := 0)) (px_var (i := 1))) (px_get hu (px_dic (dx_cons (k := [105, 102]) (by rfl) (by rfl) (px_lst (ax_cons (px_str (s := [101, 108, 105, 102]) (by rfl) (by rfl)) (ax_cons (px_str (s := [101, 108, 115, 101]) (by rfl) (by rfl)) ax_nil))) (dx_cons (k := [116, 114, 121]) (by rfl) (by rfl) (px_lst (ax_cons (px_str (s := [101, 120, 99, 101, 112, 116]) (by rfl) (by rfl)) (ax_cons (px_str (s := [102, 105, 110, 97, 108, 108, 121]) (by rfl) (by rfl)) ax_nil))) dx_nil))) (px_ix (px_var (i := 0)) (px_var (i := 1))) (px_lst ax_nil)))
    (bx_cons (sx_par (i := 1) (j := 6) rfl S.nd (px_call F_l_clause hr (by omega) (ax_cons (px_var (i := 0)) (ax_cons (px_var (i := 1)) (ax_cons (px_var (i := 2)) (ax_cons (px_var (i := 3)) ax_nil))))) (px_cmp (op_dEq hu) (px_var (i := 4)) (px_str (s := [116, 114, 121]) (by rfl) (by rfl)) (nomark _)))
    (bx_cons (sx_while 100 PassesOwn.never (WX.tx (wx_and (tx_cmp op_dGe (px_var (i := 1)) px_int (nomark _)) (wx_and (tx_cmp (op_dEq hu) (px_ix (px_var (i := 0)) (px_var (i := 1))) (px_var (i := 2)) (nomark _)) (wx_and1 (tx_cmp op_dIn (px_ix (px_var (i := 0)) (px_op op_dAdd (px_var (i := 1)) px_int)) (px_var (i := 5)) (by rfl)))))) (bx_cons (sx_set (i := 5) S.nd (px_get hu (px_dic (dx_cons (k := [101, 108, 105, 102]) (by rfl) (by rfl) (px_lst (ax_cons (px_str (s := [101, 108, 105, 102]) (by rfl) (by rfl)) (ax_cons (px_str (s := [101, 108, 115, 101]) (by rfl) (by rfl)) ax_nil))) (dx_cons (k := [101, 120, 99, 101, 112, 116]) (by rfl) (by rfl) (px_lst (ax_cons (px_str (s := [101, 120, 99, 101, 112, 116]) (by rfl) (by rfl)) (ax_cons (px_str (s := [102, 105, 110, 97, 108, 108, 121]) (by rfl) (by rfl)) ax_nil))) dx_nil))) (px_ix (px_var (i := 0)) (px_op op_dAdd (px_var (i := 1)) px_int)) (px_lst ax_nil)))
    (bx_one (sx_par (i := 1) (j := 6) rfl S.nd (px_call F_l_clause hr (by omega) (ax_cons (px_var (i := 0)) (ax_cons (px_op op_dAdd (px_var (i := 1)) px_int) (ax_cons (px_var (i := 2)) (ax_cons (px_var (i := 3)) ax_nil))))) px_bl))))
    (bx_one (sx_ret (px_ifExp (tx_val (px_var (i := 6))) (px_op op_dSub px_int px_int) (px_var (i := 1)))))))))
theorem I_tw_l_clause {P : Program} {w : World} {K : PySem.W.Frag} {mg : Str → Option Value} {base : Heap} {C : Addr} (T : Top P w K mg base C) : ∀ n : Nat, Itw_l_clause P w K mg base C (79 + n) (tw_l_clause n)
  | 0 => ⟨fnc0 T.d__law_clause, fnc0 T.d__law_statement⟩
  | n + 1 => ⟨fnc (N := ["_law_t", "_law_at", "_law_width", "_law_rights", "_law_word", "_law_inner"]) (ps := ["_law_t", "_law_at", "_law_width", "_law_rights"]) (k := 79 + n) T.d__law_clause sc_l_clause rfl rfl (fun _ _ _ _ _ _ us hl => match us, hl with | [_, _, _, _], _ => rfl) (bx_l_clause T _ (by omega) _ (I_tw_l_clause T n)), fnc (N := ["_law_t", "_law_at", "_law_width", "_law_rights", "_law_word", "_law_follow", "_law_must"]) (ps := ["_law_t", "_law_at", "_law_width", "_law_rights"]) (k := 79 + n) T.d__law_statement sc_l_statement rfl rfl (fun _ _ _ _ _ _ us hl => match us, hl with | [_, _, _, _], _ => rfl) (bx_l_statement T _ (by omega) _ (I_tw_l_clause T n))⟩
theorem F_l_clause {P : Program} {w : World} {K : PySem.W.Frag} {mg : Str → Option Value} {base : Heap} {C : Addr} (T : Top P w K mg base C) (n : Nat) : FnC P w K mg base C (79 + n) "_law_clause" (tw_l_clause n).l_clause := (I_tw_l_clause T n).l_clause
theorem F_l_statement {P : Program} {w : World} {K : PySem.W.Frag} {mg : Str → Option Value} {base : Heap} {C : Addr} (T : Top P w K mg base C) (n : Nat) : FnC P w K mg base C (79 + n) "_law_statement" (tw_l_clause n).l_statement := (I_tw_l_clause T n).l_statement
theorem sc_l_is_entry : FnScope ["_law_s", "_law_t", "_law_far", "_law_at", "_law_rest"] ["_law_s"] (defScope (top 88)) := ⟨rfl, rfl, rfl, by decide +kernel, rfl, by decide +kernel, by decide +kernel⟩
theorem bx_l_is_entry {P : Program} {w : World} {K : PySem.W.Frag} {mg : Str → Option Value} {base : Heap} {C : Addr} (T : Top P w K mg base C) (f : Addr) (cdv : Value) (A : Around) (outer : List Env) (s : Shared) (H : Hp) (E : XK) (hr : Room 99 (A.deeper (envOfC "_law_is_entry" (defScope (top 88)) s.heap.objs.size f cdv))) :
    BX C (CxD P w K mg base ["_law_s", "_law_t", "_law_far", "_law_at", "_law_rest"] "_law_is_entry" (defScope (top 88)) f cdv A outer s H E) (defBody (top 88)) b_l_is_entry := by
    have S := sc_l_is_entry
    have hu := hr.units
    have F_l_lexed := F_l_lexed T 12
    have F_l_statement := F_l_statement T 20
    exact (bx_cons (sx_unp rfl (gx_cons 1 S.nd (gx_cons 2 S.nd gx_nil)) (px_call F_l_lexed hr (by decide) (ax_cons (px_var (i := 0)) (ax_cons px_int (ax_cons px_bl ax_nil)))))
    (bx_cons (sx_if (WX.tx (wx_or (tx_cmp op_dIs (px_var (i := 1)) px_non (nomark _)) (wx_or1 (tx_cmp op_dLt (px_var (i := 2)) (px_callB cl_len (by rfl) T.len (by decide +kernel) (ax_cons (px_var (i := 0)) ax_nil)) (nomark _))))) (bx_one (sx_ret px_bl)) bx_nil)
    (bx_cons (sx_par (i := 1) (j := 3) rfl S.nd (px_op op_dAdd (px_var (i := 1)) (px_lst (ax_cons (px_str (s := []) (by rfl) (by rfl)) (ax_cons (px_str (s := []) (by rfl) (by rfl)) ax_nil)))) px_int)
    (bx_cons (sx_while 100 PassesOwn.never (tx_cmp (op_dEq hu) (px_ix (px_var (i := 1)) (px_var (i := 3))) (px_str (s := [101, 109, 112, 116, 121]) (by rfl) (by rfl)) (nomark _)) (bx_one (sx_set (i := 3) S.nd (px_op op_dAdd (px_var (i := 3)) px_int))))
    (bx_cons (sx_if (tx_cmp (op_dNe hu) (px_ix (px_var (i := 1)) (px_var (i := 3))) px_int (nomark _)) (bx_one (sx_ret px_bl)) bx_nil)
    (bx_cons (sx_set (i := 2) S.nd (px_call F_l_statement hr (by decide) (ax_cons (px_var (i := 1)) (ax_cons (px_op op_dAdd (px_var (i := 3)) px_int) (ax_cons px_int (ax_cons (px_tup (ax_cons px_bl (ax_cons px_bl ax_nil))) ax_nil))))))
    (bx_cons (sx_set (i := 4) S.nd (px_ifExp (tx_cmp op_dIn (px_ix (px_var (i := 1)) (px_op op_dAdd (px_var (i := 3)) px_int)) (px_tup (ax_cons (px_str (s := [105, 102]) (by rfl) (by rfl)) (ax_cons (px_str (s := [119, 104, 105, 108, 101]) (by rfl) (by rfl)) (ax_cons (px_str (s := [102, 111, 114]) (by rfl) (by rfl)) (ax_cons (px_str (s := [100, 101, 102]) (by rfl) (by rfl)) (ax_cons (px_str (s := [116, 114, 121]) (by rfl) (by rfl)) ax_nil)))))) (by rfl)) (px_lst (ax_cons (px_str (s := [101, 109, 112, 116, 121]) (by rfl) (by rfl)) ax_nil)) (px_lst ax_nil)))
    (bx_one (sx_ret (px_and (px_cmp op_dGe (px_var (i := 2)) px_int (nomark _)) (px_one (px_cmp (op_dEq hu) (px_sl (px_var (i := 1)) (ox_some (px_var (i := 2))) ox_none) (px_op op_dAdd (px_var (i := 4)) (px_lst (ax_cons (px_str (s := []) (by rfl) (by rfl)) (ax_cons (px_str (s := []) (by rfl) (by rfl)) ax_nil)))) (nomark _)))))))))))))
theorem F_l_is_entry {P : Program} {w : World} {K : PySem.W.Frag} {mg : Str → Option Value} {base : Heap} {C : Addr} (T : Top P w K mg base C) : FnC P w K mg base C 100 "_law_is_entry" m_l_is_entry :=
  fnc (N := ["_law_s", "_law_t", "_law_far", "_law_at", "_law_rest"]) (ps := ["_law_s"]) (k := 99) T.d__law_is_entry sc_l_is_entry rfl rfl (fun _ _ _ _ _ _ us hl => match us, hl with | [_], _ => rfl) (bx_l_is_entry T)
theorem sc_l_told_right : FnScope ["_law_near", "_law_far", "_law_told"] ["_law_near", "_law_far"] (defScope (top 89)) := ⟨rfl, rfl, rfl, by decide +kernel, rfl, by decide +kernel, by decide +kernel⟩
theorem bx_l_told_right {P : Program} {w : World} {K : PySem.W.Frag} {mg : Str → Option Value} {base : Heap} {C : Addr} (T : Top P w K mg base C) (f : Addr) (cdv : Value) (A : Around) (outer : List Env) (s : Shared) (H : Hp) (E : XK) (hr : Room 100 (A.deeper (envOfC "_law_told_right" (defScope (top 89)) s.heap.objs.size f cdv))) :
    BX C (CxD P w K mg base ["_law_near", "_law_far", "_law_told"] "_law_told_right" (defScope (top 89)) f cdv A outer s H E) (defBody (top 89)) b_l_told_right := by
    have S := sc_l_told_right
    have hu := hr.units
    have F_l_is_entry := F_l_is_entry T
    have F_are_alike := F_are_alike T
    have F_difference := F_difference T
    exact (bx_cons (sx_set (i := 2) S.nd (px_call F_difference hr (by decide) (ax_cons (px_var (i := 0)) (ax_cons (px_var (i := 1)) ax_nil))))
    (bx_cons (sx_if (tx_val (px_call F_are_alike hr (by decide) (ax_cons (px_var (i := 0)) (ax_cons (px_var (i := 1)) ax_nil)))) (bx_one (sx_ret (px_cmp op_dIs (px_var (i := 2)) px_non (nomark _)))) bx_nil)
    (bx_one (sx_ret (px_and (px_isi_str T.isinstance T.str (px_var (i := 2))) (px_one (px_cmp (op_dNe hu) (px_call F_l_is_entry hr (by decide) (ax_cons (px_op op_dAdd (px_var (i := 0)) (px_var (i := 2))) ax_nil)) (px_call F_l_is_entry hr (by decide) (ax_cons (px_op op_dAdd (px_var (i := 1)) (px_var (i := 2))) ax_nil)) (nomark _))))))))
theorem F_l_told_right {P : Program} {w : World} {K : PySem.W.Frag} {mg : Str → Option Value} {base : Heap} {C : Addr} (T : Top P w K mg base C) : FnC P w K mg base C 101 "_law_told_right" m_l_told_right :=
  fnc (N := ["_law_near", "_law_far", "_law_told"]) (ps := ["_law_near", "_law_far"]) (k := 100) T.d__law_told_right sc_l_told_right rfl rfl (fun _ _ _ _ _ _ us hl => match us, hl with | [_, _], _ => rfl) (bx_l_told_right T)
end
end Rp
set_option Elab.async false
set_option linter.all false
set_option maxRecDepth 100000
set_option maxHeartbeats 4000000
namespace Rp
noncomputable section
open PySem PySem.Spec PyProof.Rows L2 SX
abbrev rA : R2 := rI0 fun i j => .int (i + j)
abbrev rM : R2 := rI CMul fun i j => .int (i * j)
abbrev rR : R2 := rI (fun _ j => 0 < j) fun i j => .int (i % j)
abbrev rD : R2 := rI CDiv fun i j => .int (i / j)
abbrev nI (i : Int) : TE := tC (.int i)
def tM1 : TS := tAsg (tOp rR (tOp rA (tOp rA (tOp rA (tOp rR (tVar 0) (nI 1000000007)) (tOp rM (tOp rM (nI 7919) (tVar 1)) (tVar 1))) (tOp rM (nI 31) (tVar 1))) (nI 7)) (nI 2147483647)) (gName 2)
def tM2 : TS := tAsg (tOp rR (tOp rM (tOp rR (tOp rM (tVar 2) (tVar 2)) (nI 2147483647)) (tVar 2)) (nI 2147483629)) (gName 2)
def tM3 : TS := tRet (tOp rD (tOp rR (tOp rM (tVar 2) (tOp rA (nI 69621) (tOp rM (nI 2) (tOp rR (tVar 1) (nI 1000))))) (nI 2147483647)) (nI 7))
def spMix : Sp := fun vs H Q _ => ∃ c k : Int, vs = [.int c, .int k] ∧ 0 ≤ k ∧ k < 2 ^ 40 ∧ ∀ r : Int, Q (.int r) H
section
variable {P : Program} {w : World} {K : PySem.W.Frag} {mg : Str → Option Value} {base : Heap} {C : Addr}
theorem sc_mix : FnScope ["_law_cell", "_law_k", "_law_mixed_here"] ["_law_cell", "_law_k"] (defScope (top 73)) := ⟨rfl, rfl, rfl, by decide +kernel, rfl, by decide +kernel, by decide +kernel⟩
theorem mix_read {c k : Int} {H : Hp} {Q : VK} (h0 : 0 ≤ k) (h1 : k < 2 ^ 40) (q : ∀ r : Int, Q (.int r) H) : tSeq tM1 (tSeq tM2 tM3) { nx := fun _ H' => Q .non H', rt := Q } (L2.start ["_law_cell", "_law_k", "_law_mixed_here"] [.int c, .int k]) H := by
  refine ⟨_, rfl, _, _, rfl, rfl, (show (0 : Int) < _ by decide), _, rfl, _, _, rfl, rfl, .inl ⟨by decide, by decide⟩, _, rfl, _, _, rfl, rfl, .inr ⟨by omega, by omega⟩, _, _, rfl, rfl, _, rfl, _, _, rfl, rfl, .inl ⟨by decide, by decide⟩, _, _, rfl, rfl, _, _, rfl, rfl, _, _, rfl, rfl, (show (0 : Int) < _ by decide), ?_⟩
  generalize hh : (c % 1000000007 + 7919 * k * k + 31 * k + 7) % 2147483647 = h
  have b0 : 0 ≤ h := by omega
  have b1 : h < 2147483647 := by omega
  refine ⟨_, rfl, _, rfl, _, _, rfl, rfl, .inl ⟨by omega, by omega⟩, _, _, rfl, rfl, (show (0 : Int) < _ by decide), _, rfl, _, _, rfl, rfl, .inr ⟨by omega, by omega⟩, _, _, rfl, rfl, (show (0 : Int) < _ by decide), ?_⟩
  generalize hg : h * h % 2147483647 * h % 2147483629 = g
  have c0 : 0 ≤ g := by omega
  have c1 : g < 2147483647 := by omega
  refine ⟨_, rfl, _, rfl, _, _, rfl, rfl, (show (0 : Int) < _ by decide), _, _, rfl, rfl, .inl ⟨by decide, by decide⟩, _, _, rfl, rfl, _, _, rfl, rfl, .inl ⟨by omega, by omega⟩, _, _, rfl, rfl, (show (0 : Int) < _ by decide), _, _, rfl, rfl, ⟨by decide, by decide⟩, q _⟩
theorem F_mix (T : Top P w K mg base C) : ∃ f fd, FnOk P w K mg base L2.CX0 1 f fd ["_law_cell", "_law_k"] spMix ∧ mg "_law_mixed" = some (.ref f) ∧ PySem.W.keepIn K (.ref f) = true ∧ Binds K fd ["_law_cell", "_law_k"] [] := by
  obtain ⟨f, fd, F, hm⟩ := T.d__law_mixed.ex
  have S := sc_mix
  refine ⟨f, fd, F.ok S (fun vs H Q E h => ?_) (fun cdv A outer s H vs Q E hr h => ⟨tSeq tM1 (tSeq tM2 tM3), PSs.nox ?_, ?_⟩), hm, F.kp, F.bindsN fun _ _ _ _ _ _ us hl => match us, hl with | [_, _], _ => rfl⟩
  · obtain ⟨c, k, rfl, _⟩ := h
    rfl
  · exact pss_cons (ps_set (i := 2) S.nd rfl (Or.inl rfl) (pe_op op_mod (pe_op op_add (pe_op op_add (pe_op op_add (pe_op op_mod (pv 0) pe_int) (pe_op op_mul (pe_op op_mul pe_int (pv 1)) (pv 1))) (pe_op op_mul pe_int (pv 1))) pe_int) pe_int) rfl)
      (pss_cons (ps_set (i := 2) S.nd rfl (Or.inl rfl) (pe_op op_mod (pe_op op_mul (pe_op op_mod (pe_op op_mul (pv 2) (pv 2)) pe_int) (pv 2)) pe_int) rfl)
      (pss_one (ps_ret (pe_op op_fdiv (pe_op op_mod (pe_op op_mul (pv 2) (pe_op op_add pe_int (pe_op op_mul pe_int (pe_op op_mod (pv 1) pe_int)))) pe_int) pe_int))))
  · obtain ⟨c, k, rfl, h0, h1, q⟩ := h
    exact mix_read h0 h1 q
end
end
end Rp
set_option Elab.async false
set_option linter.all false
set_option maxRecDepth 100000
set_option maxHeartbeats 4000000
namespace Rp
noncomputable section
open PySem PySem.Spec PyProof.Rows L2 SX
/-! ### the draws -/
abbrev drK (ac : Addr) (a l u : Int) : List (Key × V) := [(.inr "cells", .ref ac), (.inr "at", .int a), (.inr "left", .int l), (.inr "used", .int u)]
structure DrawAt (K : PySem.W.Frag) (H : Hp) (d : Addr) (t : Nat) : Prop where
  ex : ∃ (ac : Addr) (cells : List Int) (a l u : Int), H d = some (.dK (drK ac a l u)) ∧ SqL K H ac (cells.map V.int) ∧ cells ≠ [] ∧ cells.length ≤ 100 ∧ 0 ≤ a ∧ a ≤ t ∧ 0 ≤ l ∧ 0 ≤ u ∧ u ≤ t
theorem SqL.same {K : PySem.W.Frag} {H H' : Hp} {a : Addr} {xs : List V} (e : Same H H') (h : SqL K H a xs) : SqL K H' a xs := by
  rcases h with (h | ⟨o, h⟩) | h
  · exact .inl (.inl (e _ _ h))
  · exact .inl (.inr ⟨o, e _ _ h⟩)
  · exact .inr h
theorem SqL.hide {K : PySem.W.Frag} {H : Hp} {a d : Addr} {xs : List V} {kvs : List (Key × V)} (hd : H d = some (.dK kvs)) (h : SqL K H a xs) : SqL K (hide d H) a xs := by
  rcases h with (h | ⟨o, h⟩) | h
  · exact .inl (.inl (by rw [hide_at (fun z => by rw [z, hd] at h; cases h)]; exact h))
  · exact .inl (.inr ⟨o, by rw [hide_at (fun z => by rw [z, hd] at h; cases h)]; exact h⟩)
  · exact .inr h
theorem DrawAt.same {K : PySem.W.Frag} {H H' : Hp} {d : Addr} {t : Nat} (e : Same H H') (h : DrawAt K H d t) : DrawAt K H' d t := by
  obtain ⟨ac, cells, a, l, u, h1, h2, r⟩ := h.ex
  exact ⟨ac, cells, a, l, u, e _ _ h1, SqL.same e h2, r⟩
def spNext (K : PySem.W.Frag) : Sp := fun vs H Q _ => ∃ (d : Addr) (b : Int) (t : Nat), vs = [.ref d, .int b] ∧ 0 < b ∧ b < 1073741824 ∧ t < 1000 ∧ DrawAt K H d t ∧ ∀ (r : Int) H', 0 ≤ r → r < b → Same (hide d H) H' → DrawAt K H' d (t + 1) → Q (.int r) H'
abbrev gD (k : Str) : TE := tDGet (tVar 0) (tC (.str k))
abbrev rGtI : R2 := rI0 fun i j => .bl (decide (j < i))
abbrev rGeI : R2 := rI0 fun i j => .bl (decide (j ≤ i))
abbrev rLeI : R2 := rI0 fun i j => .bl (decide (i ≤ j))
abbrev rPw : R2 := rI CPow fun i j => .int (i ^ j.toNat)
def tN0 : TS := tIfS (tTest (tOp rGtI (gD "left") (nI 0))) (tSeq (tAsg (tOp rR (gD "left") (tVar 1)) (gName 2)) (tSeq (sDPut (tVar 0) (tC (.str "left")) (tOp rD (gD "left") (tVar 1))) (tRet (tVar 2)))) tNext
def tN1 : TS := tAsg (gD "cells") (gName 3)
def tN2 (K : PySem.W.Frag) : TS := tAsg (tOp (rIx K) (tVar 3) (tOp rR (gD "at") (tCB (rLen K) (tCons (tVar 3) tNil)))) (gName 4)
def tN3 : TS := sDPut (tVar 0) (tC (.str "at")) (tOp rA (gD "at") (nI 1))
def tN4 (K : PySem.W.Frag) : TS := tIfS (tAnd (tTest (tOp rGeI (tVar 4) (tOp rPw (nI 10) (nI 18)))) (tTest (tOp rLeI (gD "at") (tCB (rLen K) (tCons (tVar 3) tNil))))) (tSeq (sDPut (tVar 0) (tC (.str "left")) (tOp rD (tVar 4) (tVar 1))) (tRet (tOp rR (tVar 4) (tVar 1)))) tNext
def tN5 : TS := sDPut (tVar 0) (tC (.str "used")) (tOp rA (gD "used") (nI 1))
def tN6 : TS := tRet (tOp rR (tCall spMix [] E0 (tCons (tCall spMix [] E0 (tCons (tVar 4) (tCons (gD "at") tNil))) (tCons (gD "used") tNil))) (tVar 1))
section
variable {P : Program} {w : World} {K : PySem.W.Frag} {mg : Str → Option Value} {base : Heap} {C : Addr}
theorem sc_next : FnScope ["_law_draw", "_law_bound", "_law_found", "_law_cells", "_law_cell"] ["_law_draw", "_law_bound"] (defScope (top 74)) := ⟨rfl, rfl, rfl, by decide +kernel, rfl, by decide +kernel, by decide +kernel⟩
theorem pss_next (T : Top P w K mg base C) (f : Addr) (cdv : Value) (A : Around) (outer : List Env) (s : Shared) (H : Hp) (E : XK) (hr : Room 1 (A.deeper (envOfC "_law_next" (defScope (top 74)) s.heap.objs.size f cdv))) :
    PSs (CxD P w K mg base ["_law_draw", "_law_bound", "_law_found", "_law_cells", "_law_cell"] "_law_next" (defScope (top 74)) f cdv A outer s H E) (defBody (top 74)) (tSeq tN0 (tSeq tN1 (tSeq (tN2 K) (tSeq tN3 (tSeq (tN4 K) (tSeq tN5 tN6)))))) := by
  have S := sc_next
  have hu : (A.deeper (envOfC "_law_next" (defScope (top 74)) s.heap.objs.size f cdv)).units + 1 < cLine := by have := hr.units; omega
  obtain ⟨fM, fdM, FM, hM, kM, bM⟩ := F_mix T
  refine pss_cons ?_ (pss_cons ?_ (pss_cons ?_ (pss_cons ?_ (pss_cons ?_ (pss_cons ?_ (pss_one ?_))))))
  · exact ps_if (pt_cmpR op_gt (pe_dget hu (pv 0) pe_str (fun _ _ => rfl)) pe_int (nomark _)) (pss_cons (ps_set (i := 2) S.nd rfl (Or.inl rfl) (pe_op op_mod (pe_dget hu (pv 0) pe_str (fun _ _ => rfl)) (pv 1)) rfl)
      (pss_cons (ps_dput hu (pv 0) pe_str (pe_op op_fdiv (pe_dget hu (pv 0) pe_str (fun _ _ => rfl)) (pv 1)) rfl) (pss_one (ps_ret (pv 2))))) pss_nil
  · exact ps_set (i := 3) S.nd rfl (Or.inl rfl) (pe_dget hu (pv 0) pe_str (fun _ _ => rfl)) rfl
  · exact ps_set (i := 4) S.nd rfl (Or.inl rfl) (pe_ix ix_seq (pv 3) (pe_op op_mod (pe_dget hu (pv 0) pe_str (fun _ _ => rfl)) (pe_callB call_len rfl T.len boot_len (pa_cons (pv 3) pa_nil))) (fun _ _ => rfl)) rfl
  · exact ps_dput hu (pv 0) pe_str (pe_op op_add (pe_dget hu (pv 0) pe_str (fun _ _ => rfl)) pe_int) rfl
  · exact ps_if (PW.pt (pw_and (pt_cmpR op_ge (pv 4) (pe_op op_pow pe_int pe_int) (nomark _)) (pw_and1 (pt_cmpR op_le (pe_dget hu (pv 0) pe_str (fun _ _ => rfl)) (pe_callB call_len rfl T.len boot_len (pa_cons (pv 3) pa_nil)) (nomark _)))))
      (pss_cons (ps_dput hu (pv 0) pe_str (pe_op op_fdiv (pv 4) (pv 1)) rfl) (pss_one (ps_ret (pe_op op_mod (pv 4) (pv 1))))) pss_nil
  · exact ps_dput hu (pv 0) pe_str (pe_op op_add (pe_dget hu (pv 0) pe_str (fun _ _ => rfl)) pe_int) rfl
  · exact ps_ret (pe_op op_mod (pe_call FM hr rfl hM kM bM .nil pass0 (pa_cons (pe_call FM hr rfl hM kM bM .nil pass0 (pa_cons (pv 4) (pa_cons (pe_dget hu (pv 0) pe_str (fun _ _ => rfl)) pa_nil))) (pa_cons (pe_dget hu (pv 0) pe_str (fun _ _ => rfl)) pa_nil))) (pv 1))
theorem next_read {vs : List V} {H : Hp} {Q : VK} {E : XK} (h : spNext K vs H Q E) :
    tSeq tN0 (tSeq tN1 (tSeq (tN2 K) (tSeq tN3 (tSeq (tN4 K) (tSeq tN5 tN6))))) { nx := fun _ H' => Q .non H', rt := Q } (L2.start ["_law_draw", "_law_bound", "_law_found", "_law_cells", "_law_cell"] vs) H := by
  obtain ⟨d, b, t, rfl, b0, b1, ht, D, q⟩ := h
  obtain ⟨ac, cells, a, l, u, h1, h2, h3, h4, a0, a1, l0, u0, u1⟩ := D.ex
  have hl : 0 < cells.length := List.length_pos_iff.mpr h3
  have sd : ∀ {o : HO}, Same (hide d H) (upd H d o) := fun {o} bb uu eb => by
    have n1 : bb ≠ d := fun zz => by rw [zz] at eb; unfold hide at eb; rw [if_pos rfl] at eb; cases eb
    rw [upd_ne n1]
    exact hide_le _ _ eb
  have sq : ∀ {o : HO}, SqL K (upd H d o) ac (cells.map V.int) := fun {o} => SqL.same sd (SqL.hide h1 h2)
  have g : ∀ {H' : Hp} {x y z : Int} (k : Str) {v : V}, H' d = some (.dK (drK ac x y z)) → valV (drK ac x y z) (.inr k) = some v → DGet H' d (.str k) (some v) := fun {H' x y z} k {v} e e2 => by
    have := DGet.k (k := Sum.inr k) e
    rw [e2] at this
    exact this
  refine ⟨_, rfl, d, .int l, rfl, g "left" h1 rfl, l, 0, rfl, rfl, _, rfl, ?_⟩
  by_cases hp : (0 : Int) < l
  · rw [decide_eq_true hp]
    dsimp only
    rw [if_pos rfl]
    refine ⟨_, rfl, d, .int l, rfl, g "left" h1 rfl, _, rfl, l, b, rfl, rfl, b0, ?_⟩
    refine ⟨_, rfl, d, .int l, rfl, g "left" h1 rfl, _, rfl, l, b, rfl, rfl, ⟨b0, b1⟩, _, rfl, d, upd H d (.dK (drK ac a (l / b) u)), rfl, .inl ⟨_, .inr "left", h1, rfl, by rw [sizeLine_eq]; exact Nat.lt_of_lt_of_le (show 4 < 5 by decide) (by decide), rfl⟩, ?_⟩
    refine ⟨_, rfl, q _ _ (Int.emod_nonneg _ (by omega)) (Int.emod_lt_of_pos _ b0) sd ⟨ac, cells, a, l / b, u, upd_same, sq, h3, h4, a0, by omega, Int.ediv_nonneg l0 (by omega), u0, by omega⟩⟩
  · rw [decide_eq_false hp]
    dsimp only
    rw [if_neg Bool.false_ne_true]
    have hj : 0 ≤ a % (((cells.map V.int).length : Nat) : Int) := Int.emod_nonneg _ (by rw [List.length_map]; omega)
    have hj2 : a % (((cells.map V.int).length : Nat) : Int) < (((cells.map V.int).length : Nat) : Int) := Int.emod_lt_of_pos _ (by rw [List.length_map]; omega)
    have hj3 : (a % (((cells.map V.int).length : Nat) : Int)).toNat < cells.length := by
      rw [List.length_map] at hj2 ⊢
      have hj' := hj
      rw [List.length_map] at hj'
      omega
    have hat : atI (cells.map V.int) (a % (((cells.map V.int).length : Nat) : Int)) = some (V.int cells[(a % (((cells.map V.int).length : Nat) : Int)).toNat]) := by
      have := atI_nat (xs := cells.map V.int) (j := (a % (((cells.map V.int).length : Nat) : Int)).toNat) (v := V.int cells[(a % (((cells.map V.int).length : Nat) : Int)).toNat]) (by rw [List.getElem?_map, List.getElem?_eq_getElem hj3]; rfl)
      rw [Int.toNat_of_nonneg hj] at this
      exact this
    refine ⟨_, rfl, d, .ref ac, rfl, g "cells" h1 rfl, ?_⟩
    refine ⟨_, rfl, _, rfl, d, .int a, rfl, g "at" h1 rfl, _, rfl, .ref ac, (cells.map V.int).length, rfl, .inl ⟨_, h2, rfl⟩, a, _, rfl, rfl, by show (0 : Int) < _; rw [List.length_map]; omega, .inl ⟨ac, _, _, _, rfl, rfl, h2, hat, ?_⟩⟩
    generalize cells[(a % (((cells.map V.int).length : Nat) : Int)).toNat] = cell
    refine ⟨_, rfl, d, .int a, rfl, g "at" h1 rfl, a, 1, rfl, rfl, _, rfl, d, upd H d (.dK (drK ac (a + 1) l u)), rfl, .inl ⟨_, .inr "at", h1, rfl, by rw [sizeLine_eq]; exact Nat.lt_of_lt_of_le (show 4 < 5 by decide) (by decide), rfl⟩, ?_⟩
    have e1 : upd H d (.dK (drK ac (a + 1) l u)) d = some (.dK (drK ac (a + 1) l u)) := upd_same
    have sq1 : SqL K (upd H d (.dK (drK ac (a + 1) l u))) ac (cells.map V.int) := sq
    -- the last two rows
    have last : ∀ σ : L2.St, σ[0]? = some (some (.ref d)) → σ[1]? = some (some (.int b)) → σ[4]? = some (some (.int cell)) → tSeq tN5 tN6 { nx := fun _ H' => Q .non H', rt := Q } σ (upd H d (.dK (drK ac (a + 1) l u))) := by
      intro σ s0 s1 s4
      refine ⟨_, s0, d, .int u, rfl, g "used" e1 rfl, u, 1, rfl, rfl, _, s0, d, upd (upd H d (.dK (drK ac (a + 1) l u))) d (.dK (drK ac (a + 1) l (u + 1))), rfl, .inl ⟨_, .inr "used", e1, rfl, by rw [sizeLine_eq]; exact Nat.lt_of_lt_of_le (show 4 < 5 by decide) (by decide), rfl⟩, ?_⟩
      rw [L2.upd_upd]
      have e2 : upd H d (.dK (drK ac (a + 1) l (u + 1))) d = some (.dK (drK ac (a + 1) l (u + 1))) := upd_same
      refine ⟨_, s4, _, s0, d, .int (a + 1), rfl, g "at" e2 rfl, cell, a + 1, rfl, by omega, by omega, fun r => ⟨_, s0, d, .int (u + 1), rfl, g "used" e2 rfl, r, u + 1, rfl, by omega, by omega, fun r2 => ⟨_, s1, r2, b, rfl, rfl, b0, ?_⟩⟩⟩
      exact q _ _ (Int.emod_nonneg _ (by omega)) (Int.emod_lt_of_pos _ b0) sd ⟨ac, cells, a + 1, l, u + 1, upd_same, sq, h3, h4, by omega, by omega, l0, by omega, by omega⟩
    refine ⟨_, rfl, 10, 18, rfl, rfl, ⟨by decide, by decide, by decide⟩, cell, _, rfl, rfl, _, rfl, ?_⟩
    by_cases hc : (10 : Int) ^ (18 : Int).toNat ≤ cell
    · rw [decide_eq_true hc]
      dsimp only
      rw [if_pos rfl]
      refine ⟨_, rfl, d, .int (a + 1), rfl, g "at" e1 rfl, _, rfl, .ref ac, (cells.map V.int).length, rfl, .inl ⟨_, sq1, rfl⟩, a + 1, _, rfl, rfl, _, rfl, ?_⟩
      by_cases hc2 : a + 1 ≤ (((cells.map V.int).length : Nat) : Int)
      · rw [decide_eq_true hc2]
        dsimp only
        rw [if_pos rfl]
        have hc3 : 0 ≤ cell := Int.le_trans (by decide) hc
        refine ⟨_, rfl, _, rfl, cell, b, rfl, rfl, ⟨b0, b1⟩, _, rfl, d, upd (upd H d (.dK (drK ac (a + 1) l u))) d (.dK (drK ac (a + 1) (cell / b) u)), rfl, .inl ⟨_, .inr "left", e1, rfl, by rw [sizeLine_eq]; exact Nat.lt_of_lt_of_le (show 4 < 5 by decide) (by decide), rfl⟩, ?_⟩
        rw [L2.upd_upd]
        exact ⟨_, rfl, _, rfl, cell, b, rfl, rfl, b0, q _ _ (Int.emod_nonneg _ (by omega)) (Int.emod_lt_of_pos _ b0) sd ⟨ac, cells, a + 1, cell / b, u, upd_same, sq, h3, h4, by omega, by omega, Int.ediv_nonneg hc3 (by omega), u0, by omega⟩⟩
      · rw [decide_eq_false hc2]
        dsimp only
        rw [if_neg Bool.false_ne_true]
        exact last _ rfl rfl rfl
    · rw [decide_eq_false hc]
      dsimp only
      rw [if_neg Bool.false_ne_true, if_neg Bool.false_ne_true]
      exact last _ rfl rfl rfl
end
end
end Rp
set_option Elab.async false
set_option linter.all false
set_option maxRecDepth 100000
set_option maxHeartbeats 4000000
namespace Rp
noncomputable section
open PySem PySem.Spec PyProof.Rows L2 SX
def rCatQ (K : PySem.W.Frag) : R2 := fun x y H Q => ∃ l b xs zs, x = .ref l ∧ y = .ref b ∧ SqL K H l xs ∧ SqL K H b zs ∧ xs.length + zs.length ≤ 4000 ∧ ∀ p, H p = none → Q (.ref p) (upd H p (.lst (xs ++ zs)))
theorem op_catQ {X : Cx} : OpR X (binaryOp .Add) (rCatQ X.K) := by
  intro pins s σ H x y v u Q I rx ry h
  obtain ⟨l, b, xs, zs, rfl, rfl, hH, hB, hz, q⟩ := h
  cases rx
  cases ry
  obtain ⟨its, r, ⟨⟨cls, dd, data, sl⟩, n, o1, o2, o3, o4⟩, _⟩ := I.list hH
  obtain ⟨its2, r2, ⟨⟨cls2, dd2, data2, sl2⟩, n2, p1, p2, p3, p4⟩, _⟩ := I.list hB
  simp only at o2 o4 p2 p4
  subst o2 o4 p2 p4
  have hl1 := r.length
  have hl2 := r2.length
  have ea : its.toArray ++ its2.toArray = (its ++ its2).toArray := by simp
  refine concat_meets ⟨_, o1, rfl⟩ ⟨_, p1, rfl⟩ noFill_list_add seq_list_add PySem.F.slot_list_add PySem.F.entry_list_add (PySem.F.args_list_add_2 _ _) (list_addW l b its.toArray its2.toArray n n2 dd dd2 sl sl2 (by rw [List.size_toArray, List.size_toArray, sizeLine_eq]; omega)) ⟨o1, p1, ?_⟩
  rw [ea]
  exact ⟨.ref _, _, I.lnew (t' := s.toks) (r.append r2) (by rw [List.length_append, sizeLine_eq]; omega), rfl, q _ I.fresh⟩
section
variable {P : Program} {w : World} {K : PySem.W.Frag} {mg : Str → Option Value} {base : Heap} {C : Addr}
/-! ### _law_begin -/
def spBeg (K : PySem.W.Frag) : Sp := fun vs H Q _ => ∃ (a : Addr) (ns : List Int), vs = [.ref a] ∧ SqL K H a (ns.map V.int) ∧ ns.length ≤ 63 ∧ ∀ d H', Same H H' → H d = none → DrawAt K H' d 0 → Q (.ref d) H'
def tBeg (K : PySem.W.Frag) : TS := tRet (tDisp [(tC (.str "cells"), tOp (rCatQ K) (tVar 0) (tLst (tCons (nI 0) tNil))), (tC (.str "at"), nI 0), (tC (.str "left"), nI 0), (tC (.str "used"), nI 0)])
theorem sc_beg : FnScope ["_law_script"] ["_law_script"] (defScope (top 72)) := ⟨rfl, rfl, rfl, by decide +kernel, rfl, by decide +kernel, by decide +kernel⟩
theorem beg_read {vs : List V} {H : Hp} {Q : VK} {E : XK} (h : spBeg K vs H Q E) : tBeg K { nx := fun _ H' => Q .non H', rt := Q } (L2.start ["_law_script"] vs) H := by
  obtain ⟨a, ns, rfl, h1, h2, q⟩ := h
  intro p hp
  have s0 : Same H (upd H p (.dK [])) := same_new hp
  refine ⟨_, rfl, Nat.le_of_ble_eq_true rfl, fun l hl => ?_⟩
  have s1 : Same (upd H p (.dK [])) (upd (upd H p (.dK [])) l (.lst [.int 0])) := same_new hl
  have np : l ≠ p := fun zz => by rw [zz, upd_same] at hl; cases hl
  refine ⟨a, l, _, _, rfl, rfl, SqL.same (s0.trans s1) h1, SqL.of upd_same, by rw [List.length_map]; show ns.length + 1 ≤ 4000; omega, fun m hm => ?_⟩
  have s2 : Same (upd (upd H p (.dK [])) l (.lst [.int 0])) (upd (upd (upd H p (.dK [])) l (.lst [.int 0])) m (.lst (ns.map V.int ++ [.int 0]))) := same_new hm
  have hp3 : upd (upd (upd H p (.dK [])) l (.lst [.int 0])) m (.lst (ns.map V.int ++ [.int 0])) p = some (.dK []) := s2 _ _ (s1 _ _ upd_same)
  have hm3 : upd (upd (upd H p (.dK [])) l (.lst [.int 0])) m (.lst (ns.map V.int ++ [.int 0])) m = some (.lst (ns.map V.int ++ [.int 0])) := upd_same
  have s3 := (s0.trans s1).trans s2
  generalize upd (upd (upd H p (.dK [])) l (.lst [.int 0])) m (.lst (ns.map V.int ++ [.int 0])) = H3 at hp3 hm3 s3 ⊢
  refine ⟨hp3, drK m 0 0 0, rfl, by show 4 ≤ 15; decide, ?_⟩
  have nm : m ≠ p := fun zz => by rw [zz, hp3] at hm3; cases hm3
  have e : mergeK [] (drK m 0 0 0) = drK m 0 0 0 := rfl
  rw [e]
  refine q p _ (fun b u eb => by rw [upd_ne (ne_of_none eb hp)]; exact s3 _ _ eb) hp ⟨m, ns ++ [0], 0, 0, 0, upd_same, SqL.of (by rw [upd_ne nm, hm3, List.map_append]; rfl), fun zz => by simp at zz, by rw [List.length_append]; show ns.length + 1 ≤ 100; omega, by decide, by decide, by decide, by decide, by decide⟩
theorem F_beg (T : Top P w K mg base C) : ∃ f fd, FnOk P w K mg base L2.CX0 1 f fd ["_law_script"] (spBeg K) ∧ mg "_law_begin" = some (.ref f) ∧ PySem.W.keepIn K (.ref f) = true ∧ Binds K fd ["_law_script"] [] := by
  obtain ⟨f, fd, F, hm⟩ := T.d__law_begin.ex
  have S := sc_beg
  refine ⟨f, fd, F.ok S (fun vs H Q E h => ?_) (fun cdv A outer s H vs Q E hr h => ⟨tBeg K, PSs.nox ?_, beg_read h⟩), hm, F.kp, F.bindsN fun _ _ _ _ _ _ us hl => match us, hl with | [_], _ => rfl⟩
  · obtain ⟨a, ns, rfl, _⟩ := h
    rfl
  · exact pss_one (ps_ret (pe_disp (pps_cons pe_str (pe_op op_catQ (pv 0) (pe_lst (pa_cons pe_int pa_nil))) (pps_cons pe_str pe_int (pps_cons pe_str pe_int (pps_cons pe_str pe_int pps_nil)))) rfl rfl (List.cons_ne_nil _ _) (by decide)))
/-! ### _law_next, _law_pick -/
theorem F_next (T : Top P w K mg base C) : ∃ f fd, FnOk P w K mg base L2.CX0 2 f fd ["_law_draw", "_law_bound"] (spNext K) ∧ mg "_law_next" = some (.ref f) ∧ PySem.W.keepIn K (.ref f) = true ∧ Binds K fd ["_law_draw", "_law_bound"] [] := by
  obtain ⟨f, fd, F, hm⟩ := T.d__law_next.ex
  refine ⟨f, fd, F.ok sc_next (fun vs H Q E h => ?_) (fun cdv A outer s H vs Q E hr h => ⟨_, PSs.nox (pss_next T f cdv A outer s H E hr), next_read h⟩), hm, F.kp, F.bindsN fun _ _ _ _ _ _ us hl => match us, hl with | [_, _], _ => rfl⟩
  obtain ⟨d, b, t, rfl, _⟩ := h
  rfl
def spPick (K : PySem.W.Frag) : Sp := fun vs H Q _ => ∃ (d l : Addr) (t : Nat) (xs : List V), vs = [.ref d, .ref l] ∧ t < 1000 ∧ DrawAt K H d t ∧ H l = some (.lst xs) ∧ xs ≠ [] ∧ xs.length ≤ 1000 ∧
  ∀ (j : Nat) (v : V) H', xs[j]? = some v → Same (hide d H) H' → DrawAt K H' d (t + 1) → Q v H'
def tPick (K : PySem.W.Frag) : TS := tRet (tOp (rIx K) (tVar 1) (tCall (spNext K) [] E0 (tCons (tVar 0) (tCons (tCB (rLen K) (tCons (tVar 1) tNil)) tNil))))
theorem sc_pick : FnScope ["_law_draw", "_law_items_here"] ["_law_draw", "_law_items_here"] (defScope (top 75)) := ⟨rfl, rfl, rfl, by decide +kernel, rfl, by decide +kernel, by decide +kernel⟩
theorem pick_read {vs : List V} {H : Hp} {Q : VK} {E : XK} (h : spPick K vs H Q E) : tPick K { nx := fun _ H' => Q .non H', rt := Q } (L2.start ["_law_draw", "_law_items_here"] vs) H := by
  obtain ⟨d, l, t, xs, rfl, h1, h2, h3, h4, h5, q⟩ := h
  have hl : 0 < xs.length := List.length_pos_iff.mpr h4
  refine ⟨_, rfl, _, rfl, _, rfl, .ref l, xs.length, rfl, .inl ⟨_, SqL.of h3, rfl⟩, d, _, t, rfl, by omega, by omega, h1, h2, fun r H' r0 r1 s1 D1 => ?_⟩
  obtain ⟨ac, cells, a, ll, u, e1, _⟩ := h2.ex
  have nd : l ≠ d := fun zz => by rw [zz, e1] at h3; cases h3
  have h6 : H' l = some (.lst xs) := s1 _ _ (by rw [hide_at nd]; exact h3)
  have hj : r.toNat < xs.length := by omega
  have e : xs[r.toNat]? = some xs[r.toNat] := List.getElem?_eq_getElem hj
  have := atI_nat e
  rw [Int.toNat_of_nonneg r0] at this
  exact .inl ⟨l, xs, r, _, rfl, rfl, SqL.of h6, this, q r.toNat _ H' e s1 D1⟩
theorem F_pick (T : Top P w K mg base C) : ∃ f fd, FnOk P w K mg base L2.CX0 3 f fd ["_law_draw", "_law_items_here"] (spPick K) ∧ mg "_law_pick" = some (.ref f) ∧ PySem.W.keepIn K (.ref f) = true ∧ Binds K fd ["_law_draw", "_law_items_here"] [] := by
  obtain ⟨f, fd, F, hm⟩ := T.d__law_pick.ex
  obtain ⟨fN, fdN, FN, hN, kN, bN⟩ := F_next T
  have S := sc_pick
  refine ⟨f, fd, F.ok S (fun vs H Q E h => ?_) (fun cdv A outer s H vs Q E hr h => ⟨tPick K, PSs.nox ?_, pick_read h⟩), hm, F.kp, F.bindsN fun _ _ _ _ _ _ us hl => match us, hl with | [_, _], _ => rfl⟩
  · obtain ⟨d, l, t, xs, rfl, _⟩ := h
    rfl
  · exact pss_one (ps_ret (pe_ix ix_seq (pv 1) (pe_call FN hr rfl hN kN bN .nil pass0 (pa_cons (pv 0) (pa_cons (pe_callB call_len rfl T.len boot_len (pa_cons (pv 1) pa_nil)) pa_nil))) (fun _ _ => rfl)))
end
end
end Rp
set_option Elab.async false
set_option linter.all false
set_option maxRecDepth 100000
set_option maxHeartbeats 4000000
namespace Rp
noncomputable section
open PySem PySem.Spec PyProof.Rows L2 SX
/-! ### a comprehension with a target of several names -/
def lcT (c : Cw) (A : D → Rho → Option Rho) (vs : List Nat) (g : TG) : Prop := ∀ σ H ρ d v ρ' (Q : L2.St → Hp → Prop), SRep c H (L2.wipe σ vs) (wipeR ρ vs) → Rep c H d v → A d (wipeR ρ vs) = some ρ' → (∀ σ', SRep c H σ' ρ' → L2.wipe σ' vs = L2.wipe σ vs → Q σ' H) → g v (L2.wipe σ vs) H Q
theorem lc_readG {c : Cw} {J : It} {ds ys : List D} {d : D} {vs : List Nat} {A : D → Rho → Option Rho} {g : TG} {tt : TT} {tr : RT} {te : RE} {σ : L2.St} {H1 : Hp} {ρ : Rho} {Q : VK} (wk : Wk c H1 ds J) (h : SRep c H1 σ ρ) (hg : lcT c A vs g)
    (ht : ∀ σ H ρ b (Q : Bool → Hp → Prop), SRep c H σ ρ → tr ρ = some b → (∀ H', Same H H' → Q b H') → tt σ H Q)
    (e : lcD A tr te ds (wipeR ρ vs) = some ys) (em : mkLst ys = some d) (q : Wt c H1 d Q) : ∀ D, H1 D = none → ∃ W : Nat → Nat → Hp → Prop, (∃ m, W 0 m (upd H1 D (.lst []))) ∧ ∀ k m H, W k m H →
      (J.stop k H ∧ Q (.ref D) H) ∨ (J.go k H ∧ ∃ Nx : Hp → Prop, (∀ H', Nx H' → ∃ m', m' < m ∧ W (k + 1) m' H') ∧ ∀ x H', J.yld k H x H' → g x (L2.wipe σ vs) H' fun σ2 H2 => L2.wipe σ2 vs = L2.wipe σ vs ∧ tt σ2 H2 fun b H3 =>
        if b = true then tE c te σ2 H3 fun y H4 => ∃ acc, H4 D = some (.lst acc) ∧ acc.length < sizeLine ∧ Nx (upd H4 D (.lst (acc ++ [y]))) else Nx H3) := by
  intro D hD
  obtain ⟨n, G, Y, w, rfl, hG, hY⟩ := wk
  obtain ⟨m1, m2⟩ := cond_some em
  obtain ⟨m3, m4⟩ := cond_some m2
  cases m4
  have hz := Nat.le_of_ble_eq_true m1
  refine lc_it w (fun k H' => Same H1 H' ∧ ∃ acc done rest, H' D = some (.lst acc) ∧ RepL c H' done acc ∧ done.all isSc = true ∧ lcD A tr te (ds.drop k) (wipeR ρ vs) = some rest ∧ ys = done ++ rest)
    ⟨same_new hD, [], [], ys, upd_same, rfl, rfl, by rw [List.drop_zero]; exact e, rfl⟩ (fun k H' _ z => hG H' z.1) ?_ ?_
  · rintro k x H2 H3 hk ⟨s1, acc, done, rest, a1, a2, a3, a4, a5⟩ y
    obtain ⟨s2, dk, hdk, rk⟩ := hY k H2 x H3 hk s1 y
    rw [dropD_at ds k dk hdk] at a4
    have s12 := s1.trans s2
    unfold lcD at a4
    cases e0 : A dk (wipeR ρ vs) with
    | none => rw [e0] at a4; cases a4
    | some ρ1 =>
      rw [e0] at a4
      refine hg σ H3 ρ dk x ρ1 _ ((h.wipe vs).same s12) rk e0 fun σ' h3 hw => ⟨hw, ?_⟩
      have a4' : (match tr ρ1 with
        | some true => (match te ρ1 with
          | some y => cnd (isSc y) (match lcD A tr te (ds.drop (k + 1)) (wipeR ρ vs) with
            | some r => some (y :: r)
            | none => none) none
          | none => none)
        | some false => lcD A tr te (ds.drop (k + 1)) (wipeR ρ vs)
        | none => none) = some rest := a4
      cases e2 : tr ρ1 with
      | none => rw [e2] at a4'; cases a4'
      | some b =>
        rw [e2] at a4'
        refine ht _ H3 _ b _ h3 e2 fun H4 s4 => ?_
        cases b with
        | false =>
          rw [if_neg Bool.false_ne_true]
          exact ⟨s12.trans s4, acc, done, rest, s4 _ _ (s2 _ _ a1), repL_sc a3 a2, a3, a4', a5⟩
        | true =>
          rw [if_pos rfl]
          cases e3 : te ρ1 with
          | none => simp only [e3] at a4'; cases a4'
          | some y =>
            simp only [e3] at a4'
            obtain ⟨z1, z2⟩ := cond_some a4'
            cases e4 : lcD A tr te (ds.drop (k + 1)) (wipeR ρ vs) with
            | none => rw [e4] at z2; cases z2
            | some r =>
              rw [e4] at z2
              cases z2
              refine ⟨_, y, h3.same s4, e3, fun v H5 s5 rv => ⟨acc, s5 _ _ (s4 _ _ (s2 _ _ a1)), ?_, ?_⟩⟩
              · rw [a2.length]
                have : ys.length = done.length + (r.length + 1) := by rw [a5, List.length_append, List.length_cons]
                rw [sizeLine_eq]
                omega
              · refine ⟨fun b u eb => ?_, acc ++ [v], done ++ [y], r, upd_same, (repL_sc (H' := upd H5 D (.lst (acc ++ [v]))) a3 a2).append ⟨v, [], rfl, rep_sc z1 rv, rfl⟩, ?_, rfl, by rw [a5, List.append_assoc]; rfl⟩
                · rw [upd_ne (ne_of_none eb hD)]
                  exact s5 _ _ (s4 _ _ (s12 _ _ eb))
                · rw [List.all_append, a3, List.all_cons, z1]
                  rfl
  · rintro H2 ⟨s1, acc, done, rest, a1, a2, a3, a4, a5⟩
    rw [List.drop_length] at a4
    cases a4
    rw [List.append_nil] at a5
    subst a5
    exact q _ H2 s1 ⟨D, acc, rfl, a1, a2, m3⟩
section
variable {C : Addr} {X : Cx}
theorem lcT2 {c : Cw} {i j : Nat} (ne : i ≠ j) : lcT c (aTup [i, j]) [i, j] (gTup c.K 2 (gCons (gName i) (gCons (gName j) gNil))) := by
  intro σ H ρ d v ρ' Q h r e q
  unfold aTup at e
  cases e1 : tupOf d with
  | none => rw [e1] at e; cases e
  | some l =>
    rw [e1] at e
    obtain ⟨a, vs, h1, h2, h3⟩ := tupOf_rep e1 r
    have hl := setAll_len e
    match l, h3, e, hl with
    | [x, y], h3, e, _ =>
      obtain ⟨v1, r1, p1, p2, p3⟩ := h3
      obtain ⟨v2, r2, p4, p5, p6⟩ := p3
      have p7 : r2 = [] := p6
      subst p7 p4 p1
      cases e
      refine ⟨a, _, h1, h2, rfl, v1, _, rfl, v2, _, rfl, rfl, q _ ((h.set i p2).set j p5) ?_⟩
      show (((((σ.set j none).set i none).set i _).set j _).set j none).set i none = (σ.set j none).set i none
      rw [List.set_set, List.set_set, List.set_comm _ _ ne, List.set_set, List.set_set]
/-- [e for x, y in it if t] -/
theorem px_lcT {elt iter tst : Expr} {scope : Scope} {x y : Str} {p p2 tp pos : Pos} {tk : Nat} {l : RA} {tr : RT} {te : RE} (i j : Nat) (hc : X.calm = true) (hN : X.N.Nodup) (hi : IX C X (.Tuple [.Name x p, .Name y p2] tk tp) iter l) (ne : i ≠ j) (ok : BlkOk X.N X.env.scope scope [(x, i), (y, j)])
    (hg : ∀ (s : Shared) (H : Hp) (C' : Addr) (cl : List (Str × Addr)) (fp : List Addr), PG (X.blk s H scope (compEnvC scope cl C' X.env) fp) (.Tuple [.Name x p, .Name y p2] tk tp) (gTup X.K 2 (gCons (gName i) (gCons (gName j) gNil))))
    (ht : ∀ (s : Shared) (H : Hp) (C' : Addr) (cl : List (Str × Addr)) (fp : List Addr), TX C (X.blk s H scope (compEnvC scope cl C' X.env) fp) tst tr)
    (he : ∀ (s : Shared) (H : Hp) (C' : Addr) (cl : List (Str × Addr)) (fp : List Addr), PX C (X.blk s H scope (compEnvC scope cl C' X.env) fp) elt te) (hs : ∀ x, foldedSetIterable iter X.env x = pure x := by intro _; rfl) :
    PX C X (.ListComp elt [⟨.Tuple [.Name x p, .Name y p2] tk tp, iter, [tst], 0⟩] scope pos) (eLc (aTup [i, j]) l tr te [i, j]) := by
  obtain ⟨wi, pi, ri⟩ := hi
  refine ⟨_, pe_lc (own := [(x, i), (y, j)]) (te := tE (cw C X) te) (tt := tT (cw C X) tr) hc hN pi ok hg (fun s H C' cl fp => pts_one (ht s H C' cl fp).pt) (fun s H C' cl fp => (he s H C' cl fp).pe) hs, fun σ H ρ d Q h e q => ?_⟩
  unfold eLc at e
  cases e1 : l ρ with
  | none => rw [e1] at e; cases e
  | some ds =>
    rw [e1] at e
    cases e2 : lcD (aTup [i, j]) tr te ds (wipeR ρ [i, j]) with
    | none => simp only [e2] at e; cases e
    | some ys =>
      simp only [e2] at e
      refine ri σ H ρ ds _ h e1 fun J H1 s1 wk => ?_
      exact lc_readG (c := cw C X) (tt := tT (cw C X) tr) wk (h.same s1) (lcT2 ne) (fun σ H ρ b Q h e q => ⟨ρ, b, h, e, q⟩) e2 e (q.mono s1)
end
end
end Rp
set_option Elab.async false
set_option linter.all false
set_option maxRecDepth 100000
set_option maxHeartbeats 4000000
namespace Rp
noncomputable section
open PySem PySem.Spec PyProof.Rows L2 SX
def b_law_rest : RS :=
  (sSeq (sSet 5 (eA mkLst (aCons (eA mkTup (aCons (eC (.str [120, 10])) (aCons (eC (.str [])) aNil))) (aCons (eA mkTup (aCons (eC (.str [105, 102, 32, 120, 58, 10, 32, 121, 10])) (aCons (eC (.str [105, 102, 32, 120, 58, 10, 32, 32, 121, 10])) aNil))) (aCons (eA mkTup (aCons (eC (.str [91, 40, 91, 123, 48, 58, 10])) (aCons (eC (.str [91, 40, 91, 123, 48, 10])) aNil))) (aCons (eA mkTup (aCons (eC (.str [36, 34, 123, 10])) (aCons (eC (.str [40, 10])) aNil))) aNil))))))
    (sSeq (sSet 5 (o2 dAdd (eVar 5) (eA mkLst (aCons (eA mkTup (aCons (eC (.str [102, 40, 97, 44, 10])) (aCons (eC (.str [40, 97, 44, 10])) aNil))) (aCons (eA mkTup (aCons (eC (.str [100, 101, 102, 32, 102, 40, 10])) (aCons (eC (.str [100, 101, 102, 32, 102, 40, 97, 10])) aNil))) (aCons (eA mkTup (aCons (eC (.str [116, 114, 121, 58, 32, 120, 10])) (aCons (eC (.str [116, 114, 121, 58, 32, 120, 10, 101, 120, 99, 101, 112, 116, 58, 32, 121, 10])) aNil))) aNil))))))
    (sSeq (sSet 5 (o2 dAdd (eVar 5) (eA mkLst (aCons (eA mkTup (aCons (eC (.str [100, 101, 102, 32, 102, 40, 41, 58, 10, 32, 119, 104, 105, 108, 101, 32, 120, 58, 10, 32, 32, 121, 10])) (aCons (eC (.str [119, 104, 105, 108, 101, 32, 120, 58, 10, 32, 100, 101, 102, 32, 102, 40, 41, 58, 10, 32, 32, 121, 10])) aNil))) (aCons (eA mkTup (aCons (eC (.str [105, 102, 32, 120, 58, 10])) (aCons (eC (.str [100, 101, 102, 32, 102, 40, 41, 58, 10])) aNil))) aNil)))))
    (sSeq (sSet 5 (o2 dAdd (eVar 5) (eA mkLst (aCons (eA mkTup (aCons (eC (.str [120, 59, 32, 92, 10])) (aCons (eC (.str [112, 97, 115, 115, 32, 92, 10])) aNil))) (aCons (eA mkTup (aCons (eC (.str [39, 39, 39, 10])) (aCons (eC (.str [34, 34, 34, 10])) aNil))) (aCons (eA mkTup (aCons (eC (.str [119, 104, 105, 108, 101, 32, 120, 58, 32, 102, 40, 97, 44, 32, 98, 40, 10])) (aCons (eC (.str [105, 102, 32, 120, 58, 32, 102, 40, 97, 44, 32, 98, 40, 10])) aNil))) aNil))))))
    (sSeq (sIf (asB (o2 dNe (eLc (aTup [3, 4]) (seqLst (eVar 5)) (tOrE (tNotE (asB (eA m_l_told_right (aCons (eVar 3) (aCons (eVar 4) aNil))))) (asB (eA m_are_alike (aCons (eVar 3) (aCons (eVar 4) aNil))))) (eC (.int 1)) [3, 4]) (eA mkLst aNil))) (sRet (eC (.bl false))) sNx)
    (sSeq (sIf (tNotE (asB (eA m_l_told_right (aCons (o2 dAdd (o2 dAdd (eC (.str [40])) (o2 dMul (eC (.str [91])) (eC (.int 13)))) (eC (.str [10]))) (aCons (o2 dAdd (o2 dMul (eC (.str [91])) (eC (.int 14))) (eC (.str [10]))) aNil))))) (sRet (eC (.bl false))) sNx)
    (sRet (o2 dIs (eA m_difference (aCons (eC (.str [40, 49, 10])) (aCons (eC (.str [40, 50, 10])) aNil))) (eC .non)))))))))
/-- difference, called by its parameters' names -/
structure FnKW (P : Program) (w : World) (K : PySem.W.Frag) (mg : Str → Option Value) (base : Heap) (C : Addr) (k : Nat) (x n1 n2 : Str) (m : List D → Option D) : Prop where
  ex : ∃ f fd, FnOk P w K mg base L2.CX0 k f fd [n1, n2] (spM ⟨C, K, w⟩ m) ∧ mg x = some (.ref f) ∧ PySem.W.keepIn K (.ref f) = true ∧ ∀ (s : Shared) (ws : List Value), ws.length = 2 → BindsTo s fd ⟨[], [n1, n2].zip ws⟩ ([n1, n2].zip ws)
theorem px_callKW {C : Addr} {X : Cx} {k j : Nat} {x n1 n2 : Str} {m : List D → Option D} {p pos k1 k2 : Pos} {a b : Expr} {f g : RE} (F : FnKW X.prog X.w X.K X.mg X.base C k x n1 n2 m) (hr : Room j X.A) (hk : k ≤ j) (ha : PX C X a f) (hb : PX C X b g) (hg : Gl X x := by rfl)
    (hd : (x == ("__debug__" : Str)) = false := by decide) (hall : (backToKw pos (keywordEach [⟨some n1, a, k1⟩, ⟨some n2, b, k2⟩] X.env)).all (·.1.isSome) = true := by rfl) (hks : (backToKw pos (keywordEach [⟨some n1, a, k1⟩, ⟨some n2, b, k2⟩] X.env)).filterMap (·.1) = [n1, n2] := by rfl)
    (hpl : ((backTo pos (starEach [] X.env)).any (·.1) || (backToKw pos (keywordEach [⟨some n1, a, k1⟩, ⟨some n2, b, k2⟩] X.env)).any (·.1.isNone)) = false := by rfl) :
    PX C X (.Call (.Name x p) [] [⟨some n1, a, k1⟩, ⟨some n2, b, k2⟩] pos) (eA m (aCons f (aCons g aNil))) := by
  obtain ⟨fa, fd, F, hm, kp, bi⟩ := F.ex
  obtain ⟨ta, pa, ra⟩ := ha
  obtain ⟨tb, pb, rb⟩ := hb
  refine ⟨fun σ H Q => ta σ H fun v H1 => tb σ H1 fun u H2 => spM (cw C X) m [v, u] H2 Q E0, ⟨fun pins s σ H Q I h => ?_⟩, fun σ H ρ d Q h e q => ?_⟩
  · refine wpAny_Call_Name_kw (ld_glob I hg hm ?_ hd)
    refine PySem.W.callWith_KW0 (h₀ := X.base) I.ok.mod.kin kp hall (thn ((pk_cons pa (pk_cons pb pk_nil)).run pos pins s σ H _ I (show tCons ta (tCons tb tNil) σ H (fun vs H2 => spM (cw C X) m vs H2 Q E0) from h)) fun ws s2 ⟨zs, H2, I2, rz, q2⟩ => ⟨I2.kIn, ?_⟩) hpl
    · rw [hks]
      have hl : ws.length = 2 := by rw [← rz.length]; exact F.len _ _ _ _ q2
      refine wpAny_call (codeAny_mono (F.run X.A X.stack s2 H2 ⟨[], [n1, n2].zip ws⟩ ws zs Q E0 (hr.mono hk) I2.env0 (bi s2 ws hl) rz q2) fun r s' hq => ?_)
      cases r with
      | error e => exact pass0 pins σ H2 s2 e s' I2 hq
      | ok fl =>
        cases fl with
        | ret u => exact I2.after hq
        | next => exact False.elim hq
        | brk => exact False.elim hq
        | cont => exact False.elim hq
  · obtain ⟨ds, e1, e2⟩ := eA_some e
    unfold aCons at e1
    cases ea : f ρ with
    | none => rw [ea] at e1; cases e1
    | some d1 =>
      rw [ea] at e1
      cases eb : g ρ with
      | none => simp only [eb] at e1; cases e1
      | some d2 =>
        simp only [eb] at e1
        cases e1
        refine ra σ H ρ d1 _ h ea fun v H1 s1 r1 => rb σ H1 ρ d2 _ (h.same s1) eb fun u H2 s2 r2 => ?_
        exact ⟨[d1, d2], d, ⟨v, [u], rfl, r1.same s2, u, [], rfl, r2, rfl⟩, e2, q.mono (s1.trans s2)⟩
section
variable {P : Program} {w : World} {K : PySem.W.Frag} {mg : Str → Option Value} {base : Heap} {C : Addr}
theorem F_diffK (T : Top P w K mg base C) : FnKW P w K mg base C 19 "difference" "first" "second" m_difference := by
  obtain ⟨f, fd, F, hm⟩ := T.d_difference.ex
  refine ⟨f, fd, fn_body (N := ["first", "second", "one", "other", "waiting", "seen", "path", "found", "far", "near", "text", "key"]) (C := C) F sc_difference rfl rfl (fun cdv A outer s H E hr => ⟨_, ps_difference T f cdv A outer s H E hr, fun σ H ρ r D h e q => diff_read h e q⟩), hm, F.kp, fun s ws hl => ?_⟩
  obtain ⟨oc, od, dV, kV, doc, pm, an, cdv, ct, osl, rfl, lk, hcd, hD, hK⟩ := F.ex
  have hD2 : dV = .none := by
    rcases hD with ⟨_, e⟩ | ⟨e, _⟩
    · exact e
    · exact absurd rfl e
  subst hD2
  match ws, hl with
  | [_, _], _ => exact .of_eq rfl
theorem sc_law : FnScope ["_law_script", "_law_draw", "_law_turn", "_law_near", "_law_far", "_law_some"] ["_law_script"] (defScope (top 90)) := ⟨rfl, rfl, rfl, by decide +kernel, rfl, by decide +kernel, by decide +kernel⟩
def lawRest : List Stmt := (defBody (top 90)).drop 2
theorem bx_law_rest (T : Top P w K mg base C) (f : Addr) (cdv : Value) (A : Around) (outer : List Env) (s : Shared) (H : Hp) (E : XK) (hr : Room 101 (A.deeper (envOfC "law" (defScope (top 90)) s.heap.objs.size f cdv))) :
    BX C (CxD P w K mg base ["_law_script", "_law_draw", "_law_turn", "_law_near", "_law_far", "_law_some"] "law" (defScope (top 90)) f cdv A outer s H E) lawRest b_law_rest := by
    have S := sc_law
    have hu := hr.units
    have F_l_told_right := F_l_told_right T
    have F_are_alike := F_are_alike T
    have F_diffK := F_diffK T
    exact (bx_cons (sx_set (i := 5) S.nd (px_lst (ax_cons (px_tup (ax_cons (px_str (s := [120, 10]) (by rfl) (by rfl)) (ax_cons (px_str (s := []) (by rfl) (by rfl)) ax_nil))) (ax_cons (px_tup (ax_cons (px_str (s := [105, 102, 32, 120, 58, 10, 32, 121, 10]) (by rfl) (by rfl)) (ax_cons (px_str (s := [105, 102, 32, 120, 58, 10, 32, 32, 121, 10]) (by rfl) (by rfl)) ax_nil))) (ax_cons (px_tup (ax_cons (px_str (s := [91, 40, 91, 123, 48, 58, 10]) (by rfl) (by rfl)) (ax_cons (px_str (s := [91, 40, 91, 123, 48, 10]) (by rfl) (by rfl)) ax_nil))) (ax_cons (px_tup (ax_cons (px_str (s := [36, 34, 123, 10]) (by rfl) (by rfl)) (ax_cons (px_str (s := [40, 10]) (by rfl) (by rfl)) ax_nil))) ax_nil))))))
    (bx_cons (sx_set (i := 5) S.nd (px_op op_dAdd (px_var (i := 5)) (px_lst (ax_cons (px_tup (ax_cons (px_str (s := [102, 40, 97, 44, 10]) (by rfl) (by rfl)) (ax_cons (px_str (s := [40, 97, 44, 10]) (by rfl) (by rfl)) ax_nil))) (ax_cons (px_tup (ax_cons (px_str (s := [100, 101, 102, 32, 102, 40, 10]) (by rfl) (by rfl)) (ax_cons (px_str (s := [100, 101, 102, 32, 102, 40, 97, 10]) (by rfl) (by rfl)) ax_nil))) (ax_cons (px_tup (ax_cons (px_str (s := [116, 114, 121, 58, 32, 120, 10]) (by rfl) (by rfl)) (ax_cons (px_str (s := [116, 114, 121, 58, 32, 120, 10, 101, 120, 99, 101, 112, 116, 58, 32, 121, 10]) (by rfl) (by rfl)) ax_nil))) ax_nil))))))
    (bx_cons (sx_set (i := 5) S.nd (px_op op_dAdd (px_var (i := 5)) (px_lst (ax_cons (px_tup (ax_cons (px_str (s := [100, 101, 102, 32, 102, 40, 41, 58, 10, 32, 119, 104, 105, 108, 101, 32, 120, 58, 10, 32, 32, 121, 10]) (by rfl) (by rfl)) (ax_cons (px_str (s := [119, 104, 105, 108, 101, 32, 120, 58, 10, 32, 100, 101, 102, 32, 102, 40, 41, 58, 10, 32, 32, 121, 10]) (by rfl) (by rfl)) ax_nil))) (ax_cons (px_tup (ax_cons (px_str (s := [105, 102, 32, 120, 58, 10]) (by rfl) (by rfl)) (ax_cons (px_str (s := [100, 101, 102, 32, 102, 40, 41, 58, 10]) (by rfl) (by rfl)) ax_nil))) ax_nil)))))
    (bx_cons (sx_set (i := 5) S.nd (px_op op_dAdd (px_var (i := 5)) (px_lst (ax_cons (px_tup (ax_cons (px_str (s := [120, 59, 32, 92, 10]) (by rfl) (by rfl)) (ax_cons (px_str (s := [112, 97, 115, 115, 32, 92, 10]) (by rfl) (by rfl)) ax_nil))) (ax_cons (px_tup (ax_cons (px_str (s := [39, 39, 39, 10]) (by rfl) (by rfl)) (ax_cons (px_str (s := [34, 34, 34, 10]) (by rfl) (by rfl)) ax_nil))) (ax_cons (px_tup (ax_cons (px_str (s := [119, 104, 105, 108, 101, 32, 120, 58, 32, 102, 40, 97, 44, 32, 98, 40, 10]) (by rfl) (by rfl)) (ax_cons (px_str (s := [105, 102, 32, 120, 58, 32, 102, 40, 97, 44, 32, 98, 40, 10]) (by rfl) (by rfl)) ax_nil))) ax_nil))))))
    (bx_cons (sx_if (tx_cmp (op_dNe hu) (px_lcT 3 4 rfl S.nd (ix_lstD (px_var (i := 5))) (by decide) (blkOk_by (N := ["_law_script", "_law_draw", "_law_turn", "_law_near", "_law_far", "_law_some"]) (sc := defScope (top 90)) (by decide +kernel)) (fun _ _ _ _ _ => pg_tup rfl (pgs_cons (pg_name (i := 3) S.nd rfl (Or.inl rfl)) (pgs_cons (pg_name (i := 4) S.nd rfl (Or.inl rfl)) pgs_nil))) (fun _ _ _ _ _ => (WX.tx (wx_or (tx_not (tx_val (px_call F_l_told_right hr (by decide) (ax_cons (px_var (i := 3)) (ax_cons (px_var (i := 4)) ax_nil))))) (wx_or1 (tx_val (px_call F_are_alike hr (by decide) (ax_cons (px_var (i := 3)) (ax_cons (px_var (i := 4)) ax_nil)))))))) (fun _ _ _ _ _ => px_int)) (px_lst ax_nil) (nomark _)) (bx_one (sx_ret px_bl)) bx_nil)
    (bx_cons (sx_if (tx_not (tx_val (px_call F_l_told_right hr (by decide) (ax_cons (px_op op_dAdd (px_op op_dAdd (px_str (s := [40]) (by rfl) (by rfl)) (px_op op_dMul (px_str (s := [91]) (by rfl) (by rfl)) px_int)) (px_str (s := [10]) (by rfl) (by rfl))) (ax_cons (px_op op_dAdd (px_op op_dMul (px_str (s := [91]) (by rfl) (by rfl)) px_int) (px_str (s := [10]) (by rfl) (by rfl))) ax_nil))))) (bx_one (sx_ret px_bl)) bx_nil)
    (bx_one (sx_ret (px_cmp op_dIs (px_callKW F_diffK hr (by decide) (px_str (s := [40, 49, 10]) (by rfl) (by rfl)) (px_str (s := [40, 50, 10]) (by rfl) (by rfl))) px_non (nomark _))))))))))
end
end
end Rp
set_option Elab.async false
set_option linter.all false
set_option maxRecDepth 100000
set_option maxHeartbeats 4000000
namespace Rp
noncomputable section
open PySem PySem.Spec PyProof.Rows L2 SX
/-- what the finite check has shown -/
structure Fin : Prop where
  ex : ∃ ls : List (List Nat), m_l_leads [] = some (.lst (ls.map D.str)) ∧ ls ≠ [] ∧ ls.length ≤ 1000 ∧ (∀ a ∈ ls, ∀ b ∈ ls, m_l_told_right [.str a, .str b] = some (.bl true))
  rest : b_law_rest (List.replicate 6 none) = some (.rt (.bl true))
def fTR (i j : Nat) : RT := tNotE (asB (eA m_l_told_right (aCons (eVar i) (aCons (eVar j) aNil))))
def fLT : RT := tOrE (fTR 3 4) (fTR 4 3)
def tL0 (K : PySem.W.Frag) : TS := tAsg (tCall (spBeg K) [] E0 (tCons (tVar 0) tNil)) (gName 1)
def tLp (c : Cw) : TE := tCall (spPick c.K) [] E0 (tCons (tVar 1) (tCons (tE c (eA m_l_leads aNil)) tNil))
def tLb (c : Cw) : TS := tSeq (tPar 3 4 (tCons (tLp c) (tCons (tLp c) tNil))) (tIfS (tT c fLT) (tRet (tC (.bl false))) tNext)
def tL1 (c : Cw) : TS := tFor (iRng1 (tCons (nI 6) tNil)) (gName 2) (tLb c)
def spLaw (K : PySem.W.Frag) : Sp := fun vs H Q _ => ∃ (a : Addr) (ns : List Int), vs = [.ref a] ∧ SqL K H a (ns.map V.int) ∧ ns.length ≤ 63 ∧ ∀ H', Q (.bl true) H'
theorem SRep.wk {c : Cw} {H : Hp} {σ : L2.St} (hl : σ.length = 6) : SRep c H σ (List.replicate 6 none) := srepN hl
section
variable {P : Program} {w : World} {K : PySem.W.Frag} {mg : Str → Option Value} {base : Heap} {C : Addr}
theorem body_law_read {c : Cw} (hc : c.K = K) (fin : Fin) {σ : L2.St} {H : Hp} {d : Addr} {t : Nat} {D0 : Ends} (hl : σ.length = 6) (h1 : σ[1]? = some (some (.ref d))) (hD : DrawAt K H d t) (ht : t < 500)
    (q : ∀ σ' H', σ'.length = 6 → σ'[1]? = some (some (.ref d)) → DrawAt K H' d (t + 2) → D0.nx σ' H') : tLb c D0 σ H := by
  subst hc
  obtain ⟨ls, e1, e2, e3, e4⟩ := fin.ex
  have pick : ∀ {H : Hp} {t : Nat} {Q : VK}, DrawAt c.K H d t → t < 1000 → (∀ v H' (z : List Nat), z ∈ ls → v = .str (S z) → okS z = true → DrawAt c.K H' d (t + 1) → Q v H') → tLp c σ H Q := by
    intro H t Q hD ht q
    refine ⟨_, h1, List.replicate 6 none, _, SRep.wk hl, e1, fun v H1 s1 r1 => ?_⟩
    obtain ⟨l, vs, z1, z2, z3, z4⟩ := r1
    subst z1
    have hlen : vs.length = ls.length := by rw [z3.length, List.length_map]
    refine ⟨d, l, t, vs, rfl, ht, hD.same s1, z2, fun zz => by rw [zz] at hlen; exact e2 (List.length_eq_zero_iff.mp hlen.symm), by omega, fun j v H2 hj s2 D2 => ?_⟩
    have hj2 : j < ls.length := by rw [← hlen]; exact (List.getElem?_eq_some_iff.mp hj).1
    obtain ⟨v2, y1, y2⟩ := z3.get (i := j) (d := .str ls[j]) (by rw [List.getElem?_map, List.getElem?_eq_getElem hj2]; rfl)
    rw [hj] at y1
    cases y1
    exact q v H2 ls[j] (List.getElem_mem hj2) y2.1 y2.2 D2
  refine pick hD (by omega) fun v1 H1 z1 m1 f1 o1 D1 => ?_
  refine pick D1 (by omega) fun v2 H2 z2 m2 f2 o2 D2 => ⟨v1, v2, rfl, ?_⟩
  subst f1 f2
  have l2 : ((σ.set 3 (some (.str (S z1)))).set 4 (some (.str (S z2)))).length = 6 := by simpa using hl
  have g3 : ((σ.set 3 (some (.str (S z1)))).set 4 (some (.str (S z2))))[3]? = some (some (.str (S z1))) := by rw [List.getElem?_set_ne (by decide), List.getElem?_set_self (by rw [hl]; decide)]
  have g4 : ((σ.set 3 (some (.str (S z1)))).set 4 (some (.str (S z2))))[4]? = some (some (.str (S z2))) := by rw [List.getElem?_set_self (by simp [hl])]
  have g1 : ((σ.set 3 (some (.str (S z1)))).set 4 (some (.str (S z2))))[1]? = some (some (.ref d)) := by rw [List.getElem?_set_ne (by decide), List.getElem?_set_ne (by decide)]; exact h1
  have a1 : fTR 3 4 [none, none, none, some (.str z1), some (.str z2), none] = some false := by
    show tNotE (asB (eA m_l_told_right (aCons (eVar 3) (aCons (eVar 4) aNil)))) _ = _
    have : eA m_l_told_right (aCons (eVar 3) (aCons (eVar 4) aNil)) [none, none, none, some (.str z1), some (.str z2), none] = some (.bl true) := e4 z1 m1 z2 m2
    unfold tNotE asB
    rw [this]
    rfl
  have a2 : fTR 4 3 [none, none, none, some (.str z1), some (.str z2), none] = some false := by
    show tNotE (asB (eA m_l_told_right (aCons (eVar 4) (aCons (eVar 3) aNil)))) _ = _
    have : eA m_l_told_right (aCons (eVar 4) (aCons (eVar 3) aNil)) [none, none, none, some (.str z1), some (.str z2), none] = some (.bl true) := e4 z2 m2 z1 m1
    unfold tNotE asB
    rw [this]
    rfl
  refine ⟨[none, none, none, some (.str z1), some (.str z2), none], false, ((srepN (c := c) (H := H2) (n := 6) l2).know (d := .str z1) 3 g3 ⟨rfl, o1⟩).know (d := .str z2) 4 g4 ⟨rfl, o2⟩, ?_, fun H3 s3 => ?_⟩
  · show tOrE (fTR 3 4) (fTR 4 3) _ = _
    unfold tOrE
    rw [a1]
    exact a2
  · exact q _ H3 l2 g1 (D2.same s3)
theorem F_law (T : Top P w K mg base C) (fin : Fin) {f : Addr} {fd : FuncData} (F : FnP K "law" "law" (top 90) f fd) : FnOk P w K mg base L2.CX0 102 f fd ["_law_script"] (spLaw K) := by
  have S := sc_law
  obtain ⟨fB, fdB, FB, hB, kB, bB⟩ := F_beg T
  obtain ⟨fP, fdP, FP, hP, kP, bP⟩ := F_pick T
  have F_TR := F_l_told_right T
  have F_leads := F_l_leads T
  refine F.ok S (fun vs H Q E h => ?_) (fun cdv A outer s H vs Q E hr h => ?_)
  · obtain ⟨a, ns, rfl, _⟩ := h
    rfl
  · obtain ⟨tr, pr, rr⟩ := bx_law_rest T f cdv A outer s H E hr
    refine ⟨tSeq (tL0 K) (tSeq (tL1 ⟨C, K, w⟩) tr), PSs.nox ?_, ?_⟩
    · refine pss_cons (ps_set (i := 1) S.nd rfl (Or.inl rfl) (pe_call (FB.mono (by decide)) hr rfl hB kB bB .nil pass0 (pa_cons (pv 0) pa_nil)) rfl) (pss_cons ?_ pr)
      refine ps_for PassesOwn.never rfl (pi_range1 rfl T.range (pa_cons pe_int pa_nil)) (pg_name (i := 2) S.nd rfl (Or.inl rfl)) (pss_cons ?_ (pss_one ?_))
      · exact ps_par (i := 3) (j := 4) rfl S.nd rfl rfl (by decide) rfl rfl (pa_cons (pe_call (FP.mono (by decide)) hr rfl hP kP bP .nil pass0 (pa_cons (pv 1) (pa_cons (PX.pe (C := C) (px_call0 F_leads hr (by decide))) pa_nil))) (pa_cons (pe_call (FP.mono (by decide)) hr rfl hP kP bP .nil pass0 (pa_cons (pv 1) (pa_cons (PX.pe (C := C) (px_call0 F_leads hr (by decide))) pa_nil))) pa_nil)) rfl rfl
      · exact ps_if (TX.pt (C := C) (WX.tx (wx_or (tx_not (tx_val (px_call F_TR hr (by decide) (ax_cons (px_var (i := 3)) (ax_cons (px_var (i := 4)) ax_nil))))) (wx_or1 (tx_not (tx_val (px_call F_TR hr (by decide) (ax_cons (px_var (i := 4)) (ax_cons (px_var (i := 3)) ax_nil))))))))) (pss_one (ps_ret pe_bl)) pss_nil
    · obtain ⟨a, ns, rfl, h1, h2, q⟩ := h
      refine ⟨_, rfl, a, ns, rfl, h1, h2, fun d H1 s1 hd D1 => ?_⟩
      refine ⟨6, rfl, by decide, by decide, ?_⟩
      refine for_it (walk_range (lo := 0) (n := (6 : Int).toNat)) (fun i σ' H' => σ'.length = 6 ∧ σ'[1]? = some (some (.ref d)) ∧ DrawAt K H' d (2 * i)) ⟨rfl, rfl, D1⟩ (fun i σ' H' _ _ => True.intro) ?_ ?_
      · rintro i x σ1 H2 H3 hi ⟨l1, g1, D2⟩ y
        obtain ⟨rfl, _⟩ := y
        have hi6 : i < 6 := hi
        exact body_law_read (c := ⟨C, K, w⟩) rfl fin (by simpa using l1) (by rw [List.getElem?_set_ne (by decide)]; exact g1) D2 (by omega) fun σ' H' l2 g2 D3 => ⟨l2, g2, by rw [show 2 * (i + 1) = 2 * i + 2 by omega]; exact D3⟩
      · rintro σ1 H2 ⟨l1, g1, D2⟩
        exact rr σ1 H2 (List.replicate 6 none) _ { nx := fun _ H' => Q .non H', rt := Q } (SRep.wk l1) fin.rest (fun v H' s' r' => by rw [show v = V.bl true from r']; exact q H')
end
end
end Rp
set_option Elab.async false
set_option linter.all false
set_option maxRecDepth 100000
set_option maxHeartbeats 0
namespace Rp
noncomputable section
open PySem PySem.Spec PyProof.Rows L2 SX
/-! ### data of the head -/
mutual
def rdB (K : PySem.W.Frag) : D → Value → Bool
  | .non, u => (match u with
    | .none => true
    | _ => false)
  | .bl b, u => (match u with
    | .bool c => b == c
    | _ => false)
  | .int i, u => (match u with
    | .int j _ => decide (i = j)
    | _ => false)
  | .str s, u => (match u with
    | .str x _ => decide (x = S s) && okS s
    | _ => false)
  | .tup ds, u => (match u with
    | .ref a => (match K.lookup a with
      | some ⟨.type c, _, .seq its _, _⟩ => decide (c = "tuple") && (decide (its.size ≤ sizeLine) && (rdBs K ds its.toList && ds.all dat1))
      | _ => false)
    | _ => false)
  | _, _ => false
def rdBs (K : PySem.W.Frag) : List D → List Value → Bool
  | [], us => (match us with
    | [] => true
    | _ => false)
  | d :: ds, us => (match us with
    | u :: us => rdB K d u && rdBs K ds us
    | [] => false)
end
mutual
theorem rdB_ok {K : PySem.W.Frag} : ∀ (d : D) {u : Value}, rdB K d u = true → ∃ v, RelV v u ∧ ∀ (c : Cw) (H : Hp), c.K = K → Rep c H d v
  | .non, u, h => by
    cases u with
    | none => exact ⟨.non, rfl, fun _ _ _ => rfl⟩
    | _ => cases h
  | .bl b, u, h => by
    cases u with
    | bool c =>
      have e : b = c := eq_of_beq h
      subst e
      exact ⟨.bl b, rfl, fun _ _ _ => rfl⟩
    | _ => cases h
  | .int i, u, h => by
    cases u with
    | int j t =>
      have e : i = j := of_decide_eq_true h
      subst e
      exact ⟨.int i, ⟨t, rfl⟩, fun _ _ _ => rfl⟩
    | _ => cases h
  | .str s, u, h => by
    cases u with
    | str x t =>
      obtain ⟨h1, h2⟩ := He.ba (show (decide (x = S s) && okS s) = true from h)
      have e : x = S s := of_decide_eq_true h1
      subst e
      exact ⟨.str (S s), ⟨t, rfl⟩, fun _ _ _ => ⟨rfl, h2⟩⟩
    | _ => cases h
  | .tup ds, u, h => by
    cases u with
    | ref a =>
      have h1 : (match K.lookup a with
        | some ⟨.type c, _, .seq its _, _⟩ => decide (c = "tuple") && (decide (its.size ≤ sizeLine) && (rdBs K ds its.toList && ds.all dat1))
        | _ => false) = true := h
      cases q : K.lookup a with
      | none => rw [q] at h1; cases h1
      | some o =>
        obtain ⟨oc, od, dt, osl⟩ := o
        rw [q] at h1
        cases oc with
        | type c =>
          cases dt with
          | seq its n =>
            obtain ⟨h2, h3⟩ := He.ba (show (decide (c = "tuple") && (decide (its.size ≤ sizeLine) && (rdBs K ds its.toList && ds.all dat1))) = true from h1)
            obtain ⟨h4, h5⟩ := He.ba h3
            obtain ⟨h6, h7⟩ := He.ba h5
            obtain ⟨vs, r, rr⟩ := rdBs_ok ds h6
            exact ⟨.ref a, rfl, fun c2 H e => ⟨a, vs, rfl, .inr (by rw [e]; exact ⟨_, its, n, q, congrArg Value.type (of_decide_eq_true h2), rfl, of_decide_eq_true h4, r⟩), rr c2 H e, h7⟩⟩
          | _ => cases h1
        | _ => cases dt <;> cases h1
    | _ => cases h
  | .tupx _, _, h => by cases h
  | .lst _, _, h => by cases h
  | .lstx _, _, h => by cases h
  | .st .., _, h => by cases h
  | .dic _, _, h => by cases h
theorem rdBs_ok {K : PySem.W.Frag} : ∀ (ds : List D) {us : List Value}, rdBs K ds us = true → ∃ vs, Vals vs us ∧ ∀ (c : Cw) (H : Hp), c.K = K → RepL c H ds vs
  | [], us, h => by
    cases us with
    | nil => exact ⟨[], .nil, fun _ _ _ => rfl⟩
    | cons _ _ => cases h
  | d :: ds, us, h => by
    cases us with
    | nil => cases h
    | cons u us =>
      obtain ⟨h1, h2⟩ := He.ba (show (rdB K d u && rdBs K ds us) = true from h)
      obtain ⟨v, r, rr⟩ := rdB_ok d h1
      obtain ⟨vs, r2, rr2⟩ := rdBs_ok ds h2
      exact ⟨v :: vs, .cons r r2, fun c H e => ⟨v, vs, rfl, rr c H e, rr2 c H e⟩⟩
end
def conG (K : PySem.W.Frag) (x : Str) (d : D) : Bool := match PySem.W.nsIn K mainGlobals x with
  | some (some u) => rdB K d u
  | _ => false
theorem conG_ok {K : PySem.W.Frag} {h : Heap} {mg : Str → Option Value} {C : Addr} {w : World} (X : K.In h) (G : h.Ns mainGlobals mg) {x : Str} {d : D} (e : conG K x d = true) : GlD ⟨C, K, w⟩ mg x d := by
  unfold conG at e
  split at e
  · rename_i u q
    obtain ⟨v, r, rr⟩ := rdB_ok d e
    exact ⟨u, v, PySem.W.mg_of X G q, r, fun H => rr _ H rfl⟩
  · cases e
/-- a table's values -/
def tabG (K : PySem.W.Frag) (x : Str) (kvs : List (List Nat × D)) : Bool := kvs.all fun p => match PySem.W.nsIn K (He.ga K x) (S p.1) with
  | some (some u) => rdB K p.2 u
  | _ => false
theorem lookD_mem : ∀ {kvs : List (List Nat × D)} {s : List Nat} {d : D}, lookD kvs s = some d → (s, d) ∈ kvs
  | [], _, _, h => by cases h
  | (k, d0) :: r, s, d, h => by
    have h' : cnd (beqL k s) (some d0) (lookD r s) = some d := h
    cases e : beqL k s with
    | true =>
      rw [e] at h'
      cases h'
      rw [beqL_eq] at e
      rw [← eq_of_beq e]
      exact List.mem_cons_self
    | false =>
      rw [e] at h'
      exact List.mem_cons_of_mem _ (lookD_mem h')
theorem tabG_ok {K : PySem.W.Frag} {mg : Str → Option Value} {C : Addr} {w : World} {x : Str} {kvs : List (List Nat × D)} (hm : mg x = some (.ref (He.ga K x))) (ht : ∃ es n, KDict K w (He.ga K x) es n) (e : tabG K x kvs = true) : KdD ⟨C, K, w⟩ mg x kvs := by
  obtain ⟨es, n, k1, k2, k3⟩ := ht
  refine ⟨He.ga K x, hm, fun s d hd => ?_⟩
  have h2 := List.all_eq_true.mp e _ (lookD_mem hd)
  split at h2
  · rename_i u q
    obtain ⟨v, r, rr⟩ := rdB_ok d h2
    exact ⟨v, ⟨es, n, u, k1, k2, q, r⟩, fun H => rr _ H rfl⟩
  · cases h2
/-! ### what is looked at -/
def dd_consists_of : He.DefD := ⟨("consists_of", none), "consists_of", "consists_of", defArgs (top 8), defBody (top 8), defScope (top 8), [], []⟩
def dd_is_text : He.DefD := ⟨("is_text", none), "is_text", "is_text", defArgs (top 9), defBody (top 9), defScope (top 9), [], []⟩
def dd_with_clauses : He.DefD := ⟨("with_clauses", none), "with_clauses", "with_clauses", defArgs (top 23), defBody (top 23), defScope (top 23), [], []⟩
def dd_after_line : He.DefD := ⟨("after_line", none), "after_line", "after_line", defArgs (top 24), defBody (top 24), defScope (top 24), [], []⟩
def dd_after_empty_line : He.DefD := ⟨("after_empty_line", none), "after_empty_line", "after_empty_line", defArgs (top 25), defBody (top 25), defScope (top 25), [], []⟩
def dd_line_begun : He.DefD := ⟨("line_begun", none), "line_begun", "line_begun", defArgs (top 26), defBody (top 26), defScope (top 26), [], []⟩
def dd_small_begun : He.DefD := ⟨("small_begun", none), "small_begun", "small_begun", defArgs (top 27), defBody (top 27), defScope (top 27), [], []⟩
def dd_header_begun : He.DefD := ⟨("header_begun", none), "header_begun", "header_begun", defArgs (top 28), defBody (top 28), defScope (top 28), [], []⟩
def dd_after_word : He.DefD := ⟨("after_word", none), "after_word", "after_word", defArgs (top 29), defBody (top 29), defScope (top 29), [], []⟩
def dd_may_assign : He.DefD := ⟨("may_assign", none), "may_assign", "may_assign", defArgs (top 30), defBody (top 30), defScope (top 30), [], []⟩
def dd_after_short : He.DefD := ⟨("after_short", none), "after_short", "after_short", defArgs (top 31), defBody (top 31), defScope (top 31), [], []⟩
def dd_after_long : He.DefD := ⟨("after_long", none), "after_long", "after_long", defArgs (top 32), defBody (top 32), defScope (top 32), [], []⟩
def dd_after_template : He.DefD := ⟨("after_template", none), "after_template", "after_template", defArgs (top 33), defBody (top 33), defScope (top 33), [], []⟩
def dd_after_operator : He.DefD := ⟨("after_operator", none), "after_operator", "after_operator", defArgs (top 34), defBody (top 34), defScope (top 34), [], []⟩
def dd_after_word_sign : He.DefD := ⟨("after_word_sign", none), "after_word_sign", "after_word_sign", defArgs (top 35), defBody (top 35), defScope (top 35), [], []⟩
def dd_after_number : He.DefD := ⟨("after_number", none), "after_number", "after_number", defArgs (top 36), defBody (top 36), defScope (top 36), [], []⟩
def dd_after_quote : He.DefD := ⟨("after_quote", none), "after_quote", "after_quote", defArgs (top 37), defBody (top 37), defScope (top 37), [], []⟩
def dd_after_token : He.DefD := ⟨("after_token", none), "after_token", "after_token", defArgs (top 38), defBody (top 38), defScope (top 38), [], []⟩
def dd_after_operand_sign : He.DefD := ⟨("after_operand_sign", none), "after_operand_sign", "after_operand_sign", defArgs (top 39), defBody (top 39), defScope (top 39), [], []⟩
def dd_after_comma : He.DefD := ⟨("after_comma", none), "after_comma", "after_comma", defArgs (top 40), defBody (top 40), defScope (top 40), [], []⟩
def dd_after_colon : He.DefD := ⟨("after_colon", none), "after_colon", "after_colon", defArgs (top 41), defBody (top 41), defScope (top 41), [], []⟩
def dd_after_done_sign : He.DefD := ⟨("after_done_sign", none), "after_done_sign", "after_done_sign", defArgs (top 42), defBody (top 42), defScope (top 42), [], []⟩
def dd_after_code_sign : He.DefD := ⟨("after_code_sign", none), "after_code_sign", "after_code_sign", defArgs (top 43), defBody (top 43), defScope (top 43), [], []⟩
def dd_after_start_sign : He.DefD := ⟨("after_start_sign", none), "after_start_sign", "after_start_sign", defArgs (top 44), defBody (top 44), defScope (top 44), [], []⟩
def dd_after_plain : He.DefD := ⟨("after_plain", none), "after_plain", "after_plain", defArgs (top 45), defBody (top 45), defScope (top 45), [], []⟩
def dd_next_state : He.DefD := ⟨("next_state", none), "next_state", "next_state", defArgs (top 46), defBody (top 46), defScope (top 46), [], []⟩
def dd_state_behind : He.DefD := ⟨("state_behind", none), "state_behind", "state_behind", defArgs (top 48), defBody (top 48), defScope (top 48), [], []⟩
def dd_state_of : He.DefD := ⟨("state_of", none), "state_of", "state_of", defArgs (top 49), defBody (top 49), defScope (top 49), [], []⟩
def dd_is_entry_state : He.DefD := ⟨("is_entry_state", none), "is_entry_state", "is_entry_state", defArgs (top 50), defBody (top 50), defScope (top 50), [], []⟩
def dd_run_on : He.DefD := ⟨("run_on", none), "run_on", "run_on", defArgs (top 53), defBody (top 53), defScope (top 53), [], []⟩
def dd_word_end : He.DefD := ⟨("word_end", none), "word_end", "word_end", defArgs (top 54), defBody (top 54), defScope (top 54), [], []⟩
def dd_token_end : He.DefD := ⟨("token_end", none), "token_end", "token_end", defArgs (top 55), defBody (top 55), defScope (top 55), [], []⟩
def dd_line_start : He.DefD := ⟨("line_start", none), "line_start", "line_start", defArgs (top 56), defBody (top 56), defScope (top 56), [], []⟩
def dd_phase_end : He.DefD := ⟨("phase_end", none), "phase_end", "phase_end", defArgs (top 57), defBody (top 57), defScope (top 57), [], []⟩
def dd_completion_of : He.DefD := ⟨("completion_of", none), "completion_of", "completion_of", defArgs (top 58), defBody (top 58), defScope (top 58), [], []⟩
def dd_lead_state : He.DefD := ⟨("lead_state", none), "lead_state", "lead_state", defArgs (top 63), defBody (top 63), defScope (top 63), [], []⟩
def dd_need_lead : He.DefD := ⟨("need_lead", none), "need_lead", "need_lead", defArgs (top 64), defBody (top 64), defScope (top 64), [], []⟩
def dd_are_alike : He.DefD := ⟨("are_alike", none), "are_alike", "are_alike", defArgs (top 65), defBody (top 65), defScope (top 65), [], []⟩
def dd_rows_for : He.DefD := ⟨("rows_for", none), "rows_for", "rows_for", defArgs (top 66), defBody (top 66), defScope (top 66), [], []⟩
def dd_pieces_for : He.DefD := ⟨("pieces_for", none), "pieces_for", "pieces_for", defArgs (top 67), defBody (top 67), defScope (top 67), [], []⟩
def dd_told_apart : He.DefD := ⟨("told_apart", none), "told_apart", "told_apart", defArgs (top 68), defBody (top 68), defScope (top 68), [], []⟩
def dd_nearest : He.DefD := ⟨("nearest", none), "nearest", "nearest", defArgs (top 69), defBody (top 69), defScope (top 69), [], []⟩
def dd_difference : He.DefD := ⟨("difference", none), "difference", "difference", defArgs (top 70), defBody (top 70), defScope (top 70), [], []⟩
def dd__law_begin : He.DefD := ⟨("_law_begin", none), "_law_begin", "_law_begin", defArgs (top 72), defBody (top 72), defScope (top 72), [], []⟩
def dd__law_mixed : He.DefD := ⟨("_law_mixed", none), "_law_mixed", "_law_mixed", defArgs (top 73), defBody (top 73), defScope (top 73), [], []⟩
def dd__law_next : He.DefD := ⟨("_law_next", none), "_law_next", "_law_next", defArgs (top 74), defBody (top 74), defScope (top 74), [], []⟩
def dd__law_pick : He.DefD := ⟨("_law_pick", none), "_law_pick", "_law_pick", defArgs (top 75), defBody (top 75), defScope (top 75), [], []⟩
def dd__law_leads : He.DefD := ⟨("_law_leads", none), "_law_leads", "_law_leads", defArgs (top 76), defBody (top 76), defScope (top 76), [], []⟩
def dd__law_word_end : He.DefD := ⟨("_law_word_end", none), "_law_word_end", "_law_word_end", defArgs (top 77), defBody (top 77), defScope (top 77), [], []⟩
def dd__law_string_end : He.DefD := ⟨("_law_string_end", none), "_law_string_end", "_law_string_end", defArgs (top 78), defBody (top 78), defScope (top 78), [], []⟩
def dd__law_template_end : He.DefD := ⟨("_law_template_end", none), "_law_template_end", "_law_template_end", defArgs (top 79), defBody (top 79), defScope (top 79), [], []⟩
def dd__law_token : He.DefD := ⟨("_law_token", none), "_law_token", "_law_token", defArgs (top 80), defBody (top 80), defScope (top 80), [], []⟩
def dd__law_lexed : He.DefD := ⟨("_law_lexed", none), "_law_lexed", "_law_lexed", defArgs (top 81), defBody (top 81), defScope (top 81), [], []⟩
def dd__law_items : He.DefD := ⟨("_law_items", none), "_law_items", "_law_items", defArgs (top 82), defBody (top 82), defScope (top 82), [], []⟩
def dd__law_primary : He.DefD := ⟨("_law_primary", none), "_law_primary", "_law_primary", defArgs (top 83), defBody (top 83), defScope (top 83), [], []⟩
def dd__law_expr : He.DefD := ⟨("_law_expr", none), "_law_expr", "_law_expr", defArgs (top 84), defBody (top 84), defScope (top 84), [], []⟩
def dd__law_simple : He.DefD := ⟨("_law_simple", none), "_law_simple", "_law_simple", defArgs (top 85), defBody (top 85), defScope (top 85), [], []⟩
def dd__law_clause : He.DefD := ⟨("_law_clause", none), "_law_clause", "_law_clause", defArgs (top 86), defBody (top 86), defScope (top 86), [], []⟩
def dd__law_statement : He.DefD := ⟨("_law_statement", none), "_law_statement", "_law_statement", defArgs (top 87), defBody (top 87), defScope (top 87), [], []⟩
def dd__law_is_entry : He.DefD := ⟨("_law_is_entry", none), "_law_is_entry", "_law_is_entry", defArgs (top 88), defBody (top 88), defScope (top 88), [], []⟩
def dd__law_told_right : He.DefD := ⟨("_law_told_right", none), "_law_told_right", "_law_told_right", defArgs (top 89), defBody (top 89), defScope (top 89), [], []⟩
def dd_law : He.DefD := ⟨("law", none), "law", "law", defArgs (top 90), defBody (top 90), defScope (top 90), [], []⟩
def de___init__ : He.DefD := ⟨("State", some "__init__"), "__init__", "State.__init__", defArgs (inClass (top 22) 0), defBody (inClass (top 22) 0), defScope (inClass (top 22) 0), [.adr (He.dflAt ("State", some "__init__") 0), .adr (He.dflAt ("State", some "__init__") 1), .adr (He.dflAt ("State", some "__init__") 2), .str "", .adr (He.dflAt ("State", some "__init__") 4)], []⟩
def de_parts : He.DefD := ⟨("State", some "parts"), "parts", "State.parts", defArgs (inClass (top 22) 1), defBody (inClass (top 22) 1), defScope (inClass (top 22) 1), [], []⟩
def de_in_phase : He.DefD := ⟨("State", some "in_phase"), "in_phase", "State.in_phase", defArgs (inClass (top 22) 2), defBody (inClass (top 22) 2), defScope (inClass (top 22) 2), [.adr (He.dflAt ("State", some "in_phase") 0)], []⟩
def de_with_token : He.DefD := ⟨("State", some "with_token"), "with_token", "State.with_token", defArgs (inClass (top 22) 3), defBody (inClass (top 22) 3), defScope (inClass (top 22) 3), [], []⟩
def de_opened : He.DefD := ⟨("State", some "opened"), "opened", "State.opened", defArgs (inClass (top 22) 4), defBody (inClass (top 22) 4), defScope (inClass (top 22) 4), [], []⟩
def de_reframed : He.DefD := ⟨("State", some "reframed"), "reframed", "State.reframed", defArgs (inClass (top 22) 5), defBody (inClass (top 22) 5), defScope (inClass (top 22) 5), [], []⟩
def de_closed : He.DefD := ⟨("State", some "closed"), "closed", "State.closed", defArgs (inClass (top 22) 6), defBody (inClass (top 22) 6), defScope (inClass (top 22) 6), [], []⟩
def de_innermost : He.DefD := ⟨("State", some "innermost"), "innermost", "State.innermost", defArgs (inClass (top 22) 7), defBody (inClass (top 22) 7), defScope (inClass (top 22) 7), [], []⟩
def de_is_prefix : He.DefD := ⟨("State", some "is_prefix"), "is_prefix", "State.is_prefix", defArgs (inClass (top 22) 8), defBody (inClass (top 22) 8), defScope (inClass (top 22) 8), [], []⟩
def hfn : List He.DefD := [dd_consists_of, dd_is_text, dd_with_clauses, dd_after_line, dd_after_empty_line, dd_line_begun, dd_small_begun, dd_header_begun, dd_after_word, dd_may_assign, dd_after_short, dd_after_long, dd_after_template, dd_after_operator, dd_after_word_sign, dd_after_number, dd_after_quote, dd_after_token, dd_after_operand_sign, dd_after_comma, dd_after_colon, dd_after_done_sign, dd_after_code_sign, dd_after_start_sign, dd_after_plain, dd_next_state, dd_state_behind, dd_state_of, dd_is_entry_state, dd_run_on, dd_word_end, dd_token_end, dd_line_start, dd_phase_end, dd_completion_of, dd_lead_state, dd_need_lead, dd_are_alike, dd_rows_for, dd_pieces_for, dd_told_apart, dd_nearest, dd_difference, dd__law_begin, dd__law_mixed, dd__law_next, dd__law_pick, dd__law_leads, dd__law_word_end, dd__law_string_end, dd__law_template_end, dd__law_token, dd__law_lexed, dd__law_items, dd__law_primary, dd__law_expr, dd__law_simple, dd__law_clause, dd__law_statement, dd__law_is_entry, dd__law_told_right, dd_law, de___init__, de_parts, de_in_phase, de_with_token, de_opened, de_reframed, de_closed, de_innermost, de_is_prefix]
def hfa : List He.Fa := [.cls "State", .glo "State", .mkr "State", .noat "State" "levels", .noat "State" "goal", .noat "State" "frames", .noat "State" "phase", .noat "State" "token", .meth "State" "parts", .meth "State" "in_phase", .meth "State" "with_token", .meth "State" "opened", .meth "State" "reframed", .meth "State" "closed", .meth "State" "innermost", .meth "State" "is_prefix", .free "len", .free "int", .free "str", .free "max", .free "any", .free "all", .free "isinstance", .free "enumerate", .free "sorted", .free "range", .glo "consists_of", .glo "is_text", .glo "with_clauses", .glo "after_line", .glo "after_empty_line", .glo "line_begun", .glo "small_begun", .glo "header_begun", .glo "after_word", .glo "may_assign", .glo "after_short", .glo "after_long", .glo "after_template", .glo "after_operator", .glo "after_word_sign", .glo "after_number", .glo "after_quote", .glo "after_token", .glo "after_operand_sign", .glo "after_comma", .glo "after_colon", .glo "after_done_sign", .glo "after_code_sign", .glo "after_start_sign", .glo "after_plain", .glo "next_state", .glo "state_behind", .glo "state_of", .glo "is_entry_state", .glo "run_on", .glo "word_end", .glo "token_end", .glo "line_start", .glo "phase_end", .glo "completion_of", .glo "lead_state", .glo "need_lead", .glo "are_alike", .glo "rows_for", .glo "pieces_for", .glo "told_apart", .glo "nearest", .glo "difference", .glo "_law_begin", .glo "_law_mixed", .glo "_law_next", .glo "_law_pick", .glo "_law_leads", .glo "_law_word_end", .glo "_law_string_end", .glo "_law_template_end", .glo "_law_token", .glo "_law_lexed", .glo "_law_items", .glo "_law_primary", .glo "_law_expr", .glo "_law_simple", .glo "_law_clause", .glo "_law_statement", .glo "_law_is_entry", .glo "_law_told_right", .glo "law", .glo "CLAUSES", .glo "CLOSERS"]
def hts : List He.Tab := [(fun K => He.ga K "CLAUSES", ["", "if", "try", "except"]), (fun K => He.ga K "CLOSERS", ["(", "c", "p", "[", "i", "{k", "{v", "f"])]
def hexL (K : PySem.W.Frag) : List Bool := [conG K "OTHERS" g_OTHERS, conG K "LETTERS" g_LETTERS, conG K "DIGITS_signs" g_DIGITS_signs, conG K "LINE_ENDS" g_LINE_ENDS, conG K "DONE" g_DONE, conG K "KEYWORDS" g_KEYWORDS, conG K "OPERANDS" g_OPERANDS, conG K "STARTS" g_STARTS, conG K "HEADERS" g_HEADERS, conG K "BINARY_WORDS" g_BINARY_WORDS, conG K "DIGITS_states" g_DIGITS_states, conG K "CHAINS" g_CHAINS, conG K "ANY_WORD" g_ANY_WORD, conG K "NAMES" g_NAMES, conG K "ROWS" g_ROWS, conG K "PIECES" g_PIECES, conG K "WORDS" g_WORDS, tabG K "CLAUSES" g_CLAUSES, tabG K "CLOSERS" g_CLOSERS, rdB K (.tup []) (.ref (He.dflAt ("State", some "__init__") 0 K)), rdB K (.tup [.str [115, 116, 97, 114, 116], .int 0, .tup []]) (.ref (He.dflAt ("State", some "__init__") 1 K)), rdB K (.tup []) (.ref (He.dflAt ("State", some "__init__") 2 K)), rdB K (.tup []) (.ref (He.dflAt ("State", some "__init__") 4 K)), rdB K (.tup []) (.ref (He.dflAt ("State", some "in_phase") 0 K))]
def hex_ (K : PySem.W.Frag) : Bool := (hexL K).all fun b => b
theorem hex_at {K : PySem.W.Frag} (h : hex_ K = true) (i : Nat) {b : Bool} (e : (hexL K)[i]? = some b) : b = true := List.all_eq_true.mp h b (List.mem_of_getElem? e)
theorem rd_ref {K : PySem.W.Frag} {a : Addr} {d : D} (h : rdB K d (.ref a) = true) (c : Cw) (H : Hp) (e : c.K = K) : Rep c H d (.ref a) := by
  obtain ⟨v, r, rr⟩ := rdB_ok d h
  have : v = .ref a := by
    cases v <;> first | (exact (show _ = _ from (Value.ref.inj r).symm ▸ rfl)) | (obtain ⟨t, z⟩ := r; cases z) | cases r
  rw [← this]
  exact rr c H e
/-- what is reached from the module's names, step by step -/
def stepR (g : Addr → Option Obj) (as : List Addr) : List Addr := as.flatMap fun a => match g a with
  | some o => He.refsD o
  | none => []
def levR (g : Addr → Option Obj) : Nat → List Addr → List Addr
  | 0, as => as
  | n + 1, as => as ++ levR g n (stepR g as)
def fragR (g : Addr → Option Obj) : PySem.W.Frag := He.frG g (levR g 6 [mainGlobals])
def obsR (g : Addr → Option Obj) : He.AlT × Bool := (He.obsT hfa hfn hts (fragR g), hex_ (fragR g))
def hookR : PySem.W.Hook where
  α := He.AlT × Bool
  obs := fun s => obsR s.heap.get?
  val := fun w => (He.valT hfn hts w, true)
  says := fun w h => ∃ K : PySem.W.Frag, K.In h ∧ He.SaysT hfa hfn hts w K ∧ hex_ K = true
  of := fun _ _ e => ⟨_, He.frG_in, congrArg Prod.fst e, congrArg Prod.snd e⟩
  keeps := fun _ _ _ ⟨K, hK, c⟩ k => ⟨K, PySem.W.Frag.In.keeps hK k, c⟩
theorem obsR_eq {g : Addr → Option Obj} {s : Shared} (h : ∀ a, g a = s.heap.get? a) : obsR g = hookR.obs s := by
  have e : g = s.heap.get? := funext h
  rw [e]
  rfl
section
variable {P : Program} {w : World} {K : PySem.W.Frag} {h : Heap} {mg : Str → Option Value} {base : Heap}
theorem mkTop (X : K.In h) (G : h.Ns mainGlobals mg) (ct : He.SaysT hfa hfn hts w K) (cm : hex_ K = true) : Top P w K mg base (He.ga K "State") := by
  have cd := ct.d
  have df : ∀ (i : Nat) {d : He.DefD}, hfn[i]? = some d → ∃ fd, FunD K d.name d.qual d.params d.body d.scope (d.dvs K) (d.kws K) (He.fAd K d.at_) fd := fun i d e => cd.def_ i e
  exact {
    cs := ⟨He.cls_ok (cd.fact 0 (f := .cls "State") rfl), fun k => (match k with | .lv => He.noat_ok (cd.fact 3 (f := .noat "State" "levels") rfl) | .gl => He.noat_ok (cd.fact 4 (f := .noat "State" "goal") rfl) | .fr => He.noat_ok (cd.fact 5 (f := .noat "State" "frames") rfl) | .ph => He.noat_ok (cd.fact 6 (f := .noat "State" "phase") rfl) | .tk => He.noat_ok (cd.fact 7 (f := .noat "State" "token") rfl))⟩
    len := He.free_ok X G (cd.fact 16 (f := .free "len") rfl)
    int := He.free_ok X G (cd.fact 17 (f := .free "int") rfl)
    str := He.free_ok X G (cd.fact 18 (f := .free "str") rfl)
    max := He.free_ok X G (cd.fact 19 (f := .free "max") rfl)
    any := He.free_ok X G (cd.fact 20 (f := .free "any") rfl)
    all := He.free_ok X G (cd.fact 21 (f := .free "all") rfl)
    isinstance := He.free_ok X G (cd.fact 22 (f := .free "isinstance") rfl)
    enumerate := He.free_ok X G (cd.fact 23 (f := .free "enumerate") rfl)
    sorted := He.free_ok X G (cd.fact 24 (f := .free "sorted") rfl)
    range := He.free_ok X G (cd.fact 25 (f := .free "range") rfl)
    g_OTHERS := conG_ok X G (hex_at cm 0 rfl)
    g_LETTERS := conG_ok X G (hex_at cm 1 rfl)
    g_DIGITS_signs := conG_ok X G (hex_at cm 2 rfl)
    g_LINE_ENDS := conG_ok X G (hex_at cm 3 rfl)
    g_DONE := conG_ok X G (hex_at cm 4 rfl)
    g_KEYWORDS := conG_ok X G (hex_at cm 5 rfl)
    g_OPERANDS := conG_ok X G (hex_at cm 6 rfl)
    g_STARTS := conG_ok X G (hex_at cm 7 rfl)
    g_HEADERS := conG_ok X G (hex_at cm 8 rfl)
    g_BINARY_WORDS := conG_ok X G (hex_at cm 9 rfl)
    g_CLAUSES := tabG_ok (He.glo_ok X G (cd.fact 88 (f := .glo "CLAUSES") rfl)) (ct.tab 0 rfl) (hex_at cm 17 rfl)
    g_DIGITS_states := conG_ok X G (hex_at cm 10 rfl)
    g_CLOSERS := tabG_ok (He.glo_ok X G (cd.fact 89 (f := .glo "CLOSERS") rfl)) (ct.tab 1 rfl) (hex_at cm 18 rfl)
    g_CHAINS := conG_ok X G (hex_at cm 11 rfl)
    g_ANY_WORD := conG_ok X G (hex_at cm 12 rfl)
    g_NAMES := conG_ok X G (hex_at cm 13 rfl)
    g_ROWS := conG_ok X G (hex_at cm 14 rfl)
    g_PIECES := conG_ok X G (hex_at cm 15 rfl)
    g_WORDS := conG_ok X G (hex_at cm 16 rfl)
    d_consists_of := (let ⟨fd, F⟩ := df 0 (d := dd_consists_of) rfl; ⟨⟨He.ga K "consists_of", fd, F, He.glo_ok X G (cd.fact 26 (f := .glo "consists_of") rfl)⟩⟩)
    d_is_text := (let ⟨fd, F⟩ := df 1 (d := dd_is_text) rfl; ⟨⟨He.ga K "is_text", fd, F, He.glo_ok X G (cd.fact 27 (f := .glo "is_text") rfl)⟩⟩)
    d_with_clauses := (let ⟨fd, F⟩ := df 2 (d := dd_with_clauses) rfl; ⟨⟨He.ga K "with_clauses", fd, F, He.glo_ok X G (cd.fact 28 (f := .glo "with_clauses") rfl)⟩⟩)
    d_after_line := (let ⟨fd, F⟩ := df 3 (d := dd_after_line) rfl; ⟨⟨He.ga K "after_line", fd, F, He.glo_ok X G (cd.fact 29 (f := .glo "after_line") rfl)⟩⟩)
    d_after_empty_line := (let ⟨fd, F⟩ := df 4 (d := dd_after_empty_line) rfl; ⟨⟨He.ga K "after_empty_line", fd, F, He.glo_ok X G (cd.fact 30 (f := .glo "after_empty_line") rfl)⟩⟩)
    d_line_begun := (let ⟨fd, F⟩ := df 5 (d := dd_line_begun) rfl; ⟨⟨He.ga K "line_begun", fd, F, He.glo_ok X G (cd.fact 31 (f := .glo "line_begun") rfl)⟩⟩)
    d_small_begun := (let ⟨fd, F⟩ := df 6 (d := dd_small_begun) rfl; ⟨⟨He.ga K "small_begun", fd, F, He.glo_ok X G (cd.fact 32 (f := .glo "small_begun") rfl)⟩⟩)
    d_header_begun := (let ⟨fd, F⟩ := df 7 (d := dd_header_begun) rfl; ⟨⟨He.ga K "header_begun", fd, F, He.glo_ok X G (cd.fact 33 (f := .glo "header_begun") rfl)⟩⟩)
    d_after_word := (let ⟨fd, F⟩ := df 8 (d := dd_after_word) rfl; ⟨⟨He.ga K "after_word", fd, F, He.glo_ok X G (cd.fact 34 (f := .glo "after_word") rfl)⟩⟩)
    d_may_assign := (let ⟨fd, F⟩ := df 9 (d := dd_may_assign) rfl; ⟨⟨He.ga K "may_assign", fd, F, He.glo_ok X G (cd.fact 35 (f := .glo "may_assign") rfl)⟩⟩)
    d_after_short := (let ⟨fd, F⟩ := df 10 (d := dd_after_short) rfl; ⟨⟨He.ga K "after_short", fd, F, He.glo_ok X G (cd.fact 36 (f := .glo "after_short") rfl)⟩⟩)
    d_after_long := (let ⟨fd, F⟩ := df 11 (d := dd_after_long) rfl; ⟨⟨He.ga K "after_long", fd, F, He.glo_ok X G (cd.fact 37 (f := .glo "after_long") rfl)⟩⟩)
    d_after_template := (let ⟨fd, F⟩ := df 12 (d := dd_after_template) rfl; ⟨⟨He.ga K "after_template", fd, F, He.glo_ok X G (cd.fact 38 (f := .glo "after_template") rfl)⟩⟩)
    d_after_operator := (let ⟨fd, F⟩ := df 13 (d := dd_after_operator) rfl; ⟨⟨He.ga K "after_operator", fd, F, He.glo_ok X G (cd.fact 39 (f := .glo "after_operator") rfl)⟩⟩)
    d_after_word_sign := (let ⟨fd, F⟩ := df 14 (d := dd_after_word_sign) rfl; ⟨⟨He.ga K "after_word_sign", fd, F, He.glo_ok X G (cd.fact 40 (f := .glo "after_word_sign") rfl)⟩⟩)
    d_after_number := (let ⟨fd, F⟩ := df 15 (d := dd_after_number) rfl; ⟨⟨He.ga K "after_number", fd, F, He.glo_ok X G (cd.fact 41 (f := .glo "after_number") rfl)⟩⟩)
    d_after_quote := (let ⟨fd, F⟩ := df 16 (d := dd_after_quote) rfl; ⟨⟨He.ga K "after_quote", fd, F, He.glo_ok X G (cd.fact 42 (f := .glo "after_quote") rfl)⟩⟩)
    d_after_token := (let ⟨fd, F⟩ := df 17 (d := dd_after_token) rfl; ⟨⟨He.ga K "after_token", fd, F, He.glo_ok X G (cd.fact 43 (f := .glo "after_token") rfl)⟩⟩)
    d_after_operand_sign := (let ⟨fd, F⟩ := df 18 (d := dd_after_operand_sign) rfl; ⟨⟨He.ga K "after_operand_sign", fd, F, He.glo_ok X G (cd.fact 44 (f := .glo "after_operand_sign") rfl)⟩⟩)
    d_after_comma := (let ⟨fd, F⟩ := df 19 (d := dd_after_comma) rfl; ⟨⟨He.ga K "after_comma", fd, F, He.glo_ok X G (cd.fact 45 (f := .glo "after_comma") rfl)⟩⟩)
    d_after_colon := (let ⟨fd, F⟩ := df 20 (d := dd_after_colon) rfl; ⟨⟨He.ga K "after_colon", fd, F, He.glo_ok X G (cd.fact 46 (f := .glo "after_colon") rfl)⟩⟩)
    d_after_done_sign := (let ⟨fd, F⟩ := df 21 (d := dd_after_done_sign) rfl; ⟨⟨He.ga K "after_done_sign", fd, F, He.glo_ok X G (cd.fact 47 (f := .glo "after_done_sign") rfl)⟩⟩)
    d_after_code_sign := (let ⟨fd, F⟩ := df 22 (d := dd_after_code_sign) rfl; ⟨⟨He.ga K "after_code_sign", fd, F, He.glo_ok X G (cd.fact 48 (f := .glo "after_code_sign") rfl)⟩⟩)
    d_after_start_sign := (let ⟨fd, F⟩ := df 23 (d := dd_after_start_sign) rfl; ⟨⟨He.ga K "after_start_sign", fd, F, He.glo_ok X G (cd.fact 49 (f := .glo "after_start_sign") rfl)⟩⟩)
    d_after_plain := (let ⟨fd, F⟩ := df 24 (d := dd_after_plain) rfl; ⟨⟨He.ga K "after_plain", fd, F, He.glo_ok X G (cd.fact 50 (f := .glo "after_plain") rfl)⟩⟩)
    d_next_state := (let ⟨fd, F⟩ := df 25 (d := dd_next_state) rfl; ⟨⟨He.ga K "next_state", fd, F, He.glo_ok X G (cd.fact 51 (f := .glo "next_state") rfl)⟩⟩)
    d_state_behind := (let ⟨fd, F⟩ := df 26 (d := dd_state_behind) rfl; ⟨⟨He.ga K "state_behind", fd, F, He.glo_ok X G (cd.fact 52 (f := .glo "state_behind") rfl)⟩⟩)
    d_state_of := (let ⟨fd, F⟩ := df 27 (d := dd_state_of) rfl; ⟨⟨He.ga K "state_of", fd, F, He.glo_ok X G (cd.fact 53 (f := .glo "state_of") rfl)⟩⟩)
    d_is_entry_state := (let ⟨fd, F⟩ := df 28 (d := dd_is_entry_state) rfl; ⟨⟨He.ga K "is_entry_state", fd, F, He.glo_ok X G (cd.fact 54 (f := .glo "is_entry_state") rfl)⟩⟩)
    d_run_on := (let ⟨fd, F⟩ := df 29 (d := dd_run_on) rfl; ⟨⟨He.ga K "run_on", fd, F, He.glo_ok X G (cd.fact 55 (f := .glo "run_on") rfl)⟩⟩)
    d_word_end := (let ⟨fd, F⟩ := df 30 (d := dd_word_end) rfl; ⟨⟨He.ga K "word_end", fd, F, He.glo_ok X G (cd.fact 56 (f := .glo "word_end") rfl)⟩⟩)
    d_token_end := (let ⟨fd, F⟩ := df 31 (d := dd_token_end) rfl; ⟨⟨He.ga K "token_end", fd, F, He.glo_ok X G (cd.fact 57 (f := .glo "token_end") rfl)⟩⟩)
    d_line_start := (let ⟨fd, F⟩ := df 32 (d := dd_line_start) rfl; ⟨⟨He.ga K "line_start", fd, F, He.glo_ok X G (cd.fact 58 (f := .glo "line_start") rfl)⟩⟩)
    d_phase_end := (let ⟨fd, F⟩ := df 33 (d := dd_phase_end) rfl; ⟨⟨He.ga K "phase_end", fd, F, He.glo_ok X G (cd.fact 59 (f := .glo "phase_end") rfl)⟩⟩)
    d_completion_of := (let ⟨fd, F⟩ := df 34 (d := dd_completion_of) rfl; ⟨⟨He.ga K "completion_of", fd, F, He.glo_ok X G (cd.fact 60 (f := .glo "completion_of") rfl)⟩⟩)
    d_lead_state := (let ⟨fd, F⟩ := df 35 (d := dd_lead_state) rfl; ⟨⟨He.ga K "lead_state", fd, F, He.glo_ok X G (cd.fact 61 (f := .glo "lead_state") rfl)⟩⟩)
    d_need_lead := (let ⟨fd, F⟩ := df 36 (d := dd_need_lead) rfl; ⟨⟨He.ga K "need_lead", fd, F, He.glo_ok X G (cd.fact 62 (f := .glo "need_lead") rfl)⟩⟩)
    d_are_alike := (let ⟨fd, F⟩ := df 37 (d := dd_are_alike) rfl; ⟨⟨He.ga K "are_alike", fd, F, He.glo_ok X G (cd.fact 63 (f := .glo "are_alike") rfl)⟩⟩)
    d_rows_for := (let ⟨fd, F⟩ := df 38 (d := dd_rows_for) rfl; ⟨⟨He.ga K "rows_for", fd, F, He.glo_ok X G (cd.fact 64 (f := .glo "rows_for") rfl)⟩⟩)
    d_pieces_for := (let ⟨fd, F⟩ := df 39 (d := dd_pieces_for) rfl; ⟨⟨He.ga K "pieces_for", fd, F, He.glo_ok X G (cd.fact 65 (f := .glo "pieces_for") rfl)⟩⟩)
    d_told_apart := (let ⟨fd, F⟩ := df 40 (d := dd_told_apart) rfl; ⟨⟨He.ga K "told_apart", fd, F, He.glo_ok X G (cd.fact 66 (f := .glo "told_apart") rfl)⟩⟩)
    d_nearest := (let ⟨fd, F⟩ := df 41 (d := dd_nearest) rfl; ⟨⟨He.ga K "nearest", fd, F, He.glo_ok X G (cd.fact 67 (f := .glo "nearest") rfl)⟩⟩)
    d_difference := (let ⟨fd, F⟩ := df 42 (d := dd_difference) rfl; ⟨⟨He.ga K "difference", fd, F, He.glo_ok X G (cd.fact 68 (f := .glo "difference") rfl)⟩⟩)
    d__law_begin := (let ⟨fd, F⟩ := df 43 (d := dd__law_begin) rfl; ⟨⟨He.ga K "_law_begin", fd, F, He.glo_ok X G (cd.fact 69 (f := .glo "_law_begin") rfl)⟩⟩)
    d__law_mixed := (let ⟨fd, F⟩ := df 44 (d := dd__law_mixed) rfl; ⟨⟨He.ga K "_law_mixed", fd, F, He.glo_ok X G (cd.fact 70 (f := .glo "_law_mixed") rfl)⟩⟩)
    d__law_next := (let ⟨fd, F⟩ := df 45 (d := dd__law_next) rfl; ⟨⟨He.ga K "_law_next", fd, F, He.glo_ok X G (cd.fact 71 (f := .glo "_law_next") rfl)⟩⟩)
    d__law_pick := (let ⟨fd, F⟩ := df 46 (d := dd__law_pick) rfl; ⟨⟨He.ga K "_law_pick", fd, F, He.glo_ok X G (cd.fact 72 (f := .glo "_law_pick") rfl)⟩⟩)
    d__law_leads := (let ⟨fd, F⟩ := df 47 (d := dd__law_leads) rfl; ⟨⟨He.ga K "_law_leads", fd, F, He.glo_ok X G (cd.fact 73 (f := .glo "_law_leads") rfl)⟩⟩)
    d__law_word_end := (let ⟨fd, F⟩ := df 48 (d := dd__law_word_end) rfl; ⟨⟨He.ga K "_law_word_end", fd, F, He.glo_ok X G (cd.fact 74 (f := .glo "_law_word_end") rfl)⟩⟩)
    d__law_string_end := (let ⟨fd, F⟩ := df 49 (d := dd__law_string_end) rfl; ⟨⟨He.ga K "_law_string_end", fd, F, He.glo_ok X G (cd.fact 75 (f := .glo "_law_string_end") rfl)⟩⟩)
    d__law_template_end := (let ⟨fd, F⟩ := df 50 (d := dd__law_template_end) rfl; ⟨⟨He.ga K "_law_template_end", fd, F, He.glo_ok X G (cd.fact 76 (f := .glo "_law_template_end") rfl)⟩⟩)
    d__law_token := (let ⟨fd, F⟩ := df 51 (d := dd__law_token) rfl; ⟨⟨He.ga K "_law_token", fd, F, He.glo_ok X G (cd.fact 77 (f := .glo "_law_token") rfl)⟩⟩)
    d__law_lexed := (let ⟨fd, F⟩ := df 52 (d := dd__law_lexed) rfl; ⟨⟨He.ga K "_law_lexed", fd, F, He.glo_ok X G (cd.fact 78 (f := .glo "_law_lexed") rfl)⟩⟩)
    d__law_items := (let ⟨fd, F⟩ := df 53 (d := dd__law_items) rfl; ⟨⟨He.ga K "_law_items", fd, F, He.glo_ok X G (cd.fact 79 (f := .glo "_law_items") rfl)⟩⟩)
    d__law_primary := (let ⟨fd, F⟩ := df 54 (d := dd__law_primary) rfl; ⟨⟨He.ga K "_law_primary", fd, F, He.glo_ok X G (cd.fact 80 (f := .glo "_law_primary") rfl)⟩⟩)
    d__law_expr := (let ⟨fd, F⟩ := df 55 (d := dd__law_expr) rfl; ⟨⟨He.ga K "_law_expr", fd, F, He.glo_ok X G (cd.fact 81 (f := .glo "_law_expr") rfl)⟩⟩)
    d__law_simple := (let ⟨fd, F⟩ := df 56 (d := dd__law_simple) rfl; ⟨⟨He.ga K "_law_simple", fd, F, He.glo_ok X G (cd.fact 82 (f := .glo "_law_simple") rfl)⟩⟩)
    d__law_clause := (let ⟨fd, F⟩ := df 57 (d := dd__law_clause) rfl; ⟨⟨He.ga K "_law_clause", fd, F, He.glo_ok X G (cd.fact 83 (f := .glo "_law_clause") rfl)⟩⟩)
    d__law_statement := (let ⟨fd, F⟩ := df 58 (d := dd__law_statement) rfl; ⟨⟨He.ga K "_law_statement", fd, F, He.glo_ok X G (cd.fact 84 (f := .glo "_law_statement") rfl)⟩⟩)
    d__law_is_entry := (let ⟨fd, F⟩ := df 59 (d := dd__law_is_entry) rfl; ⟨⟨He.ga K "_law_is_entry", fd, F, He.glo_ok X G (cd.fact 85 (f := .glo "_law_is_entry") rfl)⟩⟩)
    d__law_told_right := (let ⟨fd, F⟩ := df 60 (d := dd__law_told_right) rfl; ⟨⟨He.ga K "_law_told_right", fd, F, He.glo_ok X G (cd.fact 86 (f := .glo "_law_told_right") rfl)⟩⟩)
    d_law := (let ⟨fd, F⟩ := df 61 (d := dd_law) rfl; ⟨⟨He.ga K "law", fd, F, He.glo_ok X G (cd.fact 87 (f := .glo "law") rfl)⟩⟩)
    e___init__ := (let ⟨fd, F⟩ := df 62 (d := de___init__) rfl; ⟨_, fd, _, F, He.mkr_ok (cd.fact 2 (f := .mkr "State") rfl), fun H => ⟨_, _, rfl, rd_ref (hex_at cm 19 rfl) _ H rfl, _, _, rfl, rd_ref (hex_at cm 20 rfl) _ H rfl, _, _, rfl, rd_ref (hex_at cm 21 rfl) _ H rfl, _, _, rfl, ⟨rfl, rfl⟩, _, _, rfl, rd_ref (hex_at cm 22 rfl) _ H rfl, rfl⟩⟩)
    e_parts := (let ⟨fd, F⟩ := df 63 (d := de_parts) rfl; ⟨⟨_, fd, F, He.meth_ok (cd.fact 8 (f := .meth "State" "parts") rfl)⟩⟩)
    e_in_phase := (let ⟨fd, F⟩ := df 64 (d := de_in_phase) rfl; ⟨_, ⟨⟨_, fd, F, He.meth_ok (cd.fact 9 (f := .meth "State" "in_phase") rfl)⟩⟩, fun H => rd_ref (hex_at cm 23 rfl) _ H rfl⟩)
    e_with_token := (let ⟨fd, F⟩ := df 65 (d := de_with_token) rfl; ⟨⟨_, fd, F, He.meth_ok (cd.fact 10 (f := .meth "State" "with_token") rfl)⟩⟩)
    e_opened := (let ⟨fd, F⟩ := df 66 (d := de_opened) rfl; ⟨⟨_, fd, F, He.meth_ok (cd.fact 11 (f := .meth "State" "opened") rfl)⟩⟩)
    e_reframed := (let ⟨fd, F⟩ := df 67 (d := de_reframed) rfl; ⟨⟨_, fd, F, He.meth_ok (cd.fact 12 (f := .meth "State" "reframed") rfl)⟩⟩)
    e_closed := (let ⟨fd, F⟩ := df 68 (d := de_closed) rfl; ⟨⟨_, fd, F, He.meth_ok (cd.fact 13 (f := .meth "State" "closed") rfl)⟩⟩)
    e_innermost := (let ⟨fd, F⟩ := df 69 (d := de_innermost) rfl; ⟨⟨_, fd, F, He.meth_ok (cd.fact 14 (f := .meth "State" "innermost") rfl)⟩⟩)
    e_is_prefix := (let ⟨fd, F⟩ := df 70 (d := de_is_prefix) rfl; ⟨⟨_, fd, F, He.meth_ok (cd.fact 15 (f := .meth "State" "is_prefix") rfl)⟩⟩)
    st := He.glo_ok X G (cd.fact 1 (f := .glo "State") rfl) }
end
end
end Rp
set_option Elab.async false
set_option linter.all false
set_option maxRecDepth 100000
set_option maxHeartbeats 4000000
namespace Rp
noncomputable section
open PySem PySem.Spec PyProof.Rows L2 SX
abbrev Tb := List (List Nat × Bool)
def lookT (l : Tb) (t : List Nat) : Option Bool := @List.rec (List Nat × Bool) (fun _ => Option Bool) none (fun p _ ih => cnd (beqL p.1 t) (some p.2) ih) l
def chk (a : List Nat) (ta : Tb) (b : List Nat) (tb : Tb) : Bool := match m_difference [.str a, .str b] with
  | some (.str t) => (match m_are_alike [.str a, .str b] with
    | some (.bl false) => (match lookT ta t with
      | some x => (match lookT tb t with
        | some y => cnd (Nat.ble (Nat.add a.length t.length) 4096) (cnd (Nat.ble (Nat.add b.length t.length) 4096) (xor x y) false) false
        | none => false)
      | none => false)
    | _ => false)
  | some .non => (match m_are_alike [.str a, .str b] with
    | some (.bl true) => true
    | _ => false)
  | _ => false
/-- the table is right -/
def TbOk (a : List Nat) (l : Tb) : Prop := ∀ p ∈ l, m_l_is_entry [.str (a ++ p.1)] = some (.bl p.2)
theorem lookT_mem : ∀ {l : Tb} {t : List Nat} {x : Bool}, lookT l t = some x → (t, x) ∈ l
  | [], _, _, h => by cases h
  | p :: r, t, x, h => by
    have h' : cnd (beqL p.1 t) (some p.2) (lookT r t) = some x := h
    cases e : beqL p.1 t with
    | true =>
      rw [e] at h'
      cases h'
      rw [beqL_eq] at e
      rw [← eq_of_beq e]
      exact List.mem_cons_self
    | false =>
      rw [e] at h'
      exact List.mem_cons_of_mem _ (lookT_mem h')
theorem o2_of {F : D → D → Option D} {f g : RE} {ρ : Rho} {x y : D} (h1 : f ρ = some x) (h2 : g ρ = some y) : o2 F f g ρ = F x y := by
  unfold o2
  rw [h1, h2]
theorem told_str {a b t : List Nat} {x y : Bool} (hd : m_difference [.str a, .str b] = some (.str t)) (ha : m_are_alike [.str a, .str b] = some (.bl false)) (h1 : Nat.ble (a.length + t.length) 4096 = true) (h2 : Nat.ble (b.length + t.length) 4096 = true)
    (hx : m_l_is_entry [.str (a ++ t)] = some (.bl x)) (hy : m_l_is_entry [.str (b ++ t)] = some (.bl y)) (hne : xor x y = true) : m_l_told_right [.str a, .str b] = some (.bl true) := by
  have s1 : sSet 2 (eA m_difference (aCons (eVar 0) (aCons (eVar 1) aNil))) [some (.str a), some (.str b), none] = some (.nx [some (.str a), some (.str b), some (.str t)]) := by
    unfold sSet
    rw [show eA m_difference (aCons (eVar 0) (aCons (eVar 1) aNil)) [some (.str a), some (.str b), none] = some (.str t) from hd]
    rfl
  have s2 : sIf (asB (eA m_are_alike (aCons (eVar 0) (aCons (eVar 1) aNil)))) (sRet (o2 dIs (eVar 2) (eC .non))) sNx [some (.str a), some (.str b), some (.str t)] = some (.nx [some (.str a), some (.str b), some (.str t)]) := by
    unfold sIf asB
    rw [show eA m_are_alike (aCons (eVar 0) (aCons (eVar 1) aNil)) [some (.str a), some (.str b), some (.str t)] = some (.bl false) from ha]
    rfl
  have d1 : dAdd (.str a) (.str t) = some (.str (a ++ t)) := by
    show cnd (Nat.ble (a.length + t.length) 4096) _ _ = _
    rw [h1]
    rfl
  have d2 : dAdd (.str b) (.str t) = some (.str (b ++ t)) := by
    show cnd (Nat.ble (b.length + t.length) 4096) _ _ = _
    rw [h2]
    rfl
  have e1 : eA m_l_is_entry (aCons (o2 dAdd (eVar 0) (eVar 2)) aNil) [some (.str a), some (.str b), some (.str t)] = some (.bl x) := by
    unfold eA aCons
    rw [show o2 dAdd (eVar 0) (eVar 2) [some (.str a), some (.str b), some (.str t)] = some (.str (a ++ t)) from d1]
    exact hx
  have e2 : eA m_l_is_entry (aCons (o2 dAdd (eVar 1) (eVar 2)) aNil) [some (.str a), some (.str b), some (.str t)] = some (.bl y) := by
    unfold eA aCons
    rw [show o2 dAdd (eVar 1) (eVar 2) [some (.str a), some (.str b), some (.str t)] = some (.str (b ++ t)) from d2]
    exact hy
  have s3 : sRet (andE (Rp.e1 is_str (eVar 2)) (o2 dNe (eA m_l_is_entry (aCons (o2 dAdd (eVar 0) (eVar 2)) aNil)) (eA m_l_is_entry (aCons (o2 dAdd (eVar 1) (eVar 2)) aNil)))) [some (.str a), some (.str b), some (.str t)] = some (.rt (.bl true)) := by
    have : o2 dNe (eA m_l_is_entry (aCons (o2 dAdd (eVar 0) (eVar 2)) aNil)) (eA m_l_is_entry (aCons (o2 dAdd (eVar 1) (eVar 2)) aNil)) [some (.str a), some (.str b), some (.str t)] = some (.bl true) := by
      rw [o2_of e1 e2]
      cases x <;> cases y <;> first | rfl | cases hne
    show (match andE (Rp.e1 is_str (eVar 2)) (o2 dNe (eA m_l_is_entry (aCons (o2 dAdd (eVar 0) (eVar 2)) aNil)) (eA m_l_is_entry (aCons (o2 dAdd (eVar 1) (eVar 2)) aNil))) [some (.str a), some (.str b), some (.str t)] with
      | some d => some (R.rt d)
      | none => none) = _
    rw [show andE (Rp.e1 is_str (eVar 2)) (o2 dNe (eA m_l_is_entry (aCons (o2 dAdd (eVar 0) (eVar 2)) aNil)) (eA m_l_is_entry (aCons (o2 dAdd (eVar 1) (eVar 2)) aNil))) [some (.str a), some (.str b), some (.str t)] = some (.bl true) from this]
  have s0 : b_l_told_right [some (.str a), some (.str b), none] = some (.rt (.bl true)) := by
    unfold b_l_told_right
    unfold sSeq
    rw [s1]
    dsimp only
    rw [s2]
    exact s3
  show runF 2 1 b_l_told_right [.str a, .str b] = _
  unfold runF
  rw [show b_l_told_right (padR [.str a, .str b] 1) = some (.rt (.bl true)) from s0]
  rfl
theorem told_non {a b : List Nat} (hd : m_difference [.str a, .str b] = some .non) (ha : m_are_alike [.str a, .str b] = some (.bl true)) : m_l_told_right [.str a, .str b] = some (.bl true) := by
  have s1 : sSet 2 (eA m_difference (aCons (eVar 0) (aCons (eVar 1) aNil))) [some (.str a), some (.str b), none] = some (.nx [some (.str a), some (.str b), some .non]) := by
    unfold sSet
    rw [show eA m_difference (aCons (eVar 0) (aCons (eVar 1) aNil)) [some (.str a), some (.str b), none] = some .non from hd]
    rfl
  have s2 : sIf (asB (eA m_are_alike (aCons (eVar 0) (aCons (eVar 1) aNil)))) (sRet (o2 dIs (eVar 2) (eC .non))) sNx [some (.str a), some (.str b), some .non] = some (.rt (.bl true)) := by
    unfold sIf asB
    rw [show eA m_are_alike (aCons (eVar 0) (aCons (eVar 1) aNil)) [some (.str a), some (.str b), some .non] = some (.bl true) from ha]
    rfl
  have s0 : b_l_told_right [some (.str a), some (.str b), none] = some (.rt (.bl true)) := by
    unfold b_l_told_right
    unfold sSeq
    rw [s1]
    dsimp only
    rw [s2]
  show runF 2 1 b_l_told_right [.str a, .str b] = _
  unfold runF
  rw [show b_l_told_right (padR [.str a, .str b] 1) = some (.rt (.bl true)) from s0]
  rfl
theorem chk_ok {a b : List Nat} {ta tb : Tb} (ha : TbOk a ta) (hb : TbOk b tb) (h : chk a ta b tb = true) : m_l_told_right [.str a, .str b] = some (.bl true) := by
  unfold chk at h
  split at h
  · rename_i t e1
    split at h
    · rename_i e2
      split at h
      · rename_i x e3
        split at h
        · rename_i y e4
          obtain ⟨h1, h⟩ := cnd_and h
          obtain ⟨h2, h⟩ := cnd_and h
          exact told_str e1 e2 h1 h2 (ha _ (lookT_mem e3)) (hb _ (lookT_mem e4)) h
        · cases h
      · cases h
    · cases h
  · rename_i e1
    split at h
    · rename_i e2
      exact told_non e1 e2
    · cases h
  · cases h
def okE (a : List Nat) (p : List Nat × Bool) : Bool := match m_l_is_entry [.str (a ++ p.1)] with
  | some (.bl b) => cnd b p.2 (cnd p.2 false true)
  | _ => false
theorem okE_ok {a : List Nat} {p : List Nat × Bool} (h : okE a p = true) : m_l_is_entry [.str (a ++ p.1)] = some (.bl p.2) := by
  unfold okE at h
  split at h
  · rename_i b e
    rw [e]
    cases b <;> cases hp : p.2 <;> rw [hp] at h <;> first | rfl | cases h
  · cases h
def allT {α : Type} (p : α → Bool) (l : List α) : Bool := @List.rec α (fun _ => Bool) true (fun x _ ih => @Bool.rec (fun _ => Bool) false ih (p x)) l
theorem allT_mem {α : Type} {p : α → Bool} : ∀ {l : List α}, allT p l = true → ∀ x ∈ l, p x = true
  | [], _, _, h => by cases h
  | y :: r, h, x, hx => by
    have h' : cnd (p y) (allT p r) false = true := h
    obtain ⟨h1, h2⟩ := cnd_and h'
    rcases List.mem_cons.mp hx with z | z
    · rw [z]; exact h1
    · exact allT_mem h2 x z
theorem allT_of {α : Type} {p : α → Bool} : ∀ {l : List α}, (∀ x ∈ l, p x = true) → allT p l = true
  | [], _ => rfl
  | y :: r, h => by
    show cnd (p y) (allT p r) false = true
    rw [h y List.mem_cons_self, allT_of fun x hx => h x (List.mem_cons_of_mem _ hx)]
    rfl
abbrev Ld := List Nat × Tb
def okTab (x : Ld) : Bool := allT (okE x.1) x.2
def okRow (all : List Ld) (x : Ld) : Bool := allT (fun y => chk x.1 x.2 y.1 y.2) all
theorem all_ok {all : List Ld} (h1 : ∀ x ∈ all, okTab x = true) (h2 : ∀ x ∈ all, okRow all x = true) : ∀ x ∈ all, ∀ y ∈ all, m_l_told_right [.str x.1, .str y.1] = some (.bl true) := fun x hx y hy =>
  chk_ok (fun p hp => okE_ok (allT_mem (h1 x hx) p hp)) (fun p hp => okE_ok (allT_mem (h1 y hy) p hp)) (allT_mem (h2 x hx) y hy)
end
end Rp
set_option Elab.async false
set_option linter.all false
set_option maxRecDepth 100000
set_option maxHeartbeats 0
namespace Rp
noncomputable section
open PySem PySem.Spec PyProof.Rows L2 SX
def ld0 : Ld := ([], [([41, 10], false), ([48, 32, 10], true), ([48, 41, 10], false), ([93, 10], false), ([125, 10], false), ([48, 125, 10], false), ([48, 93, 10], false), ([10], false), ([46, 120, 39, 39, 39, 10], false), ([46, 120, 34, 34, 34, 10], false), ([48, 125, 34, 10], false), ([10, 48, 10], true), ([120, 10], true), ([], false), ([41, 58, 48, 32, 10, 10], false), ([93, 125, 10], false), ([41, 10, 10], false), ([41, 93, 125, 34, 10], false), ([48, 93, 41, 10], false), ([41, 10, 32, 102, 105, 110, 97, 108, 108, 121, 58, 48, 10, 10], false), ([41, 10, 102, 105, 110, 97, 108, 108, 121, 58, 48, 10, 10], false)])
def ld1 : Ld := ([35, 32, 97, 10], [([41, 10], false), ([48, 32, 10], true), ([48, 41, 10], false), ([93, 10], false), ([125, 10], false), ([48, 125, 10], false), ([48, 93, 10], false), ([10], false), ([46, 120, 39, 39, 39, 10], false), ([46, 120, 34, 34, 34, 10], false), ([48, 125, 34, 10], false), ([10, 48, 10], true), ([120, 10], true), ([], false), ([41, 58, 48, 32, 10, 10], false), ([93, 125, 10], false), ([41, 10, 10], false), ([41, 93, 125, 34, 10], false), ([48, 93, 41, 10], false), ([41, 10, 32, 102, 105, 110, 97, 108, 108, 121, 58, 48, 10, 10], false), ([41, 10, 102, 105, 110, 97, 108, 108, 121, 58, 48, 10, 10], false)])
def ld2 : Ld := ([40, 10], [([41, 10], true), ([48, 32, 41, 10], true), ([120, 61, 48, 32, 41, 10], false), ([41, 46, 120, 61, 48, 32, 10], true), ([46, 120, 39, 39, 39, 10], false), ([46, 120, 34, 34, 34, 10], false), ([], false), ([41, 58, 48, 32, 10, 10], false), ([41, 59, 98, 114, 101, 97, 107, 59, 10, 10], false), ([41, 59, 114, 101, 116, 117, 114, 110, 59, 10, 10], false), ([41, 93, 125, 34, 10], false)])
def ld3 : Ld := ([40, 97, 44, 10], [([41, 10], true), ([48, 32, 41, 10], true), ([120, 61, 48, 32, 41, 10], false), ([41, 46, 120, 61, 48, 32, 10], true), ([46, 120, 39, 39, 39, 10], false), ([46, 120, 34, 34, 34, 10], false), ([], false), ([41, 58, 48, 32, 10, 10], false), ([41, 59, 98, 114, 101, 97, 107, 59, 10, 10], false), ([41, 59, 114, 101, 116, 117, 114, 110, 59, 10, 10], false), ([41, 93, 125, 34, 10], false)])
def ld4 : Ld := ([40, 97, 10], [([48, 32, 10], false), ([48, 32, 41, 10], false), ([46, 120, 32, 41, 10], true), ([48, 32, 93, 10], false), ([41, 10], true), ([48, 32, 58, 48, 32, 125, 10], false), ([48, 32, 125, 10], false), ([61, 48, 32, 41, 10], false), ([44, 120, 61, 48, 32, 41, 10], false), ([61, 48, 32, 10], false), ([48, 39, 39, 39, 10], false), ([48, 34, 34, 34, 10], false), ([48, 32, 125, 34, 10], false), ([], false), ([120, 32, 41, 58, 48, 32, 10, 10], false), ([48, 32, 41, 58, 48, 32, 10, 10], false), ([48, 32, 93, 125, 10], false), ([48, 32, 41, 10, 10], false), ([48, 32, 41, 93, 125, 34, 10], false), ([48, 32, 93, 41, 10], false), ([48, 32, 41, 10, 32, 102, 105, 110, 97, 108, 108, 121, 58, 48, 10, 10], false), ([48, 32, 41, 10, 102, 105, 110, 97, 108, 108, 121, 58, 48, 10, 10], false)])
def ld5 : Ld := ([40, 49, 10], [([48, 32, 10], false), ([48, 32, 41, 10], false), ([46, 120, 32, 41, 10], false), ([48, 32, 93, 10], false), ([46, 120, 32, 93, 10], false), ([48, 32, 58, 48, 32, 125, 10], false), ([48, 32, 125, 10], false), ([46, 120, 32, 125, 10], false), ([46, 120, 32, 10], false), ([41, 10], true), ([48, 39, 39, 39, 10], false), ([48, 34, 34, 34, 10], false), ([48, 32, 125, 34, 10], false), ([46, 120, 32, 125, 34, 10], false), ([], false), ([120, 32, 41, 58, 48, 32, 10, 10], false), ([105, 110, 32, 48, 32, 41, 10], true), ([48, 32, 41, 58, 48, 32, 10, 10], false), ([48, 32, 93, 125, 10], false), ([48, 32, 41, 10, 10], false), ([48, 32, 41, 93, 125, 34, 10], false), ([48, 32, 93, 41, 10], false), ([48, 32, 41, 10, 32, 102, 105, 110, 97, 108, 108, 121, 58, 48, 10, 10], false), ([48, 32, 41, 10, 102, 105, 110, 97, 108, 108, 121, 58, 48, 10, 10], false)])
def ld6 : Ld := ([40, 45, 10], [([48, 41, 10], true), ([41, 10], false), ([48, 32, 41, 10], true), ([93, 10], false), ([125, 10], false), ([48, 44, 120, 61, 48, 32, 41, 10], false), ([46, 120, 39, 39, 39, 10], false), ([46, 120, 34, 34, 34, 10], false), ([], false), ([41, 58, 48, 32, 10, 10], false), ([93, 125, 10], false), ([41, 10, 10], false), ([41, 93, 125, 34, 10], false), ([41, 10, 32, 102, 105, 110, 97, 108, 108, 121, 58, 48, 10, 10], false), ([41, 10, 102, 105, 110, 97, 108, 108, 121, 58, 48, 10, 10], false)])
def ld7 : Ld := ([91, 10], [([93, 10], true), ([41, 10], false), ([48, 32, 93, 10], true), ([46, 120, 39, 39, 39, 10], false), ([46, 120, 34, 34, 34, 10], false), ([], false), ([41, 58, 48, 32, 10, 10], false), ([93, 125, 10], false), ([41, 10, 10], false), ([41, 93, 125, 34, 10], false), ([41, 10, 32, 102, 105, 110, 97, 108, 108, 121, 58, 48, 10, 10], false), ([41, 10, 102, 105, 110, 97, 108, 108, 121, 58, 48, 10, 10], false)])
def ld8 : Ld := ([91, 97, 10], [([48, 32, 10], false), ([48, 32, 41, 10], false), ([41, 10], false), ([46, 120, 32, 93, 10], true), ([48, 32, 93, 10], false), ([48, 32, 58, 48, 32, 125, 10], false), ([48, 32, 125, 10], false), ([93, 10], true), ([61, 48, 32, 41, 10], false), ([61, 48, 32, 10], false), ([48, 39, 39, 39, 10], false), ([48, 34, 34, 34, 10], false), ([48, 32, 125, 34, 10], false), ([], false), ([120, 32, 41, 58, 48, 32, 10, 10], false), ([48, 32, 41, 58, 48, 32, 10, 10], false), ([48, 32, 93, 125, 10], false), ([48, 32, 41, 10, 10], false), ([48, 32, 41, 93, 125, 34, 10], false), ([48, 32, 93, 41, 10], false), ([48, 32, 41, 10, 32, 102, 105, 110, 97, 108, 108, 121, 58, 48, 10, 10], false), ([48, 32, 41, 10, 102, 105, 110, 97, 108, 108, 121, 58, 48, 10, 10], false)])
def ld9 : Ld := ([123, 10], [([125, 10], true), ([41, 10], false), ([48, 32, 58, 48, 32, 125, 10], true), ([93, 10], false), ([46, 120, 39, 39, 39, 10], false), ([46, 120, 34, 34, 34, 10], false), ([], false), ([41, 58, 48, 32, 10, 10], false), ([93, 125, 10], false), ([41, 10, 10], false), ([41, 93, 125, 34, 10], false), ([41, 10, 32, 102, 105, 110, 97, 108, 108, 121, 58, 48, 10, 10], false), ([41, 10, 102, 105, 110, 97, 108, 108, 121, 58, 48, 10, 10], false)])
def ld10 : Ld := ([123, 97, 58, 10], [([48, 125, 10], true), ([41, 10], false), ([48, 32, 125, 10], true), ([48, 41, 10], false), ([93, 10], false), ([125, 10], false), ([48, 93, 10], false), ([46, 120, 39, 39, 39, 10], false), ([46, 120, 34, 34, 34, 10], false), ([48, 44, 125, 10], true), ([], false), ([41, 58, 48, 32, 10, 10], false), ([93, 125, 10], false), ([41, 10, 10], false), ([41, 93, 125, 34, 10], false), ([48, 93, 41, 10], false), ([41, 10, 32, 102, 105, 110, 97, 108, 108, 121, 58, 48, 10, 10], false), ([41, 10, 102, 105, 110, 97, 108, 108, 121, 58, 48, 10, 10], false)])
def ld11 : Ld := ([123, 97, 58, 32, 98, 10], [([48, 32, 10], false), ([48, 32, 41, 10], false), ([41, 10], false), ([46, 120, 32, 125, 10], true), ([48, 32, 93, 10], false), ([93, 10], false), ([48, 32, 58, 48, 32, 125, 10], false), ([48, 32, 125, 10], false), ([61, 48, 32, 41, 10], false), ([61, 48, 32, 10], false), ([125, 10], true), ([48, 39, 39, 39, 10], false), ([48, 34, 34, 34, 10], false), ([48, 32, 125, 34, 10], false), ([44, 125, 10], true), ([], false), ([120, 32, 41, 58, 48, 32, 10, 10], false), ([48, 32, 41, 58, 48, 32, 10, 10], false), ([48, 32, 93, 125, 10], false), ([48, 32, 41, 10, 10], false), ([48, 32, 41, 93, 125, 34, 10], false), ([48, 32, 93, 41, 10], false), ([48, 32, 41, 10, 32, 102, 105, 110, 97, 108, 108, 121, 58, 48, 10, 10], false), ([48, 32, 41, 10, 102, 105, 110, 97, 108, 108, 121, 58, 48, 10, 10], false)])
def ld12 : Ld := ([102, 40, 10], [([41, 10], true), ([120, 61, 48, 32, 41, 10], true), ([48, 32, 41, 10], true), ([41, 46, 120, 61, 48, 32, 10], true), ([46, 120, 39, 39, 39, 10], false), ([46, 120, 34, 34, 34, 10], false), ([], false), ([41, 58, 48, 32, 10, 10], false), ([41, 59, 98, 114, 101, 97, 107, 59, 10, 10], false), ([41, 59, 114, 101, 116, 117, 114, 110, 59, 10, 10], false), ([41, 93, 125, 34, 10], false)])
def ld13 : Ld := ([102, 40, 97, 10], [([48, 32, 10], false), ([48, 32, 41, 10], false), ([61, 48, 32, 41, 10], true), ([46, 120, 32, 41, 10], true), ([48, 32, 93, 10], false), ([48, 32, 58, 48, 32, 125, 10], false), ([48, 32, 125, 10], false), ([41, 10], true), ([48, 39, 39, 39, 10], false), ([48, 34, 34, 34, 10], false), ([48, 32, 125, 34, 10], false), ([], false), ([120, 32, 41, 58, 48, 32, 10, 10], false), ([48, 32, 41, 58, 48, 32, 10, 10], false), ([48, 32, 93, 125, 10], false), ([48, 32, 41, 10, 10], false), ([48, 32, 41, 93, 125, 34, 10], false), ([48, 32, 93, 41, 10], false), ([48, 32, 41, 10, 32, 102, 105, 110, 97, 108, 108, 121, 58, 48, 10, 10], false), ([48, 32, 41, 10, 102, 105, 110, 97, 108, 108, 121, 58, 48, 10, 10], false)])
def ld14 : Ld := ([102, 40, 97, 46, 98, 10], [([48, 32, 10], false), ([48, 32, 41, 10], false), ([44, 120, 61, 48, 32, 41, 10], true), ([46, 120, 32, 41, 10], true), ([48, 32, 93, 10], false), ([41, 10], true), ([48, 32, 58, 48, 32, 125, 10], false), ([48, 32, 125, 10], false), ([61, 48, 32, 41, 10], false), ([61, 48, 32, 10], false), ([48, 39, 39, 39, 10], false), ([48, 34, 34, 34, 10], false), ([48, 32, 125, 34, 10], false), ([], false), ([120, 32, 41, 58, 48, 32, 10, 10], false), ([48, 32, 41, 58, 48, 32, 10, 10], false), ([48, 32, 93, 125, 10], false), ([48, 32, 41, 10, 10], false), ([48, 32, 41, 93, 125, 34, 10], false), ([48, 32, 93, 41, 10], false), ([48, 32, 41, 10, 32, 102, 105, 110, 97, 108, 108, 121, 58, 48, 10, 10], false), ([48, 32, 41, 10, 102, 105, 110, 97, 108, 108, 121, 58, 48, 10, 10], false)])
def ld15 : Ld := ([102, 40, 107, 32, 61, 10], [([48, 41, 10], true), ([41, 10], false), ([48, 32, 41, 10], true), ([48, 44, 120, 61, 48, 32, 41, 10], true), ([93, 10], false), ([125, 10], false), ([46, 120, 39, 39, 39, 10], false), ([46, 120, 34, 34, 34, 10], false), ([], false), ([41, 58, 48, 32, 10, 10], false), ([93, 125, 10], false), ([41, 10, 10], false), ([41, 93, 125, 34, 10], false), ([41, 10, 32, 102, 105, 110, 97, 108, 108, 121, 58, 48, 10, 10], false), ([41, 10, 102, 105, 110, 97, 108, 108, 121, 58, 48, 10, 10], false)])
def ld16 : Ld := ([120, 91, 10], [([48, 93, 10], true), ([41, 10], false), ([48, 32, 93, 10], true), ([48, 41, 10], false), ([93, 10], false), ([125, 10], false), ([48, 93, 61, 48, 32, 10], true), ([46, 120, 39, 39, 39, 10], false), ([46, 120, 34, 34, 34, 10], false), ([], false), ([41, 58, 48, 32, 10, 10], false), ([93, 125, 10], false), ([41, 10, 10], false), ([41, 93, 125, 34, 10], false), ([41, 10, 32, 102, 105, 110, 97, 108, 108, 121, 58, 48, 10, 10], false), ([41, 10, 102, 105, 110, 97, 108, 108, 121, 58, 48, 10, 10], false)])
def ld17 : Ld := ([121, 32, 61, 32, 120, 91, 10], [([48, 93, 10], true), ([41, 10], false), ([48, 32, 93, 10], true), ([48, 41, 10], false), ([93, 10], false), ([125, 10], false), ([48, 93, 61, 48, 32, 10], false), ([46, 120, 39, 39, 39, 10], false), ([46, 120, 34, 34, 34, 10], false), ([], false), ([41, 58, 48, 32, 10, 10], false), ([93, 125, 10], false), ([41, 10, 10], false), ([41, 93, 125, 34, 10], false), ([48, 93, 41, 10], false), ([41, 10, 32, 102, 105, 110, 97, 108, 108, 121, 58, 48, 10, 10], false), ([41, 10, 102, 105, 110, 97, 108, 108, 121, 58, 48, 10, 10], false)])
def ld18 : Ld := ([121, 32, 43, 32, 40, 10], [([41, 10], true), ([41, 46, 120, 61, 48, 32, 10], false), ([48, 32, 41, 10], true), ([46, 120, 39, 39, 39, 10], false), ([46, 120, 34, 34, 34, 10], false), ([], false), ([41, 58, 48, 32, 10, 10], false), ([41, 46, 120, 61, 48, 32, 10, 10], false), ([41, 93, 125, 34, 10], false), ([41, 46, 120, 61, 48, 32, 10, 32, 102, 105, 110, 97, 108, 108, 121, 58, 48, 10, 10], false), ([41, 46, 120, 61, 48, 32, 10, 102, 105, 110, 97, 108, 108, 121, 58, 48, 10, 10], false)])
def ld19 : Ld := ([120, 32, 92, 10], [([48, 32, 10], false), ([48, 32, 41, 10], false), ([61, 48, 32, 10], true), ([46, 120, 32, 10], true), ([48, 32, 93, 10], false), ([48, 32, 58, 48, 32, 125, 10], false), ([48, 32, 125, 10], false), ([41, 10], false), ([48, 39, 39, 39, 10], false), ([48, 34, 34, 34, 10], false), ([48, 32, 125, 34, 10], false), ([], false), ([120, 32, 41, 58, 48, 32, 10, 10], false), ([48, 32, 41, 58, 48, 32, 10, 10], false), ([48, 32, 93, 125, 10], false), ([48, 32, 41, 10, 10], false), ([48, 32, 41, 93, 125, 34, 10], false), ([48, 32, 93, 41, 10], false), ([48, 32, 41, 10, 32, 102, 105, 110, 97, 108, 108, 121, 58, 48, 10, 10], false), ([48, 32, 41, 10, 102, 105, 110, 97, 108, 108, 121, 58, 48, 10, 10], false)])
def ld20 : Ld := ([120, 40, 41, 32, 92, 10], [([48, 32, 10], false), ([48, 32, 41, 10], false), ([41, 10], false), ([46, 120, 32, 10], true), ([48, 32, 93, 10], false), ([93, 10], false), ([48, 32, 58, 48, 32, 125, 10], false), ([48, 32, 125, 10], false), ([125, 10], false), ([61, 48, 32, 41, 10], false), ([61, 48, 32, 10], false), ([48, 39, 39, 39, 10], false), ([48, 34, 34, 34, 10], false), ([48, 32, 125, 34, 10], false), ([125, 34, 10], false), ([], false), ([120, 32, 41, 58, 48, 32, 10, 10], false), ([48, 32, 41, 58, 48, 32, 10, 10], false), ([48, 32, 93, 125, 10], false), ([48, 32, 41, 10, 10], false), ([48, 32, 41, 93, 125, 34, 10], false), ([48, 32, 93, 41, 10], false), ([48, 32, 41, 10, 32, 102, 105, 110, 97, 108, 108, 121, 58, 48, 10, 10], false), ([48, 32, 41, 10, 102, 105, 110, 97, 108, 108, 121, 58, 48, 10, 10], false)])
def ld21 : Ld := ([49, 32, 92, 10], [([48, 32, 10], false), ([48, 32, 41, 10], false), ([46, 120, 32, 41, 10], false), ([41, 10], false), ([48, 32, 93, 10], false), ([46, 120, 32, 93, 10], false), ([48, 32, 58, 48, 32, 125, 10], false), ([48, 32, 125, 10], false), ([46, 120, 32, 125, 10], false), ([46, 120, 32, 10], false), ([105, 110, 32, 48, 32, 10], true), ([48, 39, 39, 39, 10], false), ([48, 34, 34, 34, 10], false), ([48, 32, 125, 34, 10], false), ([46, 120, 32, 125, 34, 10], false), ([59, 10], true), ([], false), ([120, 32, 41, 58, 48, 32, 10, 10], false), ([41, 58, 48, 32, 10, 10], false), ([48, 32, 41, 58, 48, 32, 10, 10], false), ([48, 32, 93, 125, 10], false), ([48, 32, 41, 10, 10], false), ([48, 32, 41, 93, 125, 34, 10], false), ([48, 32, 93, 41, 10], false), ([48, 32, 41, 10, 32, 102, 105, 110, 97, 108, 108, 121, 58, 48, 10, 10], false), ([48, 32, 41, 10, 102, 105, 110, 97, 108, 108, 121, 58, 48, 10, 10], false)])
def ld22 : Ld := ([112, 97, 115, 115, 32, 92, 10], [([48, 32, 10], false), ([48, 32, 41, 10], false), ([46, 120, 32, 41, 10], false), ([41, 10], false), ([48, 32, 93, 10], false), ([46, 120, 32, 93, 10], false), ([48, 32, 58, 48, 32, 125, 10], false), ([48, 32, 125, 10], false), ([46, 120, 32, 125, 10], false), ([46, 120, 32, 10], false), ([105, 110, 32, 48, 32, 10], false), ([48, 39, 39, 39, 10], false), ([48, 34, 34, 34, 10], false), ([48, 32, 125, 34, 10], false), ([46, 120, 32, 125, 34, 10], false), ([59, 10], true), ([], false), ([120, 32, 41, 58, 48, 32, 10, 10], false), ([41, 58, 48, 32, 10, 10], false), ([48, 32, 41, 58, 48, 32, 10, 10], false), ([48, 32, 93, 125, 10], false), ([48, 32, 41, 10, 10], false), ([48, 32, 41, 93, 125, 34, 10], false), ([48, 32, 93, 41, 10], false), ([48, 32, 41, 10, 32, 102, 105, 110, 97, 108, 108, 121, 58, 48, 10, 10], false), ([48, 32, 41, 10, 102, 105, 110, 97, 108, 108, 121, 58, 48, 10, 10], false)])
def ld23 : Ld := ([120, 59, 32, 92, 10], [([10], true), ([41, 10], false), ([48, 32, 10], true), ([48, 41, 10], false), ([93, 10], false), ([125, 10], false), ([48, 125, 10], false), ([48, 93, 10], false), ([46, 120, 39, 39, 39, 10], false), ([46, 120, 34, 34, 34, 10], false), ([48, 125, 34, 10], false), ([], false), ([41, 58, 48, 32, 10, 10], false), ([93, 125, 10], false), ([41, 10, 10], false), ([41, 93, 125, 34, 10], false), ([48, 93, 41, 10], false), ([41, 10, 32, 102, 105, 110, 97, 108, 108, 121, 58, 48, 10, 10], false), ([41, 10, 102, 105, 110, 97, 108, 108, 121, 58, 48, 10, 10], false)])
def ld24 : Ld := ([39, 39, 39, 10], [([46, 120, 39, 39, 39, 10], true), ([48, 39, 39, 39, 10], true), ([34, 34, 34, 34, 39, 39, 39, 10], true), ([39, 39, 39, 46, 120, 61, 48, 32, 10], true), ([], false)])
def ld25 : Ld := ([34, 34, 34, 97, 10], [([46, 120, 34, 34, 34, 10], true), ([48, 34, 34, 34, 10], true), ([34, 34, 34, 34, 39, 39, 39, 10], false), ([], false)])
def ld26 : Ld := ([120, 32, 61, 32, 39, 39, 39, 10], [([46, 120, 39, 39, 39, 10], true), ([48, 39, 39, 39, 10], true), ([39, 39, 39, 46, 120, 61, 48, 32, 10], false), ([34, 34, 34, 34, 39, 39, 39, 10], true), ([], false)])
def ld27 : Ld := ([36, 34, 123, 10], [([48, 125, 34, 10], true), ([41, 10], false), ([48, 32, 125, 34, 10], true), ([48, 41, 10], false), ([93, 10], false), ([125, 10], false), ([48, 44, 125, 10], false), ([48, 93, 10], false), ([46, 120, 39, 39, 39, 10], false), ([46, 120, 34, 34, 34, 10], false), ([], false), ([41, 58, 48, 32, 10, 10], false), ([93, 125, 10], false), ([41, 10, 10], false), ([41, 93, 125, 34, 10], false), ([48, 93, 41, 10], false), ([41, 10, 32, 102, 105, 110, 97, 108, 108, 121, 58, 48, 10, 10], false), ([41, 10, 102, 105, 110, 97, 108, 108, 121, 58, 48, 10, 10], false)])
def ld28 : Ld := ([36, 34, 123, 97, 10], [([48, 32, 10], false), ([48, 32, 41, 10], false), ([41, 10], false), ([46, 120, 32, 125, 34, 10], true), ([48, 32, 93, 10], false), ([93, 10], false), ([48, 32, 58, 48, 32, 125, 10], false), ([48, 32, 125, 10], false), ([44, 125, 10], false), ([61, 48, 32, 41, 10], false), ([61, 48, 32, 10], false), ([125, 34, 10], true), ([48, 39, 39, 39, 10], false), ([48, 34, 34, 34, 10], false), ([48, 32, 125, 34, 10], false), ([], false), ([120, 32, 41, 58, 48, 32, 10, 10], false), ([48, 32, 41, 58, 48, 32, 10, 10], false), ([48, 32, 93, 125, 10], false), ([48, 32, 41, 10, 10], false), ([48, 32, 41, 93, 125, 34, 10], false), ([48, 32, 93, 41, 10], false), ([48, 32, 41, 10, 32, 102, 105, 110, 97, 108, 108, 121, 58, 48, 10, 10], false), ([48, 32, 41, 10, 102, 105, 110, 97, 108, 108, 121, 58, 48, 10, 10], false)])
def ld29 : Ld := ([105, 102, 32, 120, 58, 10], [([10, 48, 10], false), ([48, 32, 41, 10], false), ([46, 120, 32, 41, 10], false), ([41, 10], false), ([48, 32, 93, 10], false), ([46, 120, 32, 93, 10], false), ([48, 32, 58, 48, 32, 125, 10], false), ([48, 32, 125, 10], false), ([46, 120, 32, 125, 10], false), ([46, 120, 32, 10], false), ([59, 10], false), ([48, 32, 10], false), ([48, 39, 39, 39, 10], false), ([48, 34, 34, 34, 10], false), ([48, 32, 125, 34, 10], false), ([46, 120, 32, 125, 34, 10], false), ([32, 98, 114, 101, 97, 107, 10, 10], false), ([32, 114, 101, 116, 117, 114, 110, 10, 10], false), ([32, 120, 10, 10], true), ([10], false), ([101, 120, 99, 101, 112, 116, 58, 48, 10, 10], false), ([], false), ([120, 32, 41, 58, 48, 32, 10, 10], false), ([41, 58, 48, 32, 10, 10], false), ([48, 32, 41, 58, 48, 32, 10, 10], false), ([48, 32, 93, 125, 10], false), ([48, 32, 41, 10, 10], false), ([48, 32, 41, 93, 125, 34, 10], false), ([48, 32, 93, 41, 10], false), ([48, 32, 41, 10, 32, 102, 105, 110, 97, 108, 108, 121, 58, 48, 10, 10], false), ([48, 32, 41, 10, 102, 105, 110, 97, 108, 108, 121, 58, 48, 10, 10], false)])
def ld30 : Ld := ([119, 104, 105, 108, 101, 32, 120, 58, 10], [([10, 48, 10], false), ([48, 32, 41, 10], false), ([46, 120, 32, 41, 10], false), ([41, 10], false), ([48, 32, 93, 10], false), ([46, 120, 32, 93, 10], false), ([48, 32, 58, 48, 32, 125, 10], false), ([48, 32, 125, 10], false), ([46, 120, 32, 125, 10], false), ([46, 120, 32, 10], false), ([59, 10], false), ([48, 32, 10], false), ([48, 39, 39, 39, 10], false), ([48, 34, 34, 34, 10], false), ([48, 32, 125, 34, 10], false), ([46, 120, 32, 125, 34, 10], false), ([32, 98, 114, 101, 97, 107, 10, 10], true), ([32, 114, 101, 116, 117, 114, 110, 10, 10], false), ([10], false), ([101, 120, 99, 101, 112, 116, 58, 48, 10, 10], false), ([], false), ([120, 32, 41, 58, 48, 32, 10, 10], false), ([41, 58, 48, 32, 10, 10], false), ([48, 32, 41, 58, 48, 32, 10, 10], false), ([48, 32, 93, 125, 10], false), ([48, 32, 41, 10, 10], false), ([48, 32, 41, 93, 125, 34, 10], false), ([48, 32, 93, 41, 10], false), ([32, 120, 10, 10], true), ([48, 32, 41, 10, 32, 102, 105, 110, 97, 108, 108, 121, 58, 48, 10, 10], false), ([48, 32, 41, 10, 102, 105, 110, 97, 108, 108, 121, 58, 48, 10, 10], false)])
def ld31 : Ld := ([102, 111, 114, 32, 97, 32, 105, 110, 32, 98, 58, 10], [([10, 48, 10], false), ([48, 32, 41, 10], false), ([46, 120, 32, 41, 10], false), ([41, 10], false), ([48, 32, 93, 10], false), ([46, 120, 32, 93, 10], false), ([48, 32, 58, 48, 32, 125, 10], false), ([48, 32, 125, 10], false), ([46, 120, 32, 125, 10], false), ([46, 120, 32, 10], false), ([59, 10], false), ([48, 32, 10], false), ([48, 39, 39, 39, 10], false), ([48, 34, 34, 34, 10], false), ([48, 32, 125, 34, 10], false), ([46, 120, 32, 125, 34, 10], false), ([32, 98, 114, 101, 97, 107, 10, 10], true), ([32, 114, 101, 116, 117, 114, 110, 10, 10], false), ([10], false), ([101, 120, 99, 101, 112, 116, 58, 48, 10, 10], false), ([], false), ([120, 32, 41, 58, 48, 32, 10, 10], false), ([41, 58, 48, 32, 10, 10], false), ([48, 32, 41, 58, 48, 32, 10, 10], false), ([48, 32, 93, 125, 10], false), ([48, 32, 41, 10, 10], false), ([48, 32, 41, 93, 125, 34, 10], false), ([48, 32, 93, 41, 10], false), ([32, 120, 10, 10], true), ([48, 32, 41, 10, 32, 102, 105, 110, 97, 108, 108, 121, 58, 48, 10, 10], false), ([48, 32, 41, 10, 102, 105, 110, 97, 108, 108, 121, 58, 48, 10, 10], false)])
def ld32 : Ld := ([100, 101, 102, 32, 102, 40, 41, 58, 10], [([10, 48, 10], false), ([48, 32, 41, 10], false), ([46, 120, 32, 41, 10], false), ([41, 10], false), ([48, 32, 93, 10], false), ([46, 120, 32, 93, 10], false), ([48, 32, 58, 48, 32, 125, 10], false), ([48, 32, 125, 10], false), ([46, 120, 32, 125, 10], false), ([46, 120, 32, 10], false), ([59, 10], false), ([48, 32, 10], false), ([48, 39, 39, 39, 10], false), ([48, 34, 34, 34, 10], false), ([48, 32, 125, 34, 10], false), ([46, 120, 32, 125, 34, 10], false), ([32, 114, 101, 116, 117, 114, 110, 10, 10], true), ([10], false), ([101, 120, 99, 101, 112, 116, 58, 48, 10, 10], false), ([], false), ([120, 32, 41, 58, 48, 32, 10, 10], false), ([41, 58, 48, 32, 10, 10], false), ([48, 32, 41, 58, 48, 32, 10, 10], false), ([48, 32, 93, 125, 10], false), ([48, 32, 41, 10, 10], false), ([48, 32, 41, 93, 125, 34, 10], false), ([48, 32, 93, 41, 10], false), ([32, 120, 10, 10], true), ([48, 32, 41, 10, 32, 102, 105, 110, 97, 108, 108, 121, 58, 48, 10, 10], false), ([48, 32, 41, 10, 102, 105, 110, 97, 108, 108, 121, 58, 48, 10, 10], false)])
def ld33 : Ld := ([116, 114, 121, 58, 10], [([10, 48, 10], false), ([48, 32, 41, 10], false), ([46, 120, 32, 41, 10], false), ([41, 10], false), ([48, 32, 93, 10], false), ([46, 120, 32, 93, 10], false), ([48, 32, 58, 48, 32, 125, 10], false), ([48, 32, 125, 10], false), ([46, 120, 32, 125, 10], false), ([46, 120, 32, 10], false), ([59, 10], false), ([48, 32, 10], false), ([48, 39, 39, 39, 10], false), ([48, 34, 34, 34, 10], false), ([48, 32, 125, 34, 10], false), ([46, 120, 32, 125, 34, 10], false), ([32, 120, 10, 10], false), ([32, 98, 114, 101, 97, 107, 10, 10], false), ([32, 114, 101, 116, 117, 114, 110, 10, 10], false), ([10], false), ([101, 120, 99, 101, 112, 116, 58, 48, 10, 10], false), ([], false), ([120, 32, 41, 58, 48, 32, 10, 10], false), ([41, 58, 48, 32, 10, 10], false), ([48, 32, 41, 58, 48, 32, 10, 10], false), ([48, 32, 93, 125, 10], false), ([48, 32, 41, 10, 10], false), ([48, 32, 41, 93, 125, 34, 10], false), ([48, 32, 93, 41, 10], false), ([32, 120, 10, 102, 105, 110, 97, 108, 108, 121, 58, 48, 10, 10], true), ([48, 32, 41, 10, 32, 102, 105, 110, 97, 108, 108, 121, 58, 48, 10, 10], false), ([48, 32, 41, 10, 102, 105, 110, 97, 108, 108, 121, 58, 48, 10, 10], false)])
def ld34 : Ld := ([105, 102, 32, 120, 58, 32, 121, 10], [([120, 10], false), ([48, 32, 41, 10], false), ([46, 120, 32, 41, 10], false), ([41, 10], false), ([48, 32, 93, 10], false), ([46, 120, 32, 93, 10], false), ([48, 32, 58, 48, 32, 125, 10], false), ([48, 32, 125, 10], false), ([46, 120, 32, 125, 10], false), ([46, 120, 32, 10], false), ([59, 10], false), ([48, 32, 10], false), ([48, 39, 39, 39, 10], false), ([48, 34, 34, 34, 10], false), ([48, 32, 125, 34, 10], false), ([46, 120, 32, 125, 34, 10], false), ([10], true), ([101, 108, 115, 101, 58, 48, 10, 10], true), ([], false), ([120, 32, 41, 58, 48, 32, 10, 10], false), ([41, 58, 48, 32, 10, 10], false), ([48, 32, 41, 58, 48, 32, 10, 10], false), ([48, 32, 93, 125, 10], false), ([32, 32, 120, 10, 10], false), ([48, 32, 41, 10, 10], false), ([48, 32, 41, 93, 125, 34, 10], false), ([48, 32, 93, 41, 10], false), ([48, 32, 41, 10, 32, 102, 105, 110, 97, 108, 108, 121, 58, 48, 10, 10], false), ([48, 32, 41, 10, 102, 105, 110, 97, 108, 108, 121, 58, 48, 10, 10], false)])
def ld35 : Ld := ([105, 102, 32, 120, 58, 32, 121, 10, 101, 108, 115, 101, 58, 32, 122, 10], [([120, 10], false), ([48, 32, 41, 10], false), ([46, 120, 32, 41, 10], false), ([41, 10], false), ([48, 32, 93, 10], false), ([46, 120, 32, 93, 10], false), ([48, 32, 58, 48, 32, 125, 10], false), ([48, 32, 125, 10], false), ([46, 120, 32, 125, 10], false), ([46, 120, 32, 10], false), ([59, 10], false), ([48, 32, 10], false), ([48, 39, 39, 39, 10], false), ([48, 34, 34, 34, 10], false), ([48, 32, 125, 34, 10], false), ([46, 120, 32, 125, 34, 10], false), ([10], true), ([101, 108, 115, 101, 58, 48, 10, 10], false), ([], false), ([101, 120, 99, 101, 112, 116, 58, 48, 10, 10], false), ([120, 32, 41, 58, 48, 32, 10, 10], false), ([41, 58, 48, 32, 10, 10], false), ([48, 32, 41, 58, 48, 32, 10, 10], false), ([48, 32, 93, 125, 10], false), ([32, 32, 120, 10, 10], false), ([48, 32, 41, 10, 10], false), ([48, 32, 41, 93, 125, 34, 10], false), ([48, 32, 93, 41, 10], false), ([32, 120, 10, 10], false), ([48, 32, 41, 10, 32, 102, 105, 110, 97, 108, 108, 121, 58, 48, 10, 10], false), ([48, 32, 41, 10, 102, 105, 110, 97, 108, 108, 121, 58, 48, 10, 10], false)])
def ld36 : Ld := ([116, 114, 121, 58, 32, 120, 10], [([10, 48, 10], false), ([48, 32, 41, 10], false), ([46, 120, 32, 41, 10], false), ([41, 10], false), ([48, 32, 93, 10], false), ([46, 120, 32, 93, 10], false), ([48, 32, 58, 48, 32, 125, 10], false), ([48, 32, 125, 10], false), ([46, 120, 32, 125, 10], false), ([46, 120, 32, 10], false), ([59, 10], false), ([48, 32, 10], false), ([48, 39, 39, 39, 10], false), ([48, 34, 34, 34, 10], false), ([48, 32, 125, 34, 10], false), ([46, 120, 32, 125, 34, 10], false), ([101, 120, 99, 101, 112, 116, 58, 48, 10, 10], true), ([10], false), ([], false), ([120, 32, 41, 58, 48, 32, 10, 10], false), ([41, 58, 48, 32, 10, 10], false), ([48, 32, 41, 58, 48, 32, 10, 10], false), ([48, 32, 93, 125, 10], false), ([48, 32, 41, 10, 10], false), ([48, 32, 41, 93, 125, 34, 10], false), ([48, 32, 93, 41, 10], false), ([48, 32, 41, 10, 32, 102, 105, 110, 97, 108, 108, 121, 58, 48, 10, 10], false), ([32, 120, 10, 102, 105, 110, 97, 108, 108, 121, 58, 48, 10, 10], false), ([48, 32, 41, 10, 102, 105, 110, 97, 108, 108, 121, 58, 48, 10, 10], false)])
def ld37 : Ld := ([120, 10], [([], true)])
def ld38 : Ld := ([116, 114, 121, 58, 32, 120, 10, 101, 120, 99, 101, 112, 116, 58, 32, 121, 10], [([120, 10], false), ([48, 32, 41, 10], false), ([46, 120, 32, 41, 10], false), ([41, 10], false), ([48, 32, 93, 10], false), ([46, 120, 32, 93, 10], false), ([48, 32, 58, 48, 32, 125, 10], false), ([48, 32, 125, 10], false), ([46, 120, 32, 125, 10], false), ([46, 120, 32, 10], false), ([59, 10], false), ([48, 32, 10], false), ([48, 39, 39, 39, 10], false), ([48, 34, 34, 34, 10], false), ([48, 32, 125, 34, 10], false), ([46, 120, 32, 125, 34, 10], false), ([10], true), ([101, 108, 115, 101, 58, 48, 10, 10], false), ([101, 120, 99, 101, 112, 116, 58, 48, 10, 10], true), ([], false), ([120, 32, 41, 58, 48, 32, 10, 10], false), ([41, 58, 48, 32, 10, 10], false), ([48, 32, 41, 58, 48, 32, 10, 10], false), ([48, 32, 93, 125, 10], false), ([48, 32, 41, 10, 10], false), ([48, 32, 41, 93, 125, 34, 10], false), ([48, 32, 93, 41, 10], false), ([48, 32, 41, 10, 32, 102, 105, 110, 97, 108, 108, 121, 58, 48, 10, 10], false), ([48, 32, 41, 10, 102, 105, 110, 97, 108, 108, 121, 58, 48, 10, 10], false)])
def ld39 : Ld := ([119, 104, 105, 108, 101, 32, 120, 58, 32, 121, 10], [([120, 10], false), ([48, 32, 41, 10], false), ([46, 120, 32, 41, 10], false), ([41, 10], false), ([48, 32, 93, 10], false), ([46, 120, 32, 93, 10], false), ([48, 32, 58, 48, 32, 125, 10], false), ([48, 32, 125, 10], false), ([46, 120, 32, 125, 10], false), ([46, 120, 32, 10], false), ([59, 10], false), ([48, 32, 10], false), ([48, 39, 39, 39, 10], false), ([48, 34, 34, 34, 10], false), ([48, 32, 125, 34, 10], false), ([46, 120, 32, 125, 34, 10], false), ([10], true), ([101, 108, 115, 101, 58, 48, 10, 10], false), ([], false), ([101, 120, 99, 101, 112, 116, 58, 48, 10, 10], false), ([120, 32, 41, 58, 48, 32, 10, 10], false), ([41, 58, 48, 32, 10, 10], false), ([48, 32, 41, 58, 48, 32, 10, 10], false), ([48, 32, 93, 125, 10], false), ([32, 32, 120, 10, 10], false), ([48, 32, 41, 10, 10], false), ([48, 32, 41, 93, 125, 34, 10], false), ([48, 32, 93, 41, 10], false), ([32, 120, 10, 10], false), ([48, 32, 41, 10, 32, 102, 105, 110, 97, 108, 108, 121, 58, 48, 10, 10], false), ([48, 32, 41, 10, 102, 105, 110, 97, 108, 108, 121, 58, 48, 10, 10], false)])
def ld40 : Ld := ([100, 101, 102, 32, 102, 40, 10], [([48, 32, 10], false), ([48, 32, 41, 10], false), ([120, 32, 41, 58, 48, 32, 10, 10], true), ([48, 32, 93, 10], false), ([48, 32, 58, 48, 32, 125, 10], false), ([48, 32, 125, 10], false), ([48, 39, 39, 39, 10], false), ([48, 34, 34, 34, 10], false), ([48, 32, 125, 34, 10], false), ([], false), ([48, 32, 41, 58, 48, 32, 10, 10], false), ([48, 32, 93, 125, 10], false), ([48, 32, 41, 10, 10], false), ([48, 32, 41, 93, 125, 34, 10], false), ([48, 32, 93, 41, 10], false), ([48, 32, 41, 10, 32, 102, 105, 110, 97, 108, 108, 121, 58, 48, 10, 10], false), ([48, 32, 41, 10, 102, 105, 110, 97, 108, 108, 121, 58, 48, 10, 10], false)])
def ld41 : Ld := ([100, 101, 102, 32, 102, 40, 97, 10], [([48, 32, 10], false), ([48, 32, 41, 10], false), ([46, 120, 32, 41, 10], false), ([105, 110, 32, 48, 32, 41, 10], false), ([48, 32, 93, 10], false), ([46, 120, 32, 93, 10], false), ([48, 32, 58, 48, 32, 125, 10], false), ([48, 32, 125, 10], false), ([46, 120, 32, 125, 10], false), ([46, 120, 32, 10], false), ([41, 58, 48, 32, 10, 10], true), ([48, 39, 39, 39, 10], false), ([48, 34, 34, 34, 10], false), ([48, 32, 125, 34, 10], false), ([46, 120, 32, 125, 34, 10], false), ([], false), ([120, 32, 41, 58, 48, 32, 10, 10], false), ([48, 32, 41, 58, 48, 32, 10, 10], false), ([48, 32, 93, 125, 10], false), ([48, 32, 41, 10, 10], false), ([48, 32, 41, 93, 125, 34, 10], false), ([48, 32, 93, 41, 10], false), ([48, 32, 41, 10, 32, 102, 105, 110, 97, 108, 108, 121, 58, 48, 10, 10], false), ([48, 32, 41, 10, 102, 105, 110, 97, 108, 108, 121, 58, 48, 10, 10], false)])
def ld42 : Ld := ([105, 102, 32, 40, 10], [([41, 58, 48, 32, 10, 10], true), ([48, 32, 41, 58, 48, 32, 10, 10], true), ([46, 120, 39, 39, 39, 10], false), ([46, 120, 34, 34, 34, 10], false), ([], false), ([41, 58, 98, 114, 101, 97, 107, 59, 10, 10], false), ([41, 93, 125, 34, 10], false)])
def ld43 : Ld := ([119, 104, 105, 108, 101, 32, 40, 10], [([41, 58, 48, 32, 10, 10], true), ([48, 32, 41, 58, 48, 32, 10, 10], true), ([46, 120, 39, 39, 39, 10], false), ([46, 120, 34, 34, 34, 10], false), ([], false), ([41, 58, 98, 114, 101, 97, 107, 59, 10, 10], true), ([41, 93, 125, 34, 10], false)])
def ld44 : Ld := ([123, 48, 58, 32, 91, 10], [([93, 125, 10], true), ([41, 10], false), ([48, 32, 93, 125, 10], true), ([46, 120, 39, 39, 39, 10], false), ([46, 120, 34, 34, 34, 10], false), ([], false), ([41, 58, 48, 32, 10, 10], false), ([41, 10, 10], false), ([41, 93, 125, 34, 10], false), ([41, 10, 32, 102, 105, 110, 97, 108, 108, 121, 58, 48, 10, 10], false), ([41, 10, 102, 105, 110, 97, 108, 108, 121, 58, 48, 10, 10], false)])
def ld45 : Ld := ([105, 102, 32, 120, 58, 10, 32, 32, 121, 10], [([120, 10], false), ([48, 32, 41, 10], false), ([46, 120, 32, 41, 10], false), ([41, 10], false), ([48, 32, 93, 10], false), ([46, 120, 32, 93, 10], false), ([48, 32, 58, 48, 32, 125, 10], false), ([48, 32, 125, 10], false), ([46, 120, 32, 125, 10], false), ([46, 120, 32, 10], false), ([59, 10], false), ([48, 32, 10], false), ([48, 39, 39, 39, 10], false), ([48, 34, 34, 34, 10], false), ([48, 32, 125, 34, 10], false), ([46, 120, 32, 125, 34, 10], false), ([10], true), ([32, 32, 120, 10, 10], true), ([101, 108, 115, 101, 58, 48, 10, 10], true), ([], false), ([120, 32, 41, 58, 48, 32, 10, 10], false), ([41, 58, 48, 32, 10, 10], false), ([48, 32, 41, 58, 48, 32, 10, 10], false), ([48, 32, 93, 125, 10], false), ([32, 32, 32, 32, 120, 10, 10], false), ([48, 32, 41, 10, 10], false), ([48, 32, 41, 93, 125, 34, 10], false), ([48, 32, 93, 41, 10], false), ([48, 32, 41, 10, 32, 102, 105, 110, 97, 108, 108, 121, 58, 48, 10, 10], false), ([48, 32, 41, 10, 102, 105, 110, 97, 108, 108, 121, 58, 48, 10, 10], false)])
def ld46 : Ld := ([105, 102, 32, 120, 58, 10, 32, 32, 119, 104, 105, 108, 101, 32, 121, 58, 10, 32, 32, 32, 32, 122, 10], [([120, 10], false), ([48, 32, 41, 10], false), ([46, 120, 32, 41, 10], false), ([41, 10], false), ([48, 32, 93, 10], false), ([46, 120, 32, 93, 10], false), ([48, 32, 58, 48, 32, 125, 10], false), ([48, 32, 125, 10], false), ([46, 120, 32, 125, 10], false), ([46, 120, 32, 10], false), ([59, 10], false), ([48, 32, 10], false), ([48, 39, 39, 39, 10], false), ([48, 34, 34, 34, 10], false), ([48, 32, 125, 34, 10], false), ([46, 120, 32, 125, 34, 10], false), ([10], true), ([32, 32, 120, 10, 10], true), ([101, 108, 115, 101, 58, 48, 10, 10], true), ([], false), ([120, 32, 41, 58, 48, 32, 10, 10], false), ([41, 58, 48, 32, 10, 10], false), ([48, 32, 41, 58, 48, 32, 10, 10], false), ([48, 32, 93, 125, 10], false), ([32, 32, 32, 32, 120, 10, 10], true), ([48, 32, 41, 10, 10], false), ([48, 32, 41, 93, 125, 34, 10], false), ([48, 32, 93, 41, 10], false), ([48, 32, 41, 10, 32, 102, 105, 110, 97, 108, 108, 121, 58, 48, 10, 10], false), ([48, 32, 41, 10, 102, 105, 110, 97, 108, 108, 121, 58, 48, 10, 10], false)])
def ld47 : Ld := ([100, 101, 102, 32, 102, 40, 41, 58, 10, 32, 32, 105, 102, 32, 121, 58, 32, 122, 10], [([120, 10], false), ([48, 32, 41, 10], false), ([46, 120, 32, 41, 10], false), ([41, 10], false), ([48, 32, 93, 10], false), ([46, 120, 32, 93, 10], false), ([48, 32, 58, 48, 32, 125, 10], false), ([48, 32, 125, 10], false), ([46, 120, 32, 125, 10], false), ([46, 120, 32, 10], false), ([59, 10], false), ([48, 32, 10], false), ([48, 39, 39, 39, 10], false), ([48, 34, 34, 34, 10], false), ([48, 32, 125, 34, 10], false), ([46, 120, 32, 125, 34, 10], false), ([10], true), ([101, 108, 115, 101, 58, 48, 10, 10], false), ([32, 32, 120, 10, 10], true), ([], false), ([101, 120, 99, 101, 112, 116, 58, 48, 10, 10], false), ([120, 32, 41, 58, 48, 32, 10, 10], false), ([41, 58, 48, 32, 10, 10], false), ([48, 32, 41, 58, 48, 32, 10, 10], false), ([48, 32, 93, 125, 10], false), ([48, 32, 41, 10, 10], false), ([48, 32, 41, 93, 125, 34, 10], false), ([48, 32, 93, 41, 10], false), ([32, 120, 10, 10], false), ([48, 32, 41, 10, 32, 102, 105, 110, 97, 108, 108, 121, 58, 48, 10, 10], false), ([48, 32, 41, 10, 102, 105, 110, 97, 108, 108, 121, 58, 48, 10, 10], false)])
def ld48 : Ld := ([119, 104, 105, 108, 101, 32, 120, 58, 32, 40, 10], [([41, 10, 10], true), ([41, 59, 98, 114, 101, 97, 107, 59, 10, 10], true), ([48, 32, 41, 10, 10], true), ([41, 46, 120, 61, 48, 32, 10, 10], true), ([46, 120, 39, 39, 39, 10], false), ([46, 120, 34, 34, 34, 10], false), ([], false), ([41, 58, 48, 32, 10, 10], false), ([41, 59, 114, 101, 116, 117, 114, 110, 59, 10, 10], false), ([41, 93, 125, 34, 10], false)])
def ld49 : Ld := ([105, 102, 32, 120, 58, 32, 40, 10], [([41, 10, 10], true), ([41, 10], false), ([48, 32, 41, 10, 10], true), ([41, 46, 120, 61, 48, 32, 10, 10], true), ([46, 120, 39, 39, 39, 10], false), ([46, 120, 34, 34, 34, 10], false), ([], false), ([41, 58, 48, 32, 10, 10], false), ([41, 59, 98, 114, 101, 97, 107, 59, 10, 10], false), ([41, 59, 114, 101, 116, 117, 114, 110, 59, 10, 10], false), ([41, 93, 125, 34, 10], false)])
def ld50 : Ld := ([100, 101, 102, 32, 102, 40, 41, 58, 32, 40, 10], [([41, 10, 10], true), ([41, 59, 114, 101, 116, 117, 114, 110, 59, 10, 10], true), ([48, 32, 41, 10, 10], true), ([41, 46, 120, 61, 48, 32, 10, 10], true), ([46, 120, 39, 39, 39, 10], false), ([46, 120, 34, 34, 34, 10], false), ([], false), ([41, 58, 48, 32, 10, 10], false), ([41, 93, 125, 34, 10], false), ([41, 59, 98, 114, 101, 97, 107, 59, 10, 10], false), ([41, 10, 32, 120, 10, 10], false)])
def ld51 : Ld := ([105, 102, 32, 120, 58, 32, 121, 10, 10], [([], true)])
def ld52 : Ld := ([36, 34, 123, 91, 40, 10], [([41, 93, 125, 34, 10], true), ([48, 32, 41, 93, 125, 34, 10], true), ([46, 120, 39, 39, 39, 10], false), ([46, 120, 34, 34, 34, 10], false), ([], false)])
def ld53 : Ld := ([102, 40, 97, 91, 10], [([48, 93, 41, 10], true), ([41, 10], false), ([48, 32, 93, 41, 10], true), ([48, 41, 10], false), ([93, 10], false), ([125, 10], false), ([48, 93, 61, 48, 32, 10], false), ([46, 120, 39, 39, 39, 10], false), ([46, 120, 34, 34, 34, 10], false), ([], false), ([41, 58, 48, 32, 10, 10], false), ([93, 125, 10], false), ([41, 10, 10], false), ([41, 93, 125, 34, 10], false), ([41, 10, 32, 102, 105, 110, 97, 108, 108, 121, 58, 48, 10, 10], false), ([41, 10, 102, 105, 110, 97, 108, 108, 121, 58, 48, 10, 10], false)])
def ld54 : Ld := ([100, 101, 102, 32, 102, 40, 41, 58, 10, 32, 119, 104, 105, 108, 101, 32, 120, 58, 10], [([10, 48, 10], false), ([48, 32, 41, 10], false), ([46, 120, 32, 41, 10], false), ([41, 10], false), ([48, 32, 93, 10], false), ([46, 120, 32, 93, 10], false), ([48, 32, 58, 48, 32, 125, 10], false), ([48, 32, 125, 10], false), ([46, 120, 32, 125, 10], false), ([46, 120, 32, 10], false), ([59, 10], false), ([48, 32, 10], false), ([48, 39, 39, 39, 10], false), ([48, 34, 34, 34, 10], false), ([48, 32, 125, 34, 10], false), ([46, 120, 32, 125, 34, 10], false), ([32, 120, 10, 10], false), ([32, 120, 10, 102, 105, 110, 97, 108, 108, 121, 58, 48, 10, 10], false), ([10], false), ([101, 120, 99, 101, 112, 116, 58, 48, 10, 10], false), ([], false), ([120, 32, 41, 58, 48, 32, 10, 10], false), ([41, 58, 48, 32, 10, 10], false), ([48, 32, 41, 58, 48, 32, 10, 10], false), ([48, 32, 93, 125, 10], false), ([48, 32, 41, 10, 10], false), ([48, 32, 41, 93, 125, 34, 10], false), ([48, 32, 93, 41, 10], false), ([32, 32, 98, 114, 101, 97, 107, 10, 10], true), ([32, 32, 114, 101, 116, 117, 114, 110, 10, 10], true), ([32, 101, 120, 99, 101, 112, 116, 58, 48, 10, 10], false), ([48, 32, 41, 10, 32, 102, 105, 110, 97, 108, 108, 121, 58, 48, 10, 10], false), ([48, 32, 41, 10, 102, 105, 110, 97, 108, 108, 121, 58, 48, 10, 10], false)])
def ld55 : Ld := ([100, 101, 102, 32, 102, 40, 41, 58, 10, 32, 119, 104, 105, 108, 101, 32, 120, 58, 10, 32, 32, 32, 121, 10], [([120, 10], false), ([48, 32, 41, 10], false), ([46, 120, 32, 41, 10], false), ([41, 10], false), ([48, 32, 93, 10], false), ([46, 120, 32, 93, 10], false), ([48, 32, 58, 48, 32, 125, 10], false), ([48, 32, 125, 10], false), ([46, 120, 32, 125, 10], false), ([46, 120, 32, 10], false), ([59, 10], false), ([48, 32, 10], false), ([48, 39, 39, 39, 10], false), ([48, 34, 34, 34, 10], false), ([48, 32, 125, 34, 10], false), ([46, 120, 32, 125, 34, 10], false), ([10], true), ([101, 108, 115, 101, 58, 48, 10, 10], false), ([32, 120, 10, 10], true), ([], false), ([101, 120, 99, 101, 112, 116, 58, 48, 10, 10], false), ([120, 32, 41, 58, 48, 32, 10, 10], false), ([41, 58, 48, 32, 10, 10], false), ([48, 32, 41, 58, 48, 32, 10, 10], false), ([48, 32, 93, 125, 10], false), ([48, 32, 41, 10, 10], false), ([48, 32, 41, 93, 125, 34, 10], false), ([48, 32, 93, 41, 10], false), ([32, 32, 120, 10, 10], false), ([32, 114, 101, 116, 117, 114, 110, 10, 10], true), ([48, 32, 41, 10, 32, 102, 105, 110, 97, 108, 108, 121, 58, 48, 10, 10], false), ([48, 32, 41, 10, 102, 105, 110, 97, 108, 108, 121, 58, 48, 10, 10], false)])
def ld56 : Ld := ([100, 101, 102, 32, 102, 40, 41, 58, 10, 32, 119, 104, 105, 108, 101, 32, 120, 58, 10, 32, 32, 32, 102, 40, 10], [([41, 10, 10], true), ([41, 59, 114, 101, 116, 117, 114, 110, 59, 10, 10], true), ([48, 32, 41, 10, 10], true), ([41, 46, 120, 61, 48, 32, 10, 10], true), ([46, 120, 39, 39, 39, 10], false), ([46, 120, 34, 34, 34, 10], false), ([], false), ([41, 58, 48, 32, 10, 10], false), ([41, 59, 98, 114, 101, 97, 107, 59, 10, 10], true), ([41, 93, 125, 34, 10], false)])
def ld57 : Ld := ([100, 101, 102, 32, 102, 40, 41, 58, 10, 32, 119, 104, 105, 108, 101, 32, 120, 58, 10, 32, 32, 105, 102, 32, 97, 58, 32, 98, 10], [([120, 10], false), ([48, 32, 41, 10], false), ([46, 120, 32, 41, 10], false), ([41, 10], false), ([48, 32, 93, 10], false), ([46, 120, 32, 93, 10], false), ([48, 32, 58, 48, 32, 125, 10], false), ([48, 32, 125, 10], false), ([46, 120, 32, 125, 10], false), ([46, 120, 32, 10], false), ([59, 10], false), ([48, 32, 10], false), ([48, 39, 39, 39, 10], false), ([48, 34, 34, 34, 10], false), ([48, 32, 125, 34, 10], false), ([46, 120, 32, 125, 34, 10], false), ([10], true), ([101, 108, 115, 101, 58, 48, 10, 10], false), ([32, 120, 10, 10], true), ([], false), ([101, 120, 99, 101, 112, 116, 58, 48, 10, 10], false), ([120, 32, 41, 58, 48, 32, 10, 10], false), ([41, 58, 48, 32, 10, 10], false), ([48, 32, 41, 58, 48, 32, 10, 10], false), ([48, 32, 93, 125, 10], false), ([48, 32, 41, 10, 10], false), ([48, 32, 41, 93, 125, 34, 10], false), ([48, 32, 93, 41, 10], false), ([32, 32, 120, 10, 10], true), ([32, 114, 101, 116, 117, 114, 110, 10, 10], true), ([48, 32, 41, 10, 32, 102, 105, 110, 97, 108, 108, 121, 58, 48, 10, 10], false), ([48, 32, 41, 10, 102, 105, 110, 97, 108, 108, 121, 58, 48, 10, 10], false)])
def ld58 : Ld := ([119, 104, 105, 108, 101, 32, 120, 58, 10, 32, 100, 101, 102, 32, 102, 40, 41, 58, 10], [([10, 48, 10], false), ([48, 32, 41, 10], false), ([46, 120, 32, 41, 10], false), ([41, 10], false), ([48, 32, 93, 10], false), ([46, 120, 32, 93, 10], false), ([48, 32, 58, 48, 32, 125, 10], false), ([48, 32, 125, 10], false), ([46, 120, 32, 125, 10], false), ([46, 120, 32, 10], false), ([59, 10], false), ([48, 32, 10], false), ([48, 39, 39, 39, 10], false), ([48, 34, 34, 34, 10], false), ([48, 32, 125, 34, 10], false), ([46, 120, 32, 125, 34, 10], false), ([32, 120, 10, 10], false), ([32, 120, 10, 102, 105, 110, 97, 108, 108, 121, 58, 48, 10, 10], false), ([10], false), ([101, 120, 99, 101, 112, 116, 58, 48, 10, 10], false), ([], false), ([120, 32, 41, 58, 48, 32, 10, 10], false), ([41, 58, 48, 32, 10, 10], false), ([48, 32, 41, 58, 48, 32, 10, 10], false), ([48, 32, 93, 125, 10], false), ([48, 32, 41, 10, 10], false), ([48, 32, 41, 93, 125, 34, 10], false), ([48, 32, 93, 41, 10], false), ([32, 32, 98, 114, 101, 97, 107, 10, 10], false), ([32, 32, 114, 101, 116, 117, 114, 110, 10, 10], true), ([32, 101, 120, 99, 101, 112, 116, 58, 48, 10, 10], false), ([48, 32, 41, 10, 32, 102, 105, 110, 97, 108, 108, 121, 58, 48, 10, 10], false), ([48, 32, 41, 10, 102, 105, 110, 97, 108, 108, 121, 58, 48, 10, 10], false)])
def ld59 : Ld := ([119, 104, 105, 108, 101, 32, 120, 58, 10, 32, 100, 101, 102, 32, 102, 40, 41, 58, 10, 32, 32, 32, 121, 10], [([120, 10], false), ([48, 32, 41, 10], false), ([46, 120, 32, 41, 10], false), ([41, 10], false), ([48, 32, 93, 10], false), ([46, 120, 32, 93, 10], false), ([48, 32, 58, 48, 32, 125, 10], false), ([48, 32, 125, 10], false), ([46, 120, 32, 125, 10], false), ([46, 120, 32, 10], false), ([59, 10], false), ([48, 32, 10], false), ([48, 39, 39, 39, 10], false), ([48, 34, 34, 34, 10], false), ([48, 32, 125, 34, 10], false), ([46, 120, 32, 125, 34, 10], false), ([10], true), ([101, 108, 115, 101, 58, 48, 10, 10], false), ([32, 120, 10, 10], true), ([], false), ([101, 120, 99, 101, 112, 116, 58, 48, 10, 10], false), ([120, 32, 41, 58, 48, 32, 10, 10], false), ([41, 58, 48, 32, 10, 10], false), ([48, 32, 41, 58, 48, 32, 10, 10], false), ([48, 32, 93, 125, 10], false), ([48, 32, 41, 10, 10], false), ([48, 32, 41, 93, 125, 34, 10], false), ([48, 32, 93, 41, 10], false), ([32, 114, 101, 116, 117, 114, 110, 10, 10], false), ([32, 32, 120, 10, 10], false), ([48, 32, 41, 10, 32, 102, 105, 110, 97, 108, 108, 121, 58, 48, 10, 10], false), ([48, 32, 41, 10, 102, 105, 110, 97, 108, 108, 121, 58, 48, 10, 10], false)])
def ld60 : Ld := ([119, 104, 105, 108, 101, 32, 120, 58, 10, 32, 100, 101, 102, 32, 102, 40, 41, 58, 10, 32, 32, 32, 102, 40, 10], [([41, 10, 10], true), ([41, 59, 114, 101, 116, 117, 114, 110, 59, 10, 10], true), ([48, 32, 41, 10, 10], true), ([41, 46, 120, 61, 48, 32, 10, 10], true), ([46, 120, 39, 39, 39, 10], false), ([46, 120, 34, 34, 34, 10], false), ([], false), ([41, 58, 48, 32, 10, 10], false), ([41, 10, 32, 120, 10, 10], true), ([41, 93, 125, 34, 10], false), ([41, 59, 98, 114, 101, 97, 107, 59, 10, 10], false)])
def ld61 : Ld := ([119, 104, 105, 108, 101, 32, 120, 58, 10, 32, 100, 101, 102, 32, 102, 40, 41, 58, 10, 32, 32, 105, 102, 32, 97, 58, 32, 98, 10], [([120, 10], false), ([48, 32, 41, 10], false), ([46, 120, 32, 41, 10], false), ([41, 10], false), ([48, 32, 93, 10], false), ([46, 120, 32, 93, 10], false), ([48, 32, 58, 48, 32, 125, 10], false), ([48, 32, 125, 10], false), ([46, 120, 32, 125, 10], false), ([46, 120, 32, 10], false), ([59, 10], false), ([48, 32, 10], false), ([48, 39, 39, 39, 10], false), ([48, 34, 34, 34, 10], false), ([48, 32, 125, 34, 10], false), ([46, 120, 32, 125, 34, 10], false), ([10], true), ([101, 108, 115, 101, 58, 48, 10, 10], false), ([32, 120, 10, 10], true), ([], false), ([101, 120, 99, 101, 112, 116, 58, 48, 10, 10], false), ([120, 32, 41, 58, 48, 32, 10, 10], false), ([41, 58, 48, 32, 10, 10], false), ([48, 32, 41, 58, 48, 32, 10, 10], false), ([48, 32, 93, 125, 10], false), ([48, 32, 41, 10, 10], false), ([48, 32, 41, 93, 125, 34, 10], false), ([48, 32, 93, 41, 10], false), ([32, 114, 101, 116, 117, 114, 110, 10, 10], false), ([32, 32, 120, 10, 10], true), ([48, 32, 41, 10, 32, 102, 105, 110, 97, 108, 108, 121, 58, 48, 10, 10], false), ([48, 32, 41, 10, 102, 105, 110, 97, 108, 108, 121, 58, 48, 10, 10], false)])
def ld62 : Ld := ([105, 102, 32, 120, 58, 10, 32, 116, 114, 121, 58, 10], [([10, 48, 10], false), ([48, 32, 41, 10], false), ([46, 120, 32, 41, 10], false), ([41, 10], false), ([48, 32, 93, 10], false), ([46, 120, 32, 93, 10], false), ([48, 32, 58, 48, 32, 125, 10], false), ([48, 32, 125, 10], false), ([46, 120, 32, 125, 10], false), ([46, 120, 32, 10], false), ([59, 10], false), ([48, 32, 10], false), ([48, 39, 39, 39, 10], false), ([48, 34, 34, 34, 10], false), ([48, 32, 125, 34, 10], false), ([46, 120, 32, 125, 34, 10], false), ([32, 120, 10, 10], false), ([32, 120, 10, 102, 105, 110, 97, 108, 108, 121, 58, 48, 10, 10], false), ([10], false), ([101, 120, 99, 101, 112, 116, 58, 48, 10, 10], false), ([], false), ([120, 32, 41, 58, 48, 32, 10, 10], false), ([41, 58, 48, 32, 10, 10], false), ([48, 32, 41, 58, 48, 32, 10, 10], false), ([48, 32, 93, 125, 10], false), ([48, 32, 41, 10, 10], false), ([48, 32, 41, 93, 125, 34, 10], false), ([48, 32, 93, 41, 10], false), ([32, 32, 114, 101, 116, 117, 114, 110, 10, 10], false), ([32, 101, 120, 99, 101, 112, 116, 58, 48, 10, 10], false), ([48, 32, 41, 10, 32, 102, 105, 110, 97, 108, 108, 121, 58, 48, 10, 10], false), ([32, 32, 120, 10, 101, 120, 99, 101, 112, 116, 58, 48, 10, 10], false), ([48, 32, 41, 10, 102, 105, 110, 97, 108, 108, 121, 58, 48, 10, 10], false)])
def ld63 : Ld := ([105, 102, 32, 120, 58, 10, 32, 116, 114, 121, 58, 10, 32, 32, 32, 121, 10], [([10, 48, 10], false), ([48, 32, 41, 10], false), ([46, 120, 32, 41, 10], false), ([41, 10], false), ([48, 32, 93, 10], false), ([46, 120, 32, 93, 10], false), ([48, 32, 58, 48, 32, 125, 10], false), ([48, 32, 125, 10], false), ([46, 120, 32, 125, 10], false), ([46, 120, 32, 10], false), ([59, 10], false), ([48, 32, 10], false), ([48, 39, 39, 39, 10], false), ([48, 34, 34, 34, 10], false), ([48, 32, 125, 34, 10], false), ([46, 120, 32, 125, 34, 10], false), ([32, 120, 10, 10], false), ([32, 120, 10, 102, 105, 110, 97, 108, 108, 121, 58, 48, 10, 10], false), ([10], false), ([101, 120, 99, 101, 112, 116, 58, 48, 10, 10], false), ([], false), ([120, 32, 41, 58, 48, 32, 10, 10], false), ([41, 58, 48, 32, 10, 10], false), ([48, 32, 41, 58, 48, 32, 10, 10], false), ([48, 32, 93, 125, 10], false), ([48, 32, 41, 10, 10], false), ([48, 32, 41, 93, 125, 34, 10], false), ([48, 32, 93, 41, 10], false), ([32, 101, 120, 99, 101, 112, 116, 58, 48, 10, 10], true), ([48, 32, 41, 10, 32, 102, 105, 110, 97, 108, 108, 121, 58, 48, 10, 10], false), ([32, 32, 120, 10, 32, 102, 105, 110, 97, 108, 108, 121, 58, 48, 10, 10], false), ([48, 32, 41, 10, 102, 105, 110, 97, 108, 108, 121, 58, 48, 10, 10], false)])
def ld64 : Ld := ([105, 102, 32, 120, 58, 10, 32, 116, 114, 121, 58, 10, 32, 32, 32, 102, 40, 10], [([41, 10, 32, 102, 105, 110, 97, 108, 108, 121, 58, 48, 10, 10], true), ([41, 10], false), ([48, 32, 41, 10, 32, 102, 105, 110, 97, 108, 108, 121, 58, 48, 10, 10], true), ([41, 46, 120, 61, 48, 32, 10, 32, 102, 105, 110, 97, 108, 108, 121, 58, 48, 10, 10], true), ([46, 120, 39, 39, 39, 10], false), ([46, 120, 34, 34, 34, 10], false), ([], false), ([41, 58, 48, 32, 10, 10], false), ([41, 59, 98, 114, 101, 97, 107, 59, 10, 10], false), ([41, 10, 10], false), ([41, 59, 114, 101, 116, 117, 114, 110, 59, 10, 10], false), ([41, 93, 125, 34, 10], false), ([41, 10, 101, 120, 99, 101, 112, 116, 58, 48, 10, 10], false)])
def ld65 : Ld := ([105, 102, 32, 120, 58, 10, 32, 116, 114, 121, 58, 10, 32, 32, 105, 102, 32, 97, 58, 32, 98, 10], [([10, 48, 10], false), ([48, 32, 41, 10], false), ([46, 120, 32, 41, 10], false), ([41, 10], false), ([48, 32, 93, 10], false), ([46, 120, 32, 93, 10], false), ([48, 32, 58, 48, 32, 125, 10], false), ([48, 32, 125, 10], false), ([46, 120, 32, 125, 10], false), ([46, 120, 32, 10], false), ([59, 10], false), ([48, 32, 10], false), ([48, 39, 39, 39, 10], false), ([48, 34, 34, 34, 10], false), ([48, 32, 125, 34, 10], false), ([46, 120, 32, 125, 34, 10], false), ([32, 120, 10, 10], false), ([32, 120, 10, 102, 105, 110, 97, 108, 108, 121, 58, 48, 10, 10], false), ([10], false), ([101, 120, 99, 101, 112, 116, 58, 48, 10, 10], false), ([], false), ([120, 32, 41, 58, 48, 32, 10, 10], false), ([41, 58, 48, 32, 10, 10], false), ([48, 32, 41, 58, 48, 32, 10, 10], false), ([48, 32, 93, 125, 10], false), ([48, 32, 41, 10, 10], false), ([48, 32, 41, 93, 125, 34, 10], false), ([48, 32, 93, 41, 10], false), ([32, 101, 120, 99, 101, 112, 116, 58, 48, 10, 10], true), ([32, 32, 120, 10, 32, 102, 105, 110, 97, 108, 108, 121, 58, 48, 10, 10], true), ([48, 32, 41, 10, 32, 102, 105, 110, 97, 108, 108, 121, 58, 48, 10, 10], false), ([48, 32, 41, 10, 102, 105, 110, 97, 108, 108, 121, 58, 48, 10, 10], false)])
def ld66 : Ld := ([116, 114, 121, 58, 10, 32, 105, 102, 32, 120, 58, 10], [([10, 48, 10], false), ([48, 32, 41, 10], false), ([46, 120, 32, 41, 10], false), ([41, 10], false), ([48, 32, 93, 10], false), ([46, 120, 32, 93, 10], false), ([48, 32, 58, 48, 32, 125, 10], false), ([48, 32, 125, 10], false), ([46, 120, 32, 125, 10], false), ([46, 120, 32, 10], false), ([59, 10], false), ([48, 32, 10], false), ([48, 39, 39, 39, 10], false), ([48, 34, 34, 34, 10], false), ([48, 32, 125, 34, 10], false), ([46, 120, 32, 125, 34, 10], false), ([32, 120, 10, 10], false), ([32, 120, 10, 102, 105, 110, 97, 108, 108, 121, 58, 48, 10, 10], false), ([10], false), ([101, 120, 99, 101, 112, 116, 58, 48, 10, 10], false), ([], false), ([120, 32, 41, 58, 48, 32, 10, 10], false), ([41, 58, 48, 32, 10, 10], false), ([48, 32, 41, 58, 48, 32, 10, 10], false), ([48, 32, 93, 125, 10], false), ([48, 32, 41, 10, 10], false), ([48, 32, 41, 93, 125, 34, 10], false), ([48, 32, 93, 41, 10], false), ([32, 32, 114, 101, 116, 117, 114, 110, 10, 10], false), ([32, 32, 120, 10, 101, 120, 99, 101, 112, 116, 58, 48, 10, 10], true), ([32, 101, 120, 99, 101, 112, 116, 58, 48, 10, 10], false), ([48, 32, 41, 10, 32, 102, 105, 110, 97, 108, 108, 121, 58, 48, 10, 10], false), ([48, 32, 41, 10, 102, 105, 110, 97, 108, 108, 121, 58, 48, 10, 10], false)])
def ld67 : Ld := ([116, 114, 121, 58, 10, 32, 105, 102, 32, 120, 58, 10, 32, 32, 32, 121, 10], [([10, 48, 10], false), ([48, 32, 41, 10], false), ([46, 120, 32, 41, 10], false), ([41, 10], false), ([48, 32, 93, 10], false), ([46, 120, 32, 93, 10], false), ([48, 32, 58, 48, 32, 125, 10], false), ([48, 32, 125, 10], false), ([46, 120, 32, 125, 10], false), ([46, 120, 32, 10], false), ([59, 10], false), ([48, 32, 10], false), ([48, 39, 39, 39, 10], false), ([48, 34, 34, 34, 10], false), ([48, 32, 125, 34, 10], false), ([46, 120, 32, 125, 34, 10], false), ([101, 120, 99, 101, 112, 116, 58, 48, 10, 10], true), ([10], false), ([32, 120, 10, 102, 105, 110, 97, 108, 108, 121, 58, 48, 10, 10], true), ([], false), ([120, 32, 41, 58, 48, 32, 10, 10], false), ([41, 58, 48, 32, 10, 10], false), ([48, 32, 41, 58, 48, 32, 10, 10], false), ([48, 32, 93, 125, 10], false), ([48, 32, 41, 10, 10], false), ([48, 32, 41, 93, 125, 34, 10], false), ([48, 32, 93, 41, 10], false), ([48, 32, 41, 10, 32, 102, 105, 110, 97, 108, 108, 121, 58, 48, 10, 10], false), ([48, 32, 41, 10, 102, 105, 110, 97, 108, 108, 121, 58, 48, 10, 10], false), ([32, 32, 120, 10, 102, 105, 110, 97, 108, 108, 121, 58, 48, 10, 10], false)])
def ld68 : Ld := ([116, 114, 121, 58, 10, 32, 105, 102, 32, 120, 58, 10, 32, 32, 32, 102, 40, 10], [([41, 10, 102, 105, 110, 97, 108, 108, 121, 58, 48, 10, 10], true), ([41, 10], false), ([48, 32, 41, 10, 102, 105, 110, 97, 108, 108, 121, 58, 48, 10, 10], true), ([41, 46, 120, 61, 48, 32, 10, 102, 105, 110, 97, 108, 108, 121, 58, 48, 10, 10], true), ([46, 120, 39, 39, 39, 10], false), ([46, 120, 34, 34, 34, 10], false), ([], false), ([41, 58, 48, 32, 10, 10], false), ([41, 59, 98, 114, 101, 97, 107, 59, 10, 10], false), ([41, 10, 10], false), ([41, 59, 114, 101, 116, 117, 114, 110, 59, 10, 10], false), ([41, 93, 125, 34, 10], false), ([41, 10, 101, 120, 99, 101, 112, 116, 58, 48, 10, 10], true)])
def ld69 : Ld := ([116, 114, 121, 58, 10, 32, 105, 102, 32, 120, 58, 10, 32, 32, 105, 102, 32, 97, 58, 32, 98, 10], [([10, 48, 10], false), ([48, 32, 41, 10], false), ([46, 120, 32, 41, 10], false), ([41, 10], false), ([48, 32, 93, 10], false), ([46, 120, 32, 93, 10], false), ([48, 32, 58, 48, 32, 125, 10], false), ([48, 32, 125, 10], false), ([46, 120, 32, 125, 10], false), ([46, 120, 32, 10], false), ([59, 10], false), ([48, 32, 10], false), ([48, 39, 39, 39, 10], false), ([48, 34, 34, 34, 10], false), ([48, 32, 125, 34, 10], false), ([46, 120, 32, 125, 34, 10], false), ([101, 120, 99, 101, 112, 116, 58, 48, 10, 10], true), ([10], false), ([32, 120, 10, 102, 105, 110, 97, 108, 108, 121, 58, 48, 10, 10], true), ([], false), ([120, 32, 41, 58, 48, 32, 10, 10], false), ([41, 58, 48, 32, 10, 10], false), ([48, 32, 41, 58, 48, 32, 10, 10], false), ([48, 32, 93, 125, 10], false), ([48, 32, 41, 10, 10], false), ([48, 32, 41, 93, 125, 34, 10], false), ([48, 32, 93, 41, 10], false), ([48, 32, 41, 10, 32, 102, 105, 110, 97, 108, 108, 121, 58, 48, 10, 10], false), ([32, 32, 120, 10, 102, 105, 110, 97, 108, 108, 121, 58, 48, 10, 10], true), ([48, 32, 41, 10, 102, 105, 110, 97, 108, 108, 121, 58, 48, 10, 10], false)])
def lds : List Ld := [ld0, ld1, ld2, ld3, ld4, ld5, ld6, ld7, ld8, ld9, ld10, ld11, ld12, ld13, ld14, ld15, ld16, ld17, ld18, ld19, ld20, ld21, ld22, ld23, ld24, ld25, ld26, ld27, ld28, ld29, ld30, ld31, ld32, ld33, ld34, ld35, ld36, ld37, ld38, ld39, ld40, ld41, ld42, ld43, ld44, ld45, ld46, ld47, ld48, ld49, ld50, ld51, ld52, ld53, ld54, ld55, ld56, ld57, ld58, ld59, ld60, ld61, ld62, ld63, ld64, ld65, ld66, ld67, ld68, ld69]
end
end Rp
set_option Elab.async false
set_option linter.all false
set_option maxRecDepth 100000
set_option maxHeartbeats 0
namespace Rp
noncomputable section
open PySem PySem.Spec PyProof.Rows L2 SX
theorem leads_eq : m_l_leads [] = some (.lst (lds.map fun x => .str x.1)) := by kernel_rfl
theorem rest_eq : b_law_rest (List.replicate 6 none) = some (.rt (.bl true)) := by kernel_rfl
end
end Rp
set_option Elab.async false
set_option linter.all false
set_option maxRecDepth 100000
set_option maxHeartbeats 0
namespace Rp
noncomputable section
open PySem PySem.Spec PyProof.Rows L2 SX
theorem tab0 : allT okTab [ld0, ld1] = true := by decide +kernel
theorem tab1 : allT okTab [ld2, ld3] = true := by decide +kernel
theorem tab2 : allT okTab [ld4, ld5] = true := by decide +kernel
theorem tab3 : allT okTab [ld6, ld7] = true := by decide +kernel
theorem tab4 : allT okTab [ld8, ld9] = true := by decide +kernel
end
end Rp
set_option Elab.async false
set_option linter.all false
set_option maxRecDepth 100000
set_option maxHeartbeats 0
namespace Rp
noncomputable section
open PySem PySem.Spec PyProof.Rows L2 SX
theorem tab5 : allT okTab [ld10, ld11] = true := by decide +kernel
theorem tab6 : allT okTab [ld12, ld13] = true := by decide +kernel
theorem tab7 : allT okTab [ld14, ld15] = true := by decide +kernel
theorem tab8 : allT okTab [ld16, ld17] = true := by decide +kernel
theorem tab9 : allT okTab [ld18, ld19] = true := by decide +kernel
end
end Rp
set_option Elab.async false
set_option linter.all false
set_option maxRecDepth 100000
set_option maxHeartbeats 0
namespace Rp
noncomputable section
open PySem PySem.Spec PyProof.Rows L2 SX
theorem tab10 : allT okTab [ld20, ld21] = true := by decide +kernel
theorem tab11 : allT okTab [ld22, ld23] = true := by decide +kernel
theorem tab12 : allT okTab [ld24, ld25] = true := by decide +kernel
theorem tab13 : allT okTab [ld26, ld27] = true := by decide +kernel
theorem tab14 : allT okTab [ld28, ld29] = true := by decide +kernel
end
end Rp
set_option Elab.async false
set_option linter.all false
set_option maxRecDepth 100000
set_option maxHeartbeats 0
namespace Rp
noncomputable section
open PySem PySem.Spec PyProof.Rows L2 SX
theorem tab15 : allT okTab [ld30, ld31] = true := by decide +kernel
theorem tab16 : allT okTab [ld32, ld33] = true := by decide +kernel
theorem tab17 : allT okTab [ld34, ld35] = true := by decide +kernel
theorem tab18 : allT okTab [ld36, ld37] = true := by decide +kernel
theorem tab19 : allT okTab [ld38, ld39] = true := by decide +kernel
end
end Rp
set_option Elab.async false
set_option linter.all false
set_option maxRecDepth 100000
set_option maxHeartbeats 0
namespace Rp
noncomputable section
open PySem PySem.Spec PyProof.Rows L2 SX
theorem tab20 : allT okTab [ld40, ld41] = true := by decide +kernel
theorem tab21 : allT okTab [ld42, ld43] = true := by decide +kernel
theorem tab22 : allT okTab [ld44, ld45] = true := by decide +kernel
theorem tab23 : allT okTab [ld46, ld47] = true := by decide +kernel
theorem tab24 : allT okTab [ld48, ld49] = true := by decide +kernel
end
end Rp
set_option Elab.async false
set_option linter.all false
set_option maxRecDepth 100000
set_option maxHeartbeats 0
namespace Rp
noncomputable section
open PySem PySem.Spec PyProof.Rows L2 SX
theorem tab25 : allT okTab [ld50, ld51] = true := by decide +kernel
theorem tab26 : allT okTab [ld52, ld53] = true := by decide +kernel
theorem tab27 : allT okTab [ld54, ld55] = true := by decide +kernel
theorem tab28 : allT okTab [ld56, ld57] = true := by decide +kernel
theorem tab29 : allT okTab [ld58, ld59] = true := by decide +kernel
end
end Rp
set_option Elab.async false
set_option linter.all false
set_option maxRecDepth 100000
set_option maxHeartbeats 0
namespace Rp
noncomputable section
open PySem PySem.Spec PyProof.Rows L2 SX
theorem tab30 : allT okTab [ld60, ld61] = true := by decide +kernel
theorem tab31 : allT okTab [ld62, ld63] = true := by decide +kernel
theorem tab32 : allT okTab [ld64, ld65] = true := by decide +kernel
theorem tab33 : allT okTab [ld66, ld67] = true := by decide +kernel
theorem tab34 : allT okTab [ld68, ld69] = true := by decide +kernel
end
end Rp
set_option Elab.async false
set_option linter.all false
set_option maxRecDepth 100000
set_option maxHeartbeats 0
namespace Rp
noncomputable section
open PySem PySem.Spec PyProof.Rows L2 SX
theorem row0 : allT (okRow lds) [ld0, ld1, ld2, ld3] = true := by decide +kernel
theorem row1 : allT (okRow lds) [ld4, ld5, ld6, ld7] = true := by decide +kernel
theorem row2 : allT (okRow lds) [ld8, ld9, ld10, ld11] = true := by decide +kernel
theorem row3 : allT (okRow lds) [ld12, ld13, ld14, ld15] = true := by decide +kernel
theorem row4 : allT (okRow lds) [ld16, ld17, ld18, ld19] = true := by decide +kernel
theorem row5 : allT (okRow lds) [ld20, ld21, ld22, ld23] = true := by decide +kernel
theorem row6 : allT (okRow lds) [ld24, ld25, ld26, ld27] = true := by decide +kernel
theorem row7 : allT (okRow lds) [ld28, ld29, ld30, ld31] = true := by decide +kernel
theorem row8 : allT (okRow lds) [ld32, ld33, ld34, ld35] = true := by decide +kernel
theorem row9 : allT (okRow lds) [ld36, ld37, ld38, ld39] = true := by decide +kernel
theorem row10 : allT (okRow lds) [ld40, ld41, ld42, ld43] = true := by decide +kernel
theorem row11 : allT (okRow lds) [ld44, ld45, ld46, ld47] = true := by decide +kernel
theorem row12 : allT (okRow lds) [ld48, ld49, ld50, ld51] = true := by decide +kernel
theorem row13 : allT (okRow lds) [ld52, ld53, ld54, ld55] = true := by decide +kernel
theorem row14 : allT (okRow lds) [ld56, ld57, ld58, ld59] = true := by decide +kernel
theorem row15 : allT (okRow lds) [ld60, ld61, ld62, ld63] = true := by decide +kernel
theorem row16 : allT (okRow lds) [ld64, ld65, ld66, ld67] = true := by decide +kernel
theorem row17 : allT (okRow lds) [ld68, ld69] = true := by decide +kernel
end
end Rp
set_option Elab.async false
set_option linter.all false
set_option maxRecDepth 100000
set_option maxHeartbeats 0
namespace Rp
noncomputable section
open PySem PySem.Spec PyProof.Rows L2 SX
end
end Rp
set_option Elab.async false
set_option linter.all false
set_option maxRecDepth 100000
set_option maxHeartbeats 0
namespace Rp
noncomputable section
open PySem PySem.Spec PyProof.Rows L2 SX
end
end Rp
set_option Elab.async false
set_option linter.all false
set_option maxRecDepth 100000
set_option maxHeartbeats 0
namespace Rp
noncomputable section
open PySem PySem.Spec PyProof.Rows L2 SX
end
end Rp
set_option Elab.async false
set_option linter.all false
set_option maxRecDepth 100000
set_option maxHeartbeats 0
namespace Rp
noncomputable section
open PySem PySem.Spec PyProof.Rows L2 SX
end
end Rp
set_option Elab.async false
set_option linter.all false
set_option maxRecDepth 100000
set_option maxHeartbeats 0
namespace Rp
noncomputable section
open PySem PySem.Spec PyProof.Rows L2 SX
end
end Rp
set_option Elab.async false
set_option linter.all false
set_option maxRecDepth 100000
set_option maxHeartbeats 0
namespace Rp
noncomputable section
open PySem PySem.Spec PyProof.Rows L2 SX
end
end Rp
set_option Elab.async false
set_option linter.all false
set_option maxRecDepth 100000
set_option maxHeartbeats 0
namespace Rp
noncomputable section
open PySem PySem.Spec PyProof.Rows L2 SX
theorem allT2 {α : Type} {p : α → Bool} {a b : α} {r : List α} (h : allT p [a, b] = true) (hr : allT p r = true) : allT p (a :: b :: r) = true := by
  have h' : cnd (p a) (cnd (p b) true false) false = true := h
  obtain ⟨h1, h2⟩ := cnd_and h'
  obtain ⟨h3, _⟩ := cnd_and h2
  show cnd (p a) (cnd (p b) (allT p r) false) false = true
  rw [h1, h3, hr]
  rfl
theorem fin : Fin := by
  have hr : ∀ x ∈ lds, okRow lds x = true := by
    intro x hx
    have h : allT (okRow lds) ((((((((((((((((([ld0, ld1, ld2, ld3] ++ [ld4, ld5, ld6, ld7]) ++ [ld8, ld9, ld10, ld11]) ++ [ld12, ld13, ld14, ld15]) ++ [ld16, ld17, ld18, ld19]) ++ [ld20, ld21, ld22, ld23]) ++ [ld24, ld25, ld26, ld27]) ++ [ld28, ld29, ld30, ld31]) ++ [ld32, ld33, ld34, ld35]) ++ [ld36, ld37, ld38, ld39]) ++ [ld40, ld41, ld42, ld43]) ++ [ld44, ld45, ld46, ld47]) ++ [ld48, ld49, ld50, ld51]) ++ [ld52, ld53, ld54, ld55]) ++ [ld56, ld57, ld58, ld59]) ++ [ld60, ld61, ld62, ld63]) ++ [ld64, ld65, ld66, ld67]) ++ [ld68, ld69]) = true := by
      refine allT_of fun x hx => ?_
      simp only [List.mem_append] at hx
      rcases hx with (((((((((((((((((h | h) | h) | h) | h) | h) | h) | h) | h) | h) | h) | h) | h) | h) | h) | h) | h) | h)
      · exact allT_mem row0 x h
      · exact allT_mem row1 x h
      · exact allT_mem row2 x h
      · exact allT_mem row3 x h
      · exact allT_mem row4 x h
      · exact allT_mem row5 x h
      · exact allT_mem row6 x h
      · exact allT_mem row7 x h
      · exact allT_mem row8 x h
      · exact allT_mem row9 x h
      · exact allT_mem row10 x h
      · exact allT_mem row11 x h
      · exact allT_mem row12 x h
      · exact allT_mem row13 x h
      · exact allT_mem row14 x h
      · exact allT_mem row15 x h
      · exact allT_mem row16 x h
      · exact allT_mem row17 x h
    exact allT_mem h x hx
  have ht : ∀ x ∈ lds, okTab x = true := by
    have h : allT okTab lds = true := (allT2 tab0 (allT2 tab1 (allT2 tab2 (allT2 tab3 (allT2 tab4 (allT2 tab5 (allT2 tab6 (allT2 tab7 (allT2 tab8 (allT2 tab9 (allT2 tab10 (allT2 tab11 (allT2 tab12 (allT2 tab13 (allT2 tab14 (allT2 tab15 (allT2 tab16 (allT2 tab17 (allT2 tab18 (allT2 tab19 (allT2 tab20 (allT2 tab21 (allT2 tab22 (allT2 tab23 (allT2 tab24 (allT2 tab25 (allT2 tab26 (allT2 tab27 (allT2 tab28 (allT2 tab29 (allT2 tab30 (allT2 tab31 (allT2 tab32 (allT2 tab33 (allT2 tab34 rfl)))))))))))))))))))))))))))))))))))
    exact allT_mem h
  have ok := all_ok ht hr
  refine ⟨⟨lds.map (·.1), ?_, ?_, ?_, fun a ha b hb => ?_⟩, rest_eq⟩
  · rw [leads_eq, List.map_map]
    rfl
  · exact List.cons_ne_nil _ _
  · exact Nat.le_of_ble_eq_true rfl
  · obtain ⟨x, hx, rfl⟩ := List.mem_map.mp ha
    obtain ⟨y, hy, rfl⟩ := List.mem_map.mp hb
    exact ok x hx y hy
end
end Rp
set_option Elab.async false
set_option linter.all false
set_option maxRecDepth 100000
set_option maxHeartbeats 0
namespace Rp
open PySem PySem.Spec PyProof.Rows L2 SX
abbrev R0 : PySem.W.OpenRow := PySem.W.OpenLaw.row PySem.Challenge.rw_replinput_k34_whole_differences_judged
def names0 : List Str := ["__name__", "ReaderError", "NotLead", "KEYWORDS", "LETTERS", "DIGITS_signs", "OTHERS", "consists_of", "is_text", "DIGITS_states", "BINARY_WORDS", "HEADERS", "CHAINS", "DONE", "STARTS", "OPERANDS", "LINE_ENDS", "ANY_WORD", "CLAUSES", "CLOSERS", "State"]
def names1 : List Str := ["with_clauses", "after_line", "after_empty_line", "line_begun", "small_begun", "header_begun", "after_word", "may_assign", "after_short", "after_long", "after_template", "after_operator", "after_word_sign", "after_number", "after_quote", "after_token", "after_operand_sign", "after_comma", "after_colon", "after_done_sign", "after_code_sign", "after_start_sign", "after_plain", "next_state"]
def names2 : List Str := ["state_behind", "state_of", "is_entry_state", "NAMES", "run_on", "word_end", "token_end", "line_start", "phase_end", "completion_of", "PIECES", "WORDS", "ROWS", "lead_state", "need_lead", "are_alike", "rows_for", "pieces_for", "told_apart", "nearest", "difference"]
def names3 : List Str := ["_law_begin", "_law_mixed", "_law_next", "_law_pick", "_law_leads", "_law_word_end", "_law_string_end", "_law_template_end", "_law_token", "_law_lexed", "_law_items", "_law_primary", "_law_expr", "_law_simple", "_law_clause", "_law_statement", "_law_is_entry", "_law_told_right"]
def names : List Str := names0 ++ names1 ++ names2 ++ names3
abbrev hk : PySem.W.Hook := hookR
def ob (s : PySem.W.SharedT) : He.AlT × Bool := obsR (HandSHeadRun.getT s)
theorem ob_eq (s : PySem.W.SharedT) : ob s = hk.obs s.abs := obsR_eq (HandSHeadRun.getT_eq s)
theorem runF0 (w : World) : HandSHeadRun.RunEq R0 (PySem.W.view R0.prog [90]) hk ob 4000 names (w.withFollow "special-get-raises" false) := by
  intro os
  kernel_rfl
theorem runT0 (w : World) : HandSHeadRun.RunEq R0 (PySem.W.view R0.prog [90]) hk ob 4000 names (w.withFollow "special-get-raises" true) := by
  intro os
  kernel_rfl
theorem runH (w : World) : HandSHeadRun.RunEq R0 (PySem.W.view R0.prog [90]) hk ob 4000 names w :=
  PySem.W.byRow2 "special-get-raises" runF0 runT0 w
end Rp
open PySem PySem.W PySem.Calls PyProof.Rows
theorem PySem.Challenge.cw_replinput_k34_whole_differences_judged_holds : PySem.Challenge.rw_replinput_k34_whole_differences_judged.Holds := by
  w_on; o_law
  refine HandSHeadRun.head_any (r := OpenLaw.row PySem.Challenge.rw_replinput_k34_whole_differences_judged) (q := view (OpenLaw.row PySem.Challenge.rw_replinput_k34_whole_differences_judged).prog [90]) (H := Rp.hk) (ob := Rp.ob) (M := 4000) (loose := Rp.names) (d := HandSHeadRun.topDef (OpenLaw.row PySem.Challenge.rw_replinput_k34_whole_differences_judged).prog 90) (kwd := []) Rp.ob_eq
    (by kernel_rfl) (fun s => by kernel_rfl) Rp.runH (by kernel_rfl) (by kernel_rfl) (by kernel_rfl) (by rfl) (by first | assumption | decide +kernel) (by decide +kernel) ⟨rfl, rfl, rfl, rfl, rfl, by decide +kernel⟩ ?hw ?hc
  case hw => w_witness2
  case hc =>
    refine L2.walk_ofE (l := PySem.Challenge.rw_replinput_k34_whole_differences_judged) (n := 63) (k := 102) (x := "_law_script") (CX := L2.CX0) rfl (by decide) (by kernel_rfl) ⟨rfl, by decide, by decide⟩ ?F (fun _ _ _ _ z => z)
    intro w mg fa h Y G hmg0
    obtain ⟨K, KX, c, cm⟩ := Y
    have hmg : mg ("law" : PySem.Str) = some (.ref fa) := by
      have e : (HandSHeadRun.topDef (OpenLaw.row PySem.Challenge.rw_replinput_k34_whole_differences_judged).prog 90).name = ("law" : PySem.Str) := by kernel_rfl
      rw [← e]
      exact hmg0
    have T0 := Rp.mkTop (P := (PySem.Challenge.rw_replinput_k34_whole_differences_judged).prog) (w := w) (base := h) KX G c cm
    obtain ⟨f, fd, F, hf⟩ := T0.d_law.ex
    have ef : f = fa := by
      rw [hmg] at hf
      cases hf
      rfl
    subst ef
    have b := L2.FunD.bindsA (ps := ["_law_script"]) F fun _ _ _ _ _ _ us hl => match us, hl with | [_], _ => rfl
    exact ⟨K, fd, Rp.spLaw K, KX, fun s v => b s [v] rfl, fun H a ns hl _ hS => ⟨a, ns, rfl, hS, hl, fun _ => rfl⟩, fun base _ _ => Rp.F_law (Rp.mkTop KX G c cm) Rp.fin F⟩
