import PyProof.Rows.All
import Wide.All
import OpenK.AllK
import Wide.FinOn
import PySem.Challenge.RW_tk0031_01
set_option Elab.async false
set_option maxRecDepth 100000
set_option maxHeartbeats 8000000
set_option linter.unusedVariables false

open PySem PySem.W PyProof.Rows in
open_top hd for PySem.Challenge.rw_tk0031_01

namespace Mine
open PySem PySem.W PySem.Calls PyProof.Rows PySem.Spec PyProof.V

inductive V where
  | undef
  | none
  | bool (b : Bool)
  | int (i : Int)
  | ref (k : Nat)

inductive C where
  | tup (vs : List V)
  | lst (vs : List V)
  | cel (v : V)
  | hid (c : C)

abbrev Hp := List (Nat × C)

structure Ad where
  f : Nat → Addr
  n : Nat

def Ad.le (P P' : Ad) : Prop := P.n ≤ P'.n ∧ ∀ k, k < P.n → P'.f k = P.f k
theorem Ad.le.refl (P : Ad) : P.le P := ⟨Nat.le_refl _, fun _ _ => rfl⟩
theorem Ad.le.trans {P P' P'' : Ad} (h : P.le P') (h' : P'.le P'') : P.le P'' :=
  ⟨Nat.le_trans h.1 h'.1, fun k hk => (h'.2 k (Nat.lt_of_lt_of_le hk h.1)).trans (h.2 k hk)⟩

inductive VR (P : Ad) : V → Value → Prop
  | none : VR P .none .none
  | bool (b : Bool) : VR P (.bool b) (.bool b)
  | int (i : Int) (t : Tok) : VR P (.int i) (.int i t)
  | ref {k : Nat} {a : Addr} : k < P.n → a = P.f k → VR P (.ref k) (.ref a)
inductive VRs (P : Ad) : List V → List Value → Prop
  | nil : VRs P [] []
  | cons {v w vs ws} : VR P v w → VRs P vs ws → VRs P (v :: vs) (w :: ws)

theorem VR.mono {P P' : Ad} (l : P.le P') {v : V} {w : Value} : VR P v w → VR P' v w
  | .none => .none
  | .bool b => .bool b
  | .int i t => .int i t
  | .ref h e => .ref (Nat.lt_of_lt_of_le h l.1) (e.trans (l.2 _ h).symm)
theorem VRs.mono {P P' : Ad} (l : P.le P') : ∀ {vs : List V} {ws : List Value}, VRs P vs ws → VRs P' vs ws
  | _, _, .nil => .nil
  | _, _, .cons h r => .cons (h.mono l) (VRs.mono l r)
theorem VRs.length {P : Ad} : ∀ {vs : List V} {ws : List Value}, VRs P vs ws → vs.length = ws.length
  | _, _, .nil => rfl
  | _, _, .cons _ r => congrArg (· + 1) (VRs.length r)
theorem VRs.append {P : Ad} : ∀ {vs : List V} {ws : List Value} {vs' : List V} {ws' : List Value}, VRs P vs ws → VRs P vs' ws' → VRs P (vs ++ vs') (ws ++ ws')
  | _, _, _, _, .nil, h => h
  | _, _, _, _, .cons a r, h => .cons a (VRs.append r h)
theorem VRs.get {P : Ad} : ∀ {vs : List V} {ws : List Value} {i : Nat} {v : V}, VRs P vs ws → vs[i]? = some v → ∃ w, ws[i]? = some w ∧ VR P v w
  | _, _, _, _, .nil, h => by simp at h
  | _, _, 0, _, .cons a _, h => by
    simp only [List.getElem?_cons_zero, Option.some.injEq] at h
    subst h
    exact ⟨_, rfl, a⟩
  | _, _, i + 1, _, .cons _ r, h => by
    simp only [List.getElem?_cons_succ] at h
    obtain ⟨w, hw, hv⟩ := VRs.get r h
    exact ⟨w, by simpa using hw, hv⟩
theorem VRs.set {P : Ad} {v : V} {w : Value} (hv : VR P v w) : ∀ {vs : List V} {ws : List Value} {i : Nat}, VRs P vs ws → VRs P (vs.set i v) (ws.set i w)
  | _, _, _, .nil => .nil
  | _, _, 0, .cons _ r => .cons hv r
  | _, _, _ + 1, .cons a r => .cons a (VRs.set hv r)
theorem VRs.take {P : Ad} : ∀ {vs : List V} {ws : List Value} (i : Nat), VRs P vs ws → VRs P (vs.take i) (ws.take i)
  | _, _, 0, _ => .nil
  | _, _, _ + 1, .nil => .nil
  | _, _, i + 1, .cons a r => .cons a (VRs.take i r)
theorem VRs.drop {P : Ad} : ∀ {vs : List V} {ws : List Value} (i : Nat), VRs P vs ws → VRs P (vs.drop i) (ws.drop i)
  | _, _, 0, h => h
  | _, _, _ + 1, .nil => .nil
  | _, _, i + 1, .cons _ r => VRs.drop i r

inductive OR (P : Ad) : C → Obj → Prop
  | tup {vs : List V} {o : Obj} (ws : List Value) (n : Nat) : o.cls = .type "tuple" → o.data = .seq ws.toArray n → VRs P vs ws → OR P (.tup vs) o
  | lst {vs : List V} (ws : List Value) (n : Nat) : VRs P vs ws → OR P (.lst vs) (listOf ws.toArray n)
  | cel0 {o : Obj} : o.data = .cell Option.none → OR P (.cel .undef) o
  | cel {v : V} {o : Obj} (w : Value) : o.data = .cell (some w) → VR P v w → OR P (.cel v) o
theorem OR.mono {P P' : Ad} (l : P.le P') {c : C} {o : Obj} : OR P c o → OR P' c o
  | .tup ws n a b r => .tup ws n a b (r.mono l)
  | .lst ws n r => .lst ws n (r.mono l)
  | .cel0 h => .cel0 h
  | .cel w h r => .cel w h (r.mono l)

def look : Hp → Nat → Option C
  | [], _ => Option.none
  | p :: r, k => if p.1 = k then some p.2 else look r k
def upd : Hp → Nat → C → Hp
  | [], _, _ => []
  | p :: r, k, c => if p.1 = k then (k, c) :: r else p :: upd r k c
def nxt : Hp → Nat
  | [] => 0
  | p :: _ => p.1 + 1
theorem nxt_upd (hp : Hp) (k : Nat) (c : C) : nxt (upd hp k c) = nxt hp := by
  cases hp with
  | nil => rfl
  | cons p r =>
    unfold upd
    split
    · rename_i e; simp [nxt, e]
    · rfl
theorem look_upd (hp : Hp) (k : Nat) (c : C) (j : Nat) : look (upd hp k c) j = if j = k then (look hp k).map (fun _ => c) else look hp j := by
  induction hp with
  | nil => simp [upd, look]
  | cons p r ih =>
    unfold upd
    by_cases e : p.1 = k
    · rw [if_pos e]
      unfold look
      by_cases h : j = k
      · subst h; simp [e]
      · rw [if_neg (fun q => h q.symm), if_neg h, if_neg (fun q => h (q.symm.trans e))]
    · rw [if_neg e]
      unfold look
      by_cases h : p.1 = j
      · have : j ≠ k := fun q => e (h.trans q)
        rw [if_pos h, if_neg this, if_pos h]
      · rw [if_neg h, ih, if_neg h, if_neg e]

/-- what stands at a key: an object as told, or (hidden) the very object that is named beside -/
inductive ORk (frz : (Nat → Option Obj)) (P : Ad) (k : Nat) : C → Obj → Prop
  | hid {c : C} {o : Obj} : frz k = some o → OR P c o → ORk frz P k (.hid c) o
  | of {c : C} {o : Obj} : OR P c o → ORk frz P k c o
theorem ORk.mono {frz : (Nat → Option Obj)} {P P' : Ad} (l : P.le P') {k : Nat} {c : C} {o : Obj} : ORk frz P k c o → ORk frz P' k c o
  | .hid h r => .hid h (r.mono l)
  | .of h => .of (h.mono l)
theorem ORk.out {frz : (Nat → Option Obj)} {P : Ad} {k : Nat} {c : C} {o : Obj} (hn : ∀ c', c ≠ .hid c') : ORk frz P k c o → OR P c o
  | .hid _ _ => absurd rfl (hn _)
  | .of h => h

structure Rel (h₀ : Heap) (L : Addr) (m : Str → Option Value) (fix : List (Addr × Obj)) (frz : (Nat → Option Obj)) (P : Ad) (hp : Hp) (h : Heap) : Prop where
  fr : Fr h₀ L h m
  fx : News h₀ L h fix
  live : ∀ k, k < P.n → P.f k ≠ L ∧ h₀.get? (P.f k) = Option.none ∧ (∀ q ∈ fix, q.1 ≠ P.f k) ∧ ∃ o, h.get? (P.f k) = some o
  inj : ∀ i j, i < P.n → j < P.n → P.f i = P.f j → i = j
  own : ∀ k c, look hp k = some c → k < P.n ∧ ∃ o, h.get? (P.f k) = some o ∧ ORk frz P k c o
  nx : nxt hp = P.n

section
variable {h₀ h h' : Heap} {L : Addr} {m : Str → Option Value} {fix : List (Addr × Obj)} {frz : (Nat → Option Obj)} {P : Ad} {hp : Hp}
theorem Rel.keeps (R : Rel h₀ L m fix frz P hp h) (k : ∀ b o, h.get? b = some o → h'.get? b = some o) : Rel h₀ L m fix frz P hp h' where
  fr := R.fr.keeps k
  fx := R.fx.grown k
  live := fun i hi => let ⟨a, b, c, o, e⟩ := R.live i hi; ⟨a, b, c, o, k _ _ e⟩
  inj := R.inj
  own := fun i c hc => let ⟨a, o, e, r⟩ := R.own i c hc; ⟨a, o, k _ _ e, r⟩
  nx := R.nx
theorem Rel.push (R : Rel h₀ L m fix frz P hp h) (o : Obj) : Rel h₀ L m fix frz P hp (h.push o) := R.keeps fun _ _ e => Heap.get?_push_of_some _ e

/-- the map with one key more -/
def Ad.ext (P : Ad) (a : Addr) : Ad := ⟨fun k => if k = P.n then a else P.f k, P.n + 1⟩
theorem Ad.le_ext (P : Ad) (a : Addr) : P.le (P.ext a) := ⟨Nat.le_succ _, fun k hk => by show (if k = P.n then a else P.f k) = _; rw [if_neg (Nat.ne_of_lt hk)]⟩
theorem Ad.ext_at (P : Ad) (a : Addr) : (P.ext a).f P.n = a := by show (if P.n = P.n then a else P.f P.n) = _; rw [if_pos rfl]

theorem Rel.adds (R : Rel h₀ L m fix frz P hp h) (R' : Rel h₀ L m fix frz P hp h') {o : Obj} {c : C} {a : Addr} (ha : h.objs.size ≤ a) (ho : h'.get? a = some o) (hc : OR (P.ext a) c o) :
    Rel h₀ L m fix frz (P.ext a) ((P.n, c) :: hp) h' := by
  have lt : ∀ b o, h.get? b = some o → b < a := fun b o e => Nat.lt_of_lt_of_le (Heap.lt_size e) ha
  have le := P.le_ext a
  have ne : ∀ k, k < P.n → P.f k ≠ a := fun i hi => by obtain ⟨_, _, _, o, e⟩ := R.live i hi; exact Nat.ne_of_lt (lt _ _ e)
  have hl : L < a := Nat.lt_of_lt_of_le R.fr.ns.lt ha
  have h0 : h₀.get? a = Option.none := by
    cases e : h₀.get? a with
    | none => rfl
    | some x => exact absurd (lt _ _ (R.fr.keep _ _ e)) (Nat.lt_irrefl _)
  refine ⟨R'.fr, R'.fx, fun i hi => ?_, fun i j hi hj e => ?_, fun i c' hc' => ?_, rfl⟩
  · rcases Nat.lt_or_eq_of_le (Nat.le_of_lt_succ hi) with q | q
    · rw [le.2 i q]; exact R'.live i q
    · subst q; rw [Ad.ext_at]; exact ⟨Nat.ne_of_gt hl, h0, fun q hq => Nat.ne_of_lt (lt _ _ (R.fx q hq).1), o, ho⟩
  · rcases Nat.lt_or_eq_of_le (Nat.le_of_lt_succ hi) with q | q <;> rcases Nat.lt_or_eq_of_le (Nat.le_of_lt_succ hj) with r | r
    · rw [le.2 i q, le.2 j r] at e; exact R.inj i j q r e
    · subst r; rw [le.2 i q, Ad.ext_at] at e; exact absurd e (ne i q)
    · subst q; rw [le.2 j r, Ad.ext_at] at e; exact absurd e.symm (ne j r)
    · rw [q, r]
  · unfold look at hc'
    by_cases q : P.n = i
    · subst q
      rw [if_pos rfl] at hc'
      cases hc'
      exact ⟨Nat.lt_succ_self _, o, by rw [Ad.ext_at]; exact ho, .of hc⟩
    · rw [if_neg q] at hc'
      obtain ⟨a1, o', e, r⟩ := R'.own i c' hc'
      exact ⟨Nat.lt_succ_of_lt a1, o', by rw [le.2 i a1]; exact e, r.mono le⟩

theorem Rel.alloc (R : Rel h₀ L m fix frz P hp h) {o : Obj} {c : C} (hf : o.isFreed = false) (hc : OR P c o) : Rel h₀ L m fix frz (P.ext h.objs.size) ((P.n, c) :: hp) (h.push o) :=
  R.adds (R.push o) (Nat.le_refl _) (Heap.get?_push_size _ hf) (hc.mono (P.le_ext _))

/-- an object of ours is changed -/
theorem Rel.change (R : Rel h₀ L m fix frz P hp h) {k : Nat} {c c' : C} {o : Obj} (hl : look hp k = some c) (hs : Heap.SameBut (P.f k) h h') (ho : h'.get? (P.f k) = some o) (hc : OR P c' o) :
    Rel h₀ L m fix frz P (upd hp k c') h' := by
  obtain ⟨hk, o₀, e₀, _⟩ := R.own k c hl
  obtain ⟨hL, h0, hfx, _⟩ := R.live k hk
  have keep : ∀ b o, b ≠ P.f k → h.get? b = some o → h'.get? b = some o := fun b o hb e => (hs.2 b hb).trans e
  refine ⟨⟨R.fr.ns.sameBut hs (Ne.symm hL), fun b ob e => keep b ob (fun q => by rw [q, h0] at e; cases e) (R.fr.keep b ob e), R.fr.above⟩, fun p hp' => ⟨keep _ _ (hfx p hp') (R.fx p hp').1, (R.fx p hp').2⟩, fun i hi => ?_, R.inj, fun i c₁ h₁ => ?_, (nxt_upd _ _ _).trans R.nx⟩
  · obtain ⟨a, b, f, o', e'⟩ := R.live i hi
    by_cases q : P.f i = P.f k
    · exact ⟨a, b, f, o, by rw [q]; exact ho⟩
    · exact ⟨a, b, f, o', keep _ _ q e'⟩
  · rw [look_upd] at h₁
    by_cases q : i = k
    · subst q
      rw [if_pos rfl, hl] at h₁
      cases h₁
      exact ⟨hk, o, ho, .of hc⟩
    · rw [if_neg q] at h₁
      obtain ⟨a1, o', e', r⟩ := R.own i c₁ h₁
      exact ⟨a1, o', keep _ _ (fun z => q (R.inj _ _ a1 hk z)) e', r⟩
end

/-- all objects of ours, as the library's ledger -/
def ledOf (P : Ad) (h : Heap) : List (Addr × Obj) := (List.range P.n).filterMap fun k => (h.get? (P.f k)).map fun o => (P.f k, o)
theorem mem_ledOf {P : Ad} {h : Heap} {p : Addr × Obj} : p ∈ ledOf P h ↔ ∃ k, k < P.n ∧ p.1 = P.f k ∧ h.get? (P.f k) = some p.2 := by
  unfold ledOf
  rw [List.mem_filterMap]
  constructor
  · rintro ⟨k, hk, e⟩
    cases q : h.get? (P.f k) with
    | none => rw [q] at e; cases e
    | some o => rw [q] at e; cases e; exact ⟨k, List.mem_range.mp hk, rfl, q⟩
  · rintro ⟨k, hk, e1, e2⟩
    refine ⟨k, List.mem_range.mpr hk, ?_⟩
    rw [e2]
    exact congrArg some (Prod.ext e1.symm rfl)

section
variable {h₀ h h' g : Heap} {L L' : Addr} {m m' : Str → Option Value} {fix : List (Addr × Obj)} {frz : (Nat → Option Obj)} {P : Ad} {hp : Hp}
theorem Rel.led (R : Rel h₀ L m fix frz P hp h) : News h₀ L h (fix ++ ledOf P h) := fun p hp' => by
  rcases List.mem_append.mp hp' with q | q
  · exact R.fx p q
  · obtain ⟨k, hk, e1, e2⟩ := mem_ledOf.mp q
    obtain ⟨a, b, _⟩ := R.live k hk
    rw [e1]
    exact ⟨e2, a, b⟩

/-- the relation read off a ledger of the library's, upon another frame too -/
theorem Rel.move (R : Rel h₀ L m fix frz P hp h) (F : Fr g L' h' m') (N : News g L' h' (fix ++ ledOf P h)) : Rel g L' m' fix frz P hp h' where
  fr := F
  fx := fun p q => N p (List.mem_append_left _ q)
  live := fun k hk => by
    obtain ⟨_, _, f, o, e⟩ := R.live k hk
    have z := N (P.f k, o) (List.mem_append_right _ (mem_ledOf.mpr ⟨k, hk, rfl, e⟩))
    exact ⟨z.2.1, z.2.2, f, o, z.1⟩
  inj := R.inj
  own := fun k c hc => by
    obtain ⟨hk, o, e, r⟩ := R.own k c hc
    exact ⟨hk, o, (N (P.f k, o) (List.mem_append_right _ (mem_ledOf.mpr ⟨k, hk, rfl, e⟩))).1, r⟩
  nx := R.nx
end

/-! ## forcing -/
noncomputable def forceN (n : Nat) (k : Nat → Bool) : Bool := Nat.rec (motive := fun _ => Bool) (k 0) (fun m _ => k (Nat.succ m)) n
theorem forceN_eq (n : Nat) (k : Nat → Bool) : forceN n k = k n := by cases n <;> rfl
noncomputable def forceI (i : Int) (k : Int → Bool) : Bool := Int.rec (motive := fun _ => Bool) (fun n => forceN n fun n => k (Int.ofNat n)) (fun n => forceN n fun n => k (Int.negSucc n)) i
theorem forceI_eq (i : Int) (k : Int → Bool) : forceI i k = k i := by
  cases i with
  | ofNat n => exact forceN_eq n fun n => k (Int.ofNat n)
  | negSucc n => exact forceN_eq n fun n => k (Int.negSucc n)
noncomputable def andB (b : Bool) (k : Bool) : Bool := Bool.rec (motive := fun _ => Bool) false k b
theorem andB_true {b k : Bool} (h : andB b k = true) : b = true ∧ k = true := by
  cases b
  · cases h
  · exact ⟨rfl, h⟩

/-! ## the heap and the locals -/
noncomputable def lookE (hp : Hp) (k : Nat) (κ : C → Bool) : Bool := List.rec (motive := fun _ => Bool) false (fun p _ ih => Bool.rec (motive := fun _ => Bool) ih (κ p.2) (Nat.beq p.1 k)) hp
theorem lookE_true {k : Nat} {κ : C → Bool} : ∀ {hp : Hp}, lookE hp k κ = true → ∃ c, look hp k = some c ∧ κ c = true
  | [], h => by cases h
  | p :: r, h => by
    unfold look
    by_cases e : p.1 = k
    · rw [if_pos e]
      refine ⟨_, rfl, ?_⟩
      have b : Nat.beq p.1 k = true := by rw [e]; exact Nat.beq_refl k
      have h' : Bool.rec (motive := fun _ => Bool) (lookE r k κ) (κ p.2) (Nat.beq p.1 k) = true := h
      rw [b] at h'
      exact h'
    · rw [if_neg e]
      have b : Nat.beq p.1 k = false := by
        cases q : Nat.beq p.1 k with
        | false => rfl
        | true => exact absurd (Nat.eq_of_beq_eq_true q) e
      have h' : Bool.rec (motive := fun _ => Bool) (lookE r k κ) (κ p.2) (Nat.beq p.1 k) = true := h
      rw [b] at h'
      exact lookE_true (hp := r) h'
noncomputable def updE (hp : Hp) (k : Nat) (c : C) : (Hp → Bool) → Bool :=
  List.rec (motive := fun _ => (Hp → Bool) → Bool) (fun κ => κ []) (fun p r ih κ => Bool.rec (motive := fun _ => Bool) (ih fun r' => κ (p :: r')) (κ ((k, c) :: r)) (Nat.beq p.1 k)) hp
theorem updE_eq {k : Nat} {c : C} : ∀ {hp : Hp} {κ : Hp → Bool}, updE hp k c κ = κ (upd hp k c)
  | [], _ => rfl
  | p :: r, κ => by
    unfold upd
    show Bool.rec (motive := fun _ => Bool) (updE r k c fun r' => κ (p :: r')) (κ ((k, c) :: r)) (Nat.beq p.1 k) = _
    by_cases e : p.1 = k
    · rw [if_pos e]
      have b : Nat.beq p.1 k = true := by rw [e]; exact Nat.beq_refl k
      rw [b]
    · rw [if_neg e]
      have b : Nat.beq p.1 k = false := by
        cases q : Nat.beq p.1 k with
        | false => rfl
        | true => exact absurd (Nat.eq_of_beq_eq_true q) e
      rw [b]
      exact updE_eq (hp := r)
noncomputable def getE {α : Type} (l : List α) (i : Nat) (κ : α → Bool) : Bool :=
  List.rec (motive := fun _ => Nat → Bool) (fun _ => false) (fun x _ ih i => Nat.rec (motive := fun _ => Bool) (κ x) (fun j _ => ih j) i) l i
theorem getE_true {α : Type} {κ : α → Bool} : ∀ {l : List α} {i : Nat}, getE l i κ = true → ∃ v, l[i]? = some v ∧ κ v = true
  | [], _, h => by cases h
  | x :: _, 0, h => ⟨x, by simp, h⟩
  | _ :: r, i + 1, h => by
    obtain ⟨v, e, hk⟩ := getE_true (l := r) (i := i) h
    exact ⟨v, by simpa using e, hk⟩
noncomputable def setE {α : Type} (l : List α) (i : Nat) (v : α) (κ : List α → Bool) : Bool :=
  List.rec (motive := fun _ => Nat → (List α → Bool) → Bool) (fun _ κ => κ []) (fun x r ih i κ => Nat.rec (motive := fun _ => Bool) (κ (v :: r)) (fun j _ => ih j fun r' => κ (x :: r')) i) l i κ
theorem setE_eq {α : Type} {v : α} : ∀ {l : List α} {i : Nat} {κ : List α → Bool}, setE l i v κ = κ (l.set i v)
  | [], _, _ => rfl
  | _ :: _, 0, _ => rfl
  | x :: r, i + 1, κ => by
    show setE r i v (fun r' => κ (x :: r')) = _
    rw [setE_eq (l := r)]
    rfl
noncomputable def newE (hp : Hp) (c : C) (κ : Nat → Hp → Bool) : Bool := forceN (nxt hp) fun n => κ n ((n, c) :: hp)
theorem newE_eq (hp : Hp) (c : C) (κ : Nat → Hp → Bool) : newE hp c κ = κ (nxt hp) ((nxt hp, c) :: hp) := forceN_eq _ _

/-! ## frames -/
structure Gl where
  prog : Program
  w : World
  K : Frag
  p : Program
  loose : List Str
  mean : ExcName → Option Value
  mg : Str → Option Value
  mb : Str → Option Value

structure FrameOK (G : Gl) (d : Nat) (A : Around) (h₀ : Heap) (L : Addr) : Prop where
  top : ∃ (fenv : Env) (outer : List Env) (A₀ : Around) (base : Heap), Below A₀ base outer h₀ ∧ A.frames = some (fenv :: outer) ∧ fenv.frame = some L ∧ fenv.scope.kind = .function
  hd : A.handled = Option.none
  X : G.K.In h₀
  T : Top G.p G.loose G.mean G.mg G.mb h₀
  depth : A.depth + d < recursionLimit
  units : A.units + 8 * d + 100 < cLine

theorem FrameOK.less {G : Gl} {d d' : Nat} {A : Around} {h₀ : Heap} {L : Addr} (F : FrameOK G d A h₀ L) (h : d' ≤ d) : FrameOK G d' A h₀ L :=
  ⟨F.top, F.hd, F.X, F.T, by have := F.depth; omega, by have := F.units; omega⟩

structure Fm where
  A : Around
  h₀ : Heap
  L : Addr
  env : Env
  m : Str → Option Value
  fix : List (Addr × Obj)
  frz : (Nat → Option Obj)
  cm : Str → Option Value

structure Sc where
  d : Nat
  scope : Scope
  vars : List Str
  cells : List (Str × Nat)

def LocR (P : Ad) (vars : List Str) (loc : List V) (cm : Str → Option Value) : Prop :=
  ∀ (i : Nat) (x : Str) (v : V), vars[i]? = some x → loc[i]? = some v → v ≠ .undef → ∃ w, cm x = some w ∧ VR P v w
def CellR (P : Ad) (cells : List (Str × Nat)) (cl : List (Str × Addr)) : Prop := ∀ x k, cells.lookup x = some k → k < P.n ∧ cl.lookup x = some (P.f k)

structure OK (G : Gl) (sc : Sc) (F : Fm) (P : Ad) (loc : List V) : Prop where
  fr : FrameOK G sc.d F.A F.h₀ F.L
  scp : F.env.scope = sc.scope
  gl : F.env.globals = mainGlobals
  bi : F.env.builtins = builtinsNs
  kind : sc.scope.kind = .function
  cur : (F.env.locals = F.L ∧ F.cm = F.m) ∨ ∃ oC, (F.env.locals, oC) ∈ F.fix ∧ LCg.NsObj oC F.cm
  loc : LocR P sc.vars loc F.cm
  cel : CellR P sc.cells F.env.cells

theorem LocR.mono {P P' : Ad} (l : P.le P') {vars : List Str} {loc : List V} {cm : Str → Option Value} (h : LocR P vars loc cm) : LocR P' vars loc cm :=
  fun i x v a b c => let ⟨w, e, r⟩ := h i x v a b c; ⟨w, e, r.mono l⟩
theorem CellR.mono {P P' : Ad} (l : P.le P') {cells : List (Str × Nat)} {cl : List (Str × Addr)} (h : CellR P cells cl) : CellR P' cells cl :=
  fun x k a => let ⟨b, c⟩ := h x k a; ⟨Nat.lt_of_lt_of_le b l.1, by rw [l.2 k b]; exact c⟩
theorem OK.mono {G : Gl} {sc : Sc} {F : Fm} {P P' : Ad} {loc : List V} (l : P.le P') (h : OK G sc F P loc) : OK G sc F P' loc :=
  ⟨h.fr, h.scp, h.gl, h.bi, h.kind, h.cur, h.loc.mono l, h.cel.mono l⟩

abbrev FRel (F : Fm) (P : Ad) (hp : Hp) (h : Heap) : Prop := Rel F.h₀ F.L F.m F.fix F.frz P hp h
abbrev Ev (α : Type) := List V → Hp → (α → Hp → Bool) → Bool

abbrev BackV (F : Fm) (P : Ad) (s : Shared) (k : V → Hp → Bool) (Q : Value → Shared → Prop) : Prop :=
  ∀ v w P' hp' h' tk, k v hp' = true → P.le P' → FRel F P' hp' h' → VR P' v w → Q w { s with heap := h', toks := tk }
abbrev BackB (F : Fm) (P : Ad) (s : Shared) (k : Bool → Hp → Bool) (Q : Bool → Shared → Prop) : Prop :=
  ∀ b P' hp' h' tk, k b hp' = true → P.le P' → FRel F P' hp' h' → Q b { s with heap := h', toks := tk }
abbrev BackL (F : Fm) (P : Ad) (s : Shared) (k : List V → Hp → Bool) (Q : List Value → Shared → Prop) : Prop :=
  ∀ vs ws P' hp' h' tk, k vs hp' = true → P.le P' → FRel F P' hp' h' → VRs P' vs ws → Q ws { s with heap := h', toks := tk }

abbrev Ra : Value → Shared → Prop := fun _ _ => False

def SndE (G : Gl) (sc : Sc) (e : Expr) (f : Ev V) : Prop :=
  ∀ (F : Fm) (P : Ad) (hp : Hp) (loc : List V) (s : Shared) (Q : Value → Shared → Prop) (k : V → Hp → Bool),
    OK G sc F P loc → FRel F P hp s.heap → f loc hp k = true → BackV F P s k Q → wpAny (model G.prog G.w) F.A (eval e F.env) Q Ra s
def SndT (G : Gl) (sc : Sc) (e : Expr) (f : Ev Bool) : Prop :=
  ∀ (F : Fm) (P : Ad) (hp : Hp) (loc : List V) (s : Shared) (Q : Bool → Shared → Prop) (k : Bool → Hp → Bool),
    OK G sc F P loc → FRel F P hp s.heap → f loc hp k = true → BackB F P s k Q → wpAny (model G.prog G.w) F.A (isTrue e F.env (eval e F.env)) Q Ra s
def SndTs (G : Gl) (sc : Sc) (op : BoolOp) (es : List Expr) (f : Ev Bool) : Prop :=
  ∀ (F : Fm) (P : Ad) (hp : Hp) (loc : List V) (s : Shared) (Q : Bool → Shared → Prop) (k : Bool → Hp → Bool),
    OK G sc F P loc → FRel F P hp s.heap → f loc hp k = true → BackB F P s k Q → wpAny (model G.prog G.w) F.A (allTrue op es F.env) Q Ra s
def SndL (G : Gl) (sc : Sc) (es : List Expr) (f : Ev (List V)) : Prop :=
  ∀ (F : Fm) (P : Ad) (hp : Hp) (loc : List V) (s : Shared) (Q : List Value → Shared → Prop) (k : List V → Hp → Bool) (pos : Pos),
    OK G sc F P loc → FRel F P hp s.heap → f loc hp k = true → BackL F P s k Q → wpAny (model G.prog G.w) F.A (spliced (backTo pos (starEach es F.env))) Q Ra s

theorem OK.ns {G : Gl} {sc : Sc} {F : Fm} {P : Ad} {loc : List V} {hp : Hp} {h : Heap} (O : OK G sc F P loc) (R : FRel F P hp h) : h.Ns F.env.locals F.cm := by
  rcases O.cur with ⟨e, e'⟩ | ⟨oC, hm, hn⟩
  · rw [e, e']; exact R.fr.ns
  · exact hn.ns (R.fx _ hm).1

/-! ## constants, names -/
def cInt (i : Int) : Ev V := fun _ hp k => k (.int i) hp
def cBool (b : Bool) : Ev V := fun _ hp k => k (.bool b) hp
def cNone : Ev V := fun _ hp k => k .none hp
theorem snd_int {G sc i kk pos} : SndE G sc (.Constant (.int i) kk pos) (cInt i) := fun F P hp loc s Q k _ R hk B =>
  wpAny_Constant_int (B _ _ P hp s.heap _ hk (.refl P) R (.int i _))
theorem snd_bool {G sc b kk pos} : SndE G sc (.Constant (.bool b) kk pos) (cBool b) := fun F P hp loc s Q k _ R hk B =>
  wpAny_Constant_bool (B _ _ P hp s.heap s.toks hk (.refl P) R (.bool b))
theorem snd_none {G sc kk pos} : SndE G sc (.Constant .none kk pos) cNone := fun F P hp loc s Q k _ R hk B =>
  wpAny_Constant_none (B _ _ P hp s.heap s.toks hk (.refl P) R .none)

def defd (v : V) (k : Bool) : Bool := match v with | .undef => false | _ => k
theorem defd_true {v : V} {k : Bool} (h : defd v k = true) : v ≠ .undef ∧ k = true := by
  cases v with
  | undef => cases h
  | none => exact ⟨nofun, h⟩
  | bool => exact ⟨nofun, h⟩
  | int => exact ⟨nofun, h⟩
  | ref => exact ⟨nofun, h⟩
noncomputable def locE (i : Nat) : Ev V := fun loc hp k => getE loc i fun v => defd v (k v hp)

def VarAt (vars : List Str) (x : Str) (i : Nat) : Prop := vars[i]? = some x
theorem VarAt.head {x : Str} {r : List Str} : VarAt (x :: r) x 0 := by simp [VarAt]
theorem VarAt.tail {x y : Str} {r : List Str} {i : Nat} (h : VarAt r x i) : VarAt (y :: r) x (i + 1) := by simpa [VarAt] using h

theorem snd_local {G sc x pos i} (hi : VarAt sc.vars x i) (hk : sc.scope.names.lookup x = some .local) (hd : (x == ("__debug__" : Str)) = false) : SndE G sc (.Name x pos) (locE i) := fun F P hp loc s Q k O R hkk B => by
  obtain ⟨v, e, hv⟩ := getE_true hkk
  obtain ⟨hn, hv⟩ := defd_true hv
  obtain ⟨w, hw, hr⟩ := O.loc i x v hi e hn
  refine wpAny_Name (wpAny_loadName_local (by rw [O.scp]; exact O.kind) (by show F.env.scope.names.lookup x = _; rw [O.scp]; exact hk) (O.ns R) hw ?_) hd
  exact B _ _ P hp s.heap s.toks hv (.refl P) R hr

noncomputable def celE (n : Nat) : Ev V := fun _ hp k => lookE hp n fun c => match c with | .cel v => defd v (k v hp) | _ => false
theorem snd_cell {G sc x pos n} (hc : sc.cells.lookup x = some n) (hk : sc.scope.names.lookup x = some .cell) (hd : (x == ("__debug__" : Str)) = false) : SndE G sc (.Name x pos) (celE n) := fun F P hp loc s Q k O R hkk B => by
  obtain ⟨c, e, hv⟩ := lookE_true hkk
  cases c with
  | cel v =>
    obtain ⟨hn, hv⟩ := defd_true hv
    obtain ⟨_, hl⟩ := O.cel x n hc
    obtain ⟨_, o, ho, hor⟩ := R.own n _ e
    cases hor.out (by intro c' q; cases q) with
    | cel0 => exact absurd rfl hn
    | cel w hd' hr =>
      refine wpAny_Name (wpAny_loadName_cell (by rw [O.scp]; exact O.kind) (by show F.env.scope.names.lookup x = _; rw [O.scp]; exact hk) hl ⟨o, ho, hd'⟩ ?_) hd
      exact B _ _ P hp s.heap s.toks hv (.refl P) R hr
  | _ => cases hv
theorem snd_L_nil {G sc} : SndL G sc [] (fun _ hp k => k [] hp) := fun F P hp loc s Q k pos _ R hk B =>
  wpAny_items_nil (B [] [] P hp s.heap s.toks hk (.refl P) R .nil)
def consE (f : Ev V) (g : Ev (List V)) : Ev (List V) := fun loc hp k => f loc hp fun v hp => g loc hp fun vs hp => k (v :: vs) hp
theorem snd_L_cons {G sc e es f g} (he : ∀ env, starEach (e :: es) env = (false, eval e env) :: starEach es env) (h : SndE G sc e f) (h' : SndL G sc es g) : SndL G sc (e :: es) (consE f g) := fun F P hp loc s Q k pos O R hk B =>
  wpAny_items_cons (h F P hp loc s _ _ O R hk fun v w P₁ hp₁ h₁ t₁ hk₁ l₁ R₁ r₁ =>
    h' F P₁ hp₁ loc _ _ _ pos (O.mono l₁) R₁ hk₁ fun vs ws P₂ hp₂ h₂ t₂ hk₂ l₂ R₂ r₂ => B _ _ P₂ hp₂ h₂ t₂ hk₂ (l₁.trans l₂) R₂ (.cons (r₁.mono l₂) r₂)) (he F.env)

/-! ## numbers -/
def eqI (a b : Int) : Bool := Z.eqB a b
def ltI (a b : Int) : Bool := Z.ltB a b
def leI (a b : Int) : Bool := Z.leB a b
theorem bool_ext {a b : Bool} (h : a = true ↔ b = true) : a = b := by
  cases a <;> cases b <;> simp_all
theorem eqI_beq (a b : Int) : (a == b) = eqI a b := bool_ext ((beq_iff_eq).trans (Z.eqB_iff a b).symm)
theorem neI_bne (a b : Int) : (a != b) = !eqI a b := by
  show (!(a == b)) = _
  rw [eqI_beq]
theorem ltI_dec (a b : Int) : decide (a < b) = ltI a b := bool_ext ((decide_eq_true_iff).trans (Z.ltB_iff a b).symm)
theorem leI_dec (a b : Int) : decide (a ≤ b) = leI a b := bool_ext ((decide_eq_true_iff).trans (Z.leB_iff a b).symm)

/-- an int that is small -/
def smI (i : Int) : Bool := Nat.blt i.natAbs 1073741824
theorem smI_lt {i : Int} (h : smI i = true) : i.natAbs < 1073741824 := Nat.le_of_ble_eq_true h
theorem smI_bits {i : Int} (h : smI i = true) : Builtin.Int.intBits i ≤ 31 := by
  have h' := smI_lt h
  unfold Builtin.Int.intBits
  split
  · omega
  · have hz : i.natAbs ≠ 0 := by
      intro e
      rename_i q
      exact q (by simpa using Int.natAbs_eq_zero.mp e)
    have : i.natAbs.log2 < 30 := (Nat.log2_lt hz).mpr (by simpa using h')
    omega
theorem smI_mul {a b : Int} (h : smI a = true) : IntMulOk a b := .of_left (Nat.le_trans (smI_bits h) (by decide))
theorem smI_fits {a : Int} (h : smI a = true) : -(2 ^ 30 : Int) < a ∧ a < 2 ^ 30 := by
  have := smI_lt h
  omega

noncomputable def intK (x : Int) (hp : Hp) (k : V → Hp → Bool) : Bool := forceI x fun z => k (.int z) hp
theorem intK_eq (x : Int) (hp : Hp) (k : V → Hp → Bool) : intK x hp k = k (.int x) hp := forceI_eq _ _

def shortL {α : Type} (l : List α) : Bool := Nat.ble l.length 10000
theorem shortL_le {α : Type} {l : List α} (h : shortL l = true) : l.length ≤ 10000 := Nat.le_of_ble_eq_true h

/-! ## binary operators -/
abbrev Bo := V → V → Hp → (V → Hp → Bool) → Bool
def SndO (G : Gl) (op : Operator) (g : Bo) : Prop :=
  ∀ (F : Fm) (P : Ad) (hp : Hp) (s : Shared) (Q : Value → Shared → Prop) (k : V → Hp → Bool) (a b : V) (x y : Value),
    F.A.handled = .none → FRel F P hp s.heap → g a b hp k = true → VR P a x → VR P b y → BackV F P s k Q → wpAny (model G.prog G.w) F.A (binaryOp op x y) Q Ra s
def binE (g : Bo) (f1 f2 : Ev V) : Ev V := fun loc hp k => f1 loc hp fun a hp => f2 loc hp fun b hp => g a b hp k
theorem snd_bin {G sc l r op pos g f1 f2} (ho : SndO G op g) (h1 : SndE G sc l f1) (h2 : SndE G sc r f2) : SndE G sc (.BinOp l op r pos) (binE g f1 f2) := fun F P hp loc s Q k O R hk B =>
  wpAny_BinOp (h1 F P hp loc s _ _ O R hk fun v w P₁ hp₁ h₁ t₁ hk₁ l₁ R₁ r₁ =>
    h2 F P₁ hp₁ loc _ _ _ (O.mono l₁) R₁ hk₁ fun v' w' P₂ hp₂ h₂ t₂ hk₂ l₂ R₂ r₂ =>
      ho F P₂ hp₂ _ Q k v v' w w' O.fr.hd R₂ hk₂ (r₁.mono l₂) r₂ fun v₃ w₃ P₃ hp₃ h₃ t₃ hk₃ l₃ R₃ r₃ => B _ _ P₃ hp₃ h₃ t₃ hk₃ ((l₁.trans l₂).trans l₃) R₃ r₃)

noncomputable def addO : Bo := fun a b hp k => match a with
  | .int x => match b with
    | .int y => intK (x + y) hp k
    | _ => false
  | .ref i => match b with
    | .ref j => lookE hp i fun c => match c with
      | .lst vs => lookE hp j fun c => match c with
        | .lst ws => andB (shortL vs) (andB (shortL ws) (newE hp (.lst (vs ++ ws)) fun n hp => k (.ref n) hp))
        | _ => false
      | _ => false
    | _ => false
  | _ => false
noncomputable def subO : Bo := fun a b hp k => match a with
  | .int x => match b with
    | .int y => intK (x - y) hp k
    | _ => false
  | _ => false
def repE (v : V) (n : Nat) : List V := List.replicate n v
noncomputable def mulO : Bo := fun a b hp k => match a with
  | .int x => match b with
    | .int y => andB (smI x) (intK (x * y) hp k)
    | _ => false
  | .ref i => match b with
    | .int y => andB (smI y) (andB (leI y 1000) (lookE hp i fun c => match c with
      | .lst vs => match vs with
        | [] => false
        | v :: r => match r with
          | [] => match v with
            | .int x => newE hp (.lst (repE (.int x) y.toNat)) fun n hp => k (.ref n) hp
            | _ => false
          | _ :: _ => false
      | _ => false))
    | _ => false
  | _ => false
noncomputable def fdivO : Bo := fun a b hp k => match a with
  | .int x => match b with
    | .int y => andB (smI y) (andB (!eqI y 0) (intK (x.fdiv y) hp k))
    | _ => false
  | _ => false
noncomputable def fmodO : Bo := fun a b hp k => match a with
  | .int x => match b with
    | .int y => andB (!eqI y 0) (intK (x.fmod y) hp k)
    | _ => false
  | _ => false
noncomputable def powO : Bo := fun a b hp k => match a with
  | .int x => match b with
    | .int y => andB (smI x) (andB (leI 0 y) (andB (leI y 1000) (intK (x ^ y.toNat) hp k)))
    | _ => false
  | _ => false

theorem isList_of_OR {P : Ad} {vs : List V} {o : Obj} {h : Heap} {a : Addr} (e : h.get? a = some o) : OR P (.lst vs) o → ∃ ws n, h.get? a = some (listOf ws.toArray n) ∧ h.IsList a ws.toArray ∧ VRs P vs ws
  | .lst ws n r => ⟨ws, n, e, ⟨_, e, rfl, n, rfl⟩, r⟩
theorem isTup_of_OR {P : Ad} {vs : List V} {o : Obj} {h : Heap} {a : Addr} (e : h.get? a = some o) : OR P (.tup vs) o → ∃ ws, IsTup h a ws.toArray ∧ VRs P vs ws
  | .tup ws n hc hd r => ⟨ws, ⟨o, e, hc, n, hd⟩, r⟩
theorem Rel.lst {h₀ h : Heap} {L : Addr} {m : Str → Option Value} {fix : List (Addr × Obj)} {frz : (Nat → Option Obj)} {P : Ad} {hp : Hp} (R : Rel h₀ L m fix frz P hp h) {k : Nat} {vs : List V} (e : look hp k = some (.lst vs)) :
    ∃ ws n, h.get? (P.f k) = some (listOf ws.toArray n) ∧ h.IsList (P.f k) ws.toArray ∧ VRs P vs ws := by
  obtain ⟨_, o, ho, hr⟩ := R.own k _ e
  exact isList_of_OR ho (hr.out (by intro c' q; cases q))
theorem Rel.tup {h₀ h : Heap} {L : Addr} {m : Str → Option Value} {fix : List (Addr × Obj)} {frz : (Nat → Option Obj)} {P : Ad} {hp : Hp} (R : Rel h₀ L m fix frz P hp h) {k : Nat} {vs : List V} (e : look hp k = some (.tup vs)) :
    ∃ ws, IsTup h (P.f k) ws.toArray ∧ VRs P vs ws := by
  obtain ⟨_, o, ho, hr⟩ := R.own k _ e
  exact isTup_of_OR ho (hr.out (by intro c' q; cases q))

/-- a new list -/
theorem Rel.newL {F : Fm} {P : Ad} {hp : Hp} {h h' : Heap} (R : FRel F P hp h) {vs : List V} {ws : List Value} (r : VRs P vs ws) (F' : Fr F.h₀ F.L h' F.m)
    (N : News F.h₀ F.L h' ((h.objs.size, { cls := .type "list", data := .seq ws.toArray }) :: (F.fix ++ ledOf P h))) :
    FRel F (P.ext h.objs.size) ((P.n, .lst vs) :: hp) h' :=
  R.adds (R.move F' fun p hp => N p (.tail _ hp)) (Nat.le_refl _) (N _ (.head _)).1 (.lst ws _ (r.mono (P.le_ext _)))

theorem backNew {F : Fm} {P : Ad} {hp : Hp} {s : Shared} {k : V → Hp → Bool} {Q : Value → Shared → Prop} (B : BackV F P s k Q) (R : FRel F P hp s.heap) {c : C} {h' : Heap} {tk : Nat} {a : Addr}
    (hk : (newE hp c fun n hp => k (.ref n) hp) = true) (R' : FRel F (P.ext a) ((P.n, c) :: hp) h') : Q (.ref a) { s with heap := h', toks := tk } := by
  rw [newE_eq, R.nx] at hk
  exact B _ _ _ _ h' tk hk (P.le_ext a) R' (.ref (Nat.lt_succ_self _) (P.ext_at a).symm)

theorem VRs.rep {P : Ad} {v : V} {w : Value} (h : VR P v w) : ∀ n, VRs P (List.replicate n v) (List.replicate n w)
  | 0 => .nil
  | n + 1 => .cons h (VRs.rep h n)

theorem not_true {b : Bool} (h : (!b) = true) : b = false := by cases b <;> simp_all
theorem eqI_ne {a b : Int} (h : (!eqI a b) = true) : a ≠ b := fun e => by
  have h1 := not_true h
  rw [← eqI_beq] at h1
  simp [e] at h1
theorem leI_le {a b : Int} (h : leI a b = true) : a ≤ b := (Z.leB_iff a b).mp h
theorem ltI_lt {a b : Int} (h : ltI a b = true) : a < b := (Z.ltB_iff a b).mp h

theorem snd_add {G} : SndO G .Add addO := fun F P hp s Q k a b x y hh R hk ra rb B => by
  cases ra with
  | int i t =>
    cases rb with
    | int j u =>
      have hk' : intK (i + j) hp k = true := hk
      rw [intK_eq] at hk'
      exact add_int (B _ _ P hp s.heap _ hk' (.refl P) R (.int _ _))
    | _ => cases hk
  | @ref i a hi ea =>
    cases rb with
    | @ref j b hj eb =>
      dsimp only [addO] at hk
      obtain ⟨c, e1, hk⟩ := lookE_true hk
      cases c with
      | lst vs =>
        dsimp only at hk
        obtain ⟨c, e2, hk⟩ := lookE_true hk
        cases c with
        | lst ws =>
          dsimp only at hk
          obtain ⟨s1, hk⟩ := andB_true hk
          obtain ⟨s2, hk⟩ := andB_true hk
          obtain ⟨xs, nx, gx, hx, rx⟩ := R.lst e1
          obtain ⟨ys, ny, gy, hy, ry⟩ := R.lst e2
          rw [← ea] at hx
          rw [← eb] at hy
          have l1 := shortL_le s1
          have l2 := shortL_le s2
          rw [rx.length] at l1
          rw [ry.length] at l2
          refine add_lists R.fr R.led hx hy (fun h' F' N' => ?_) (by rw [sizeLine_eq]; omega)
          exact backNew (tk := s.toks) B R hk (R.newL (rx.append ry) F' N')
        | _ => cases hk
      | _ => cases hk
    | _ => cases hk
  | _ => cases hk
theorem snd_sub {G} : SndO G .Sub subO := fun F P hp s Q k a b x y hh R hk ra rb B => by
  cases ra with
  | int i t =>
    cases rb with
    | int j u =>
      have hk' : intK (i - j) hp k = true := hk
      rw [intK_eq] at hk'
      exact sub_int (B _ _ P hp s.heap _ hk' (.refl P) R (.int _ _))
    | _ => cases hk
  | _ => cases hk
theorem snd_mul {G} : SndO G .Mult mulO := fun F P hp s Q k a b x y hh R hk ra rb B => by
  cases ra with
  | int i t =>
    cases rb with
    | int j u =>
      obtain ⟨s1, hk⟩ := andB_true hk
      rw [intK_eq] at hk
      exact mul_int (B _ _ P hp s.heap _ hk (.refl P) R (.int _ _)) (smI_mul s1)
    | _ => cases hk
  | @ref i a hi ea =>
    cases rb with
    | int j u =>
      obtain ⟨s1, hk⟩ := andB_true hk
      obtain ⟨s2, hk⟩ := andB_true hk
      obtain ⟨c, e1, hk⟩ := lookE_true hk
      have s1 := smI_fits s1
      have s2 := leI_le s2
      cases c with
      | lst vs =>
        cases vs with
        | nil => cases hk
        | cons v r =>
          cases r with
          | cons => cases hk
          | nil =>
            obtain ⟨xs, nx, gx, hx, rx⟩ := R.lst e1
            rw [← ea] at hx
            cases rx with
            | @cons _ w _ _ rv rn =>
              cases rn
              cases rv with
              | int x t =>
                rw [← ea] at gx
                refine mul_list R.fr R.led gx (by omega) (by omega) (by simp; omega) fun h' F' N' => ?_
                have e : (List.foldl (fun x1 x2 => x1 ++ x2) #[] (List.replicate (if ([Value.int x t] : List Value).toArray.isEmpty = true then 0 else j.toNat) ([Value.int x t] : List Value).toArray)) = (List.replicate j.toNat (Value.int x t)).toArray := by
                  rw [if_neg (by simp), listMul_foldl]
                  simp
                rw [e] at N'
                exact backNew (tk := s.toks) B R hk (R.newL (VRs.rep (.int x t) _) F' N')
              | _ => cases hk
      | _ => cases hk
    | _ => cases hk
  | _ => cases hk
theorem snd_fdiv {G} : SndO G .FloorDiv fdivO := fun F P hp s Q k a b x y hh R hk ra rb B => by
  cases ra with
  | int i t =>
    cases rb with
    | int j u =>
      obtain ⟨s1, hk⟩ := andB_true hk
      obtain ⟨s2, hk⟩ := andB_true hk
      rw [intK_eq] at hk
      exact floordiv_int (eqI_ne s2) (B _ _ P hp s.heap _ hk (.refl P) R (.int _ _)) (.inl (PyProof.noPylong_small (smI_lt s1)))
    | _ => cases hk
  | _ => cases hk
theorem snd_fmod {G} : SndO G .Mod fmodO := fun F P hp s Q k a b x y hh R hk ra rb B => by
  cases ra with
  | int i t =>
    cases rb with
    | int j u =>
      obtain ⟨s2, hk⟩ := andB_true hk
      rw [intK_eq] at hk
      exact mod_int' (eqI_ne s2) (B _ _ P hp s.heap _ hk (.refl P) R (.int _ _))
    | _ => cases hk
  | _ => cases hk
theorem snd_pow {G} : SndO G .Pow powO := fun F P hp s Q k a b x y hh R hk ra rb B => by
  cases ra with
  | int i t =>
    cases rb with
    | int j u =>
      obtain ⟨s1, hk⟩ := andB_true hk
      obtain ⟨s2, hk⟩ := andB_true hk
      obtain ⟨s3, hk⟩ := andB_true hk
      rw [intK_eq] at hk
      have b1 := smI_bits s1
      have b2 := leI_le s2
      have b3 := leI_le s3
      refine pow_int b2 ?_ (B _ _ P hp s.heap _ hk (.refl P) R (.int _ _))
      have : (Builtin.Int.intBits i : Int) * j ≤ 31 * 1000 := Int.mul_le_mul (by omega) b3 b2 (by omega)
      omega
    | _ => cases hk
  | _ => cases hk

/-! ## comparisons -/
noncomputable def forceB (b : Bool) (k : Bool → Bool) : Bool := Bool.rec (motive := fun _ => Bool) (k false) (k true) b
theorem forceB_eq (b : Bool) (k : Bool → Bool) : forceB b k = k b := by cases b <;> rfl
noncomputable def boolK (b : Bool) (hp : Hp) (k : V → Hp → Bool) : Bool := forceB b fun z => k (.bool z) hp
theorem boolK_eq (x : Bool) (hp : Hp) (k : V → Hp → Bool) : boolK x hp k = k (.bool x) hp := forceB_eq _ _

def SndC (G : Gl) (op : CmpOp) (g : Bo) : Prop :=
  ∀ (F : Fm) (P : Ad) (hp : Hp) (s : Shared) (Q : Value → Shared → Prop) (k : V → Hp → Bool) (a b : V) (x y : Value),
    F.A.units + 70 < cLine → FRel F P hp s.heap → g a b hp k = true → VR P a x → VR P b y → BackV F P s k Q → wpAny (model G.prog G.w) F.A (compareOp op x y) Q Ra s
theorem snd_cmp {G sc l r op pos g f1 f2} (ho : SndC G op g) (h1 : SndE G sc l f1) (h2 : SndE G sc r f2) (hm : behindInMarks op r = false) : SndE G sc (.Compare l [op] [r] pos) (binE g f1 f2) := fun F P hp loc s Q k O R hk B =>
  wpAny_Compare1 (hm := hm) (h1 F P hp loc s _ _ O R hk fun v w P₁ hp₁ h₁ t₁ hk₁ l₁ R₁ r₁ =>
    h2 F P₁ hp₁ loc _ _ _ (O.mono l₁) R₁ hk₁ fun v' w' P₂ hp₂ h₂ t₂ hk₂ l₂ R₂ r₂ =>
      ho F P₂ hp₂ _ Q k v v' w w' (by have := O.fr.units; omega) R₂ hk₂ (r₁.mono l₂) r₂ fun v₃ w₃ P₃ hp₃ h₃ t₃ hk₃ l₃ R₃ r₃ => B _ _ P₃ hp₃ h₃ t₃ hk₃ ((l₁.trans l₂).trans l₃) R₃ r₃)
def tOf (f : Ev V) : Ev Bool := fun loc hp k => f loc hp fun v hp => match v with | .bool b => k b hp | _ => false
theorem truthy_back {G : Gl} {F : Fm} {P : Ad} {hp : Hp} {s : Shared} {Q : Bool → Shared → Prop} {k : Bool → Hp → Bool} {v : V} {w : Value} (R : FRel F P hp s.heap)
    (hk : (match v with | .bool b => k b hp | _ => false) = true) (r : VR P v w) (B : BackB F P s k Q) : wpAny (model G.prog G.w) F.A (truthy w) Q Ra s := by
  cases r with
  | bool b => exact wpAny_truthy_bool (B b P hp s.heap s.toks hk (.refl P) R)
  | _ => cases hk
theorem snd_cmpT {G sc l r op pos g f1 f2} (ho : SndC G op g) (h1 : SndE G sc l f1) (h2 : SndE G sc r f2) (hm : behindInMarks op r = false) : SndT G sc (.Compare l [op] [r] pos) (tOf (binE g f1 f2)) := fun F P hp loc s Q k O R hk B =>
  wpAny_isTrue_Compare1 (hm := hm) (h1 F P hp loc s _ _ O R hk fun v w P₁ hp₁ h₁ t₁ hk₁ l₁ R₁ r₁ =>
    h2 F P₁ hp₁ loc _ _ _ (O.mono l₁) R₁ hk₁ fun v' w' P₂ hp₂ h₂ t₂ hk₂ l₂ R₂ r₂ =>
      ho F P₂ hp₂ _ _ _ v v' w w' (by have := O.fr.units; omega) R₂ hk₂ (r₁.mono l₂) r₂ fun v₃ w₃ P₃ hp₃ h₃ t₃ hk₃ l₃ R₃ r₃ =>
        truthy_back R₃ hk₃ r₃ fun b P₄ hp₄ h₄ t₄ hk₄ l₄ R₄ => B b P₄ hp₄ h₄ t₄ hk₄ (((l₁.trans l₂).trans l₃).trans l₄) R₄)
/-- a test that is no comparison, no and, or, not -/
theorem snd_valT {G sc e f} (h : SndE G sc e f) (he : ∀ env whole, isTrue e env whole = (do let v ← whole; standAt e.pos; holding [v] (truthy v))) : SndT G sc e (tOf f) := fun F P hp loc s Q k O R hk B =>
  wpAny_isTrue_value (he := he _ _) (h F P hp loc s _ _ O R hk fun v w P₁ hp₁ h₁ t₁ hk₁ l₁ R₁ r₁ =>
    truthy_back R₁ hk₁ r₁ fun b P₄ hp₄ h₄ t₄ hk₄ l₄ R₄ => B b P₄ hp₄ h₄ t₄ hk₄ (l₁.trans l₄) R₄)
noncomputable def notT (f : Ev Bool) : Ev Bool := fun loc hp k => f loc hp fun b hp => forceB (!b) fun b => k b hp
theorem snd_notT {G sc e pos f} (h : SndT G sc e f) : SndT G sc (.UnaryOp .Not e pos) (notT f) := fun F P hp loc s Q k O R hk B =>
  wpAny_isTrue_Not (h F P hp loc s _ _ O R hk fun b P₁ hp₁ h₁ t₁ hk₁ l₁ R₁ => B _ P₁ hp₁ h₁ t₁ (by rw [forceB_eq] at hk₁; exact hk₁) l₁ R₁)
theorem snd_boolT {G sc op es pos f} (h : SndTs G sc op es f) : SndT G sc (.BoolOp op es pos) f := fun F P hp loc s Q k O R hk B =>
  wpAny_isTrue_BoolOp (h F P hp loc s _ _ O R hk B)
theorem snd_and_nil {G sc} : SndTs G sc .And [] (fun _ hp k => k true hp) := fun F P hp loc s Q k O R hk B => wpAny_allTrue_And_nil (B true P hp s.heap s.toks hk (.refl P) R)
theorem snd_or_nil {G sc} : SndTs G sc .Or [] (fun _ hp k => k false hp) := fun F P hp loc s Q k O R hk B => wpAny_allTrue_Or_nil (B false P hp s.heap s.toks hk (.refl P) R)
noncomputable def iteB (b : Bool) (x y : Bool) : Bool := Bool.rec (motive := fun _ => Bool) y x b
theorem iteB_t (x y : Bool) : iteB true x y = x := rfl
theorem iteB_f (x y : Bool) : iteB false x y = y := rfl
noncomputable def andT (f g : Ev Bool) : Ev Bool := fun loc hp k => f loc hp fun b hp => iteB b (g loc hp k) (k false hp)
noncomputable def orT (f g : Ev Bool) : Ev Bool := fun loc hp k => f loc hp fun b hp => iteB b (k true hp) (g loc hp k)
theorem snd_and_cons {G sc e es f g} (h : SndT G sc e f) (h' : SndTs G sc .And es g) : SndTs G sc .And (e :: es) (andT f g) := fun F P hp loc s Q k O R hk B =>
  wpAny_allTrue_And_cons (h F P hp loc s _ _ O R hk fun b P₁ hp₁ h₁ t₁ hk₁ l₁ R₁ => by
    cases b with
    | false => exact B false P₁ hp₁ h₁ t₁ hk₁ l₁ R₁
    | true => exact h' F P₁ hp₁ loc _ _ _ (O.mono l₁) R₁ hk₁ fun b P₂ hp₂ h₂ t₂ hk₂ l₂ R₂ => B b P₂ hp₂ h₂ t₂ hk₂ (l₁.trans l₂) R₂)
theorem snd_or_cons {G sc e es f g} (h : SndT G sc e f) (h' : SndTs G sc .Or es g) : SndTs G sc .Or (e :: es) (orT f g) := fun F P hp loc s Q k O R hk B =>
  wpAny_allTrue_Or_cons (h F P hp loc s _ _ O R hk fun b P₁ hp₁ h₁ t₁ hk₁ l₁ R₁ => by
    cases b with
    | true => exact B true P₁ hp₁ h₁ t₁ hk₁ l₁ R₁
    | false => exact h' F P₁ hp₁ loc _ _ _ (O.mono l₁) R₁ hk₁ fun b P₂ hp₂ h₂ t₂ hk₂ l₂ R₂ => B b P₂ hp₂ h₂ t₂ hk₂ (l₁.trans l₂) R₂)
/-- and of two, as a value -/
noncomputable def and2E (f g : Ev V) : Ev V := fun loc hp k => f loc hp fun v hp => match v with | .bool b => iteB b (g loc hp k) (k (.bool false) hp) | _ => false
theorem snd_and2 {G sc x y pos f g} (h : SndE G sc x f) (h' : SndE G sc y g) : SndE G sc (.BoolOp .And [x, y] pos) (and2E f g) := fun F P hp loc s Q k O R hk B =>
  wpAny_And2 (h F P hp loc s _ _ O R hk fun v w P₁ hp₁ h₁ t₁ hk₁ l₁ R₁ r₁ => by
    cases r₁ with
    | bool b =>
      refine wpAny_truthy_bool ?_
      cases b with
      | false => exact B _ _ P₁ hp₁ h₁ t₁ hk₁ l₁ R₁ (.bool false)
      | true => exact h' F P₁ hp₁ loc _ _ _ (O.mono l₁) R₁ hk₁ fun v w P₂ hp₂ h₂ t₂ hk₂ l₂ R₂ r₂ => B v w P₂ hp₂ h₂ t₂ hk₂ (l₁.trans l₂) R₂ r₂
    | _ => cases hk₁)
noncomputable def ifE (t : Ev Bool) (f g : Ev V) : Ev V := fun loc hp k => t loc hp fun b hp => iteB b (f loc hp k) (g loc hp k)
theorem snd_if {G sc c x y pos t f g} (hc : SndT G sc c t) (h : SndE G sc x f) (h' : SndE G sc y g) : SndE G sc (.IfExp c x y pos) (ifE t f g) := fun F P hp loc s Q k O R hk B =>
  wpAny_IfExp (hc F P hp loc s _ _ O R hk fun b P₁ hp₁ h₁ t₁ hk₁ l₁ R₁ => by
    cases b with
    | true => exact h F P₁ hp₁ loc _ _ _ (O.mono l₁) R₁ hk₁ fun v w P₂ hp₂ h₂ t₂ hk₂ l₂ R₂ r₂ => B v w P₂ hp₂ h₂ t₂ hk₂ (l₁.trans l₂) R₂ r₂
    | false => exact h' F P₁ hp₁ loc _ _ _ (O.mono l₁) R₁ hk₁ fun v w P₂ hp₂ h₂ t₂ hk₂ l₂ R₂ r₂ => B v w P₂ hp₂ h₂ t₂ hk₂ (l₁.trans l₂) R₂ r₂)
noncomputable def negE (f : Ev V) : Ev V := fun loc hp k => f loc hp fun v hp => match v with | .int x => intK (-x) hp k | _ => false
theorem snd_neg {G sc e pos f} (h : SndE G sc e f) : SndE G sc (.UnaryOp .USub e pos) (negE f) := fun F P hp loc s Q k O R hk B =>
  wpAny_UnaryOp (h F P hp loc s _ _ O R hk fun v w P₁ hp₁ h₁ t₁ hk₁ l₁ R₁ r₁ => by
    cases r₁ with
    | int x t =>
      have hk₁ : intK (-x) hp₁ k = true := hk₁
      rw [intK_eq] at hk₁
      exact neg_int (B _ _ P₁ hp₁ h₁ _ hk₁ l₁ R₁ (.int _ _))
    | _ => cases hk₁)

noncomputable def icmp (r : Int → Int → Bool) : Bo := fun a b hp k => match a with
  | .int x => match b with
    | .int y => boolK (r x y) hp k
    | _ => false
  | _ => false
theorem snd_icmp {G op} {r : Int → Int → Bool} (h : ∀ (A : Around) (s : Shared) (Q : Value → Shared → Prop) (a b : Int) (t u : Tok), Q (.bool (r a b)) s → wpAny (model G.prog G.w) A (compareOp op (.int a t) (.int b u)) Q Ra s) : SndC G op (icmp r) :=
  fun F P hp s Q k a b x y hu R hk ra rb B => by
    cases ra with
    | int i t =>
      cases rb with
      | int j u =>
        have hk : boolK (r i j) hp k = true := hk
        rw [boolK_eq] at hk
        exact h _ _ _ _ _ _ _ (B _ _ P hp s.heap s.toks hk (.refl P) R (.bool _))
      | _ => cases hk
    | _ => cases hk
theorem snd_lt {G} : SndC G .Lt (icmp ltI) := snd_icmp fun A s Q a b t u h => lt_int (by rw [ltI_dec]; exact h)
theorem snd_le {G} : SndC G .LtE (icmp leI) := snd_icmp fun A s Q a b t u h => le_int (by rw [leI_dec]; exact h)
theorem snd_gt {G} : SndC G .Gt (icmp fun a b => ltI b a) := snd_icmp fun A s Q a b t u h => gt_int (by rw [ltI_dec]; exact h)
theorem snd_ge {G} : SndC G .GtE (icmp fun a b => leI b a) := snd_icmp fun A s Q a b t u h => ge_int (by rw [leI_dec]; exact h)

noncomputable def neO : Bo := fun a b hp k => match a with
  | .int x => match b with
    | .int y => boolK (!eqI x y) hp k
    | _ => false
  | .bool x => match b with
    | .bool y => boolK (x != y) hp k
    | _ => false
  | _ => false
theorem snd_ne {G} : SndC G .NotEq neO := fun F P hp s Q k a b x y hu R hk ra rb B => by
  cases ra with
  | int i t =>
    cases rb with
    | int j u =>
      have hk : boolK (!eqI i j) hp k = true := hk
      rw [boolK_eq] at hk
      exact ne_int (by rw [neI_bne]; exact B _ _ P hp s.heap s.toks hk (.refl P) R (.bool _))
    | _ => cases hk
  | bool c =>
    cases rb with
    | bool d =>
      have hk : boolK (c != d) hp k = true := hk
      rw [boolK_eq] at hk
      exact ne_bool (B _ _ P hp s.heap s.toks hk (.refl P) R (.bool _))
    | _ => cases hk
  | _ => cases hk
noncomputable def isnotO : Bo := fun a b hp k => match b with
  | .none => match a with
    | .none => k (.bool false) hp
    | .undef => false
    | _ => k (.bool true) hp
  | _ => false
theorem snd_isnot {G} : SndC G .IsNot isnotO := fun F P hp s Q k a b x y hu R hk ra rb B => by
  cases rb with
  | none =>
    cases ra with
    | none => exact isNot_none (B _ _ P hp s.heap s.toks hk (.refl P) R (.bool false))
    | bool b => exact isNot_none (B _ _ P hp s.heap s.toks hk (.refl P) R (.bool true))
    | int i t => exact isNot_none (B _ _ P hp s.heap s.toks hk (.refl P) R (.bool true))
    | ref h e => exact isNot_none (B _ _ P hp s.heap s.toks hk (.refl P) R (.bool true))
  | _ => cases hk

/-! ## equality of what was made, to the given depth -/
noncomputable def eqsE (f : V → V → (Bool → Bool) → Bool) (vs : List V) : List V → (Bool → Bool) → Bool :=
  List.rec (motive := fun _ => List V → (Bool → Bool) → Bool) (fun ws κ => match ws with | [] => κ true | _ :: _ => false)
    (fun v _ ih ws κ => match ws with | [] => false | w :: ws => f v w fun b => ih ws fun c => forceB (b && c) κ) vs
noncomputable def eqvE (n : Nat) (hp : Hp) : V → V → (Bool → Bool) → Bool :=
  Nat.rec (motive := fun _ => V → V → (Bool → Bool) → Bool) (fun _ _ _ => false) (fun _ ih v w κ => match v with
    | .int x => match w with
      | .int y => forceB (eqI x y) κ
      | _ => false
    | .ref i => match w with
      | .ref j => iteB (Nat.beq i j) (κ true) (lookE hp i fun c => match c with
        | .lst vs => lookE hp j fun c => match c with
          | .lst ws => iteB (Nat.beq vs.length ws.length) (eqsE ih vs ws κ) (κ false)
          | _ => false
        | .tup vs => lookE hp j fun c => match c with
          | .tup ws => andB (Nat.beq vs.length ws.length) (eqsE ih vs ws κ)
          | _ => false
        | _ => false)
      | _ => false
    | _ => false) n

theorem all_range (bs : List Bool) : (List.range bs.length).all (fun j => bs.getD j false) = bs.all id := by
  have : (List.range bs.length).map (fun j => bs.getD j false) = bs := by
    apply List.ext_getElem
    · simp
    · intro i h1 h2; simp at h1; simp [h1]
  have e := congrArg (fun l : List Bool => l.all id) this
  rw [List.all_map] at e
  exact e
theorem beq_true {a b : Nat} (h : Nat.beq a b = true) : a = b := Nat.eq_of_beq_eq_true h

open PySem.SeqAt in
theorem eqsE_true {f : V → V → (Bool → Bool) → Bool} {P : Ad} {A : Around} {s : Shared}
    (hf : ∀ v w x y κ, f v w κ = true → VR P v x → VR P w y → ∃ b, κ b = true ∧ EqAt A s x y b) :
    ∀ {vs ws : List V} {xs ys : List Value} {κ : Bool → Bool}, eqsE f vs ws κ = true → VRs P vs xs → VRs P ws ys →
      ∃ bs : List Bool, bs.length = vs.length ∧ ws.length = vs.length ∧ κ (bs.all id) = true ∧ ∀ j x y, xs[j]? = some x → ys[j]? = some y → EqAt A s x y (bs.getD j false)
  | [], [], _, _, κ, h, .nil, .nil => ⟨[], rfl, rfl, h, fun j x y hx => by simp at hx⟩
  | [], _ :: _, _, _, _, h, _, _ => by cases h
  | _ :: _, [], _, _, _, h, _, _ => by cases h
  | v :: vs, w :: ws, _, _, κ, h, .cons rv rvs, .cons rw rws => by
    obtain ⟨b, hb, eb⟩ := hf v w _ _ _ h rv rw
    obtain ⟨bs, h1, h2, h3, h4⟩ := eqsE_true hf (vs := vs) (ws := ws) hb rvs rws
    rw [forceB_eq] at h3
    refine ⟨b :: bs, by simp [h1], by simp [h2], by simpa using h3, fun j x y hx hy => ?_⟩
    cases j with
    | zero =>
      simp at hx hy
      subst hx hy
      simpa using eb
    | succ j =>
      simp at hx hy
      simpa using h4 j x y hx hy

open PySem.SeqAt in
theorem eqvE_true {F : Fm} {P : Ad} {hp : Hp} {s : Shared} (R : FRel F P hp s.heap) : ∀ (n : Nat) (A : Around) (v w : V) (x y : Value) (κ : Bool → Bool), A.units + n < cLine → eqvE n hp v w κ = true → VR P v x → VR P w y → ∃ b, κ b = true ∧ EqAt A s x y b
  | 0, _, _, _, _, _, _, _, h, _, _ => by cases h
  | n + 1, A, v, w, x, y, κ, hu, h, rv, rw => by
    have ih := eqvE_true R n
    cases rv with
    | int i t =>
      cases rw with
      | int j u =>
        have h : forceB (eqI i j) κ = true := h
        rw [forceB_eq] at h
        exact ⟨_, h, by rw [← eqI_beq]; exact EqAt.int_int _ _ _ _⟩
      | _ => cases h
    | @ref i a hi ea =>
      cases rw with
      | @ref j b hj eb =>
        replace h : iteB (Nat.beq i j) (κ true) (lookE hp i fun c => match c with
          | .lst vs => lookE hp j fun c => match c with
            | .lst ws => iteB (Nat.beq vs.length ws.length) (eqsE (eqvE n hp) vs ws κ) (κ false)
            | _ => false
          | .tup vs => lookE hp j fun c => match c with
            | .tup ws => andB (Nat.beq vs.length ws.length) (eqsE (eqvE n hp) vs ws κ)
            | _ => false
          | _ => false) = true := h
        cases q : Nat.beq i j with
        | true =>
          rw [q, iteB_t] at h
          have e := beq_true q
          subst e
          refine ⟨true, h, ?_⟩
          rw [ea, eb]
          exact EqAt.same _
        | false =>
          rw [q, iteB_f] at h
          have hne : a ≠ b := fun e => by
            rw [ea, eb] at e
            have := R.inj _ _ hi hj e
            rw [this, Nat.beq_refl] at q
            cases q
          obtain ⟨c, e1, h⟩ := lookE_true h
          cases c with
          | lst vs =>
            dsimp only at h
            obtain ⟨c, e2, h⟩ := lookE_true h
            cases c with
            | lst ws =>
              dsimp only at h
              obtain ⟨xs, _, _, hx, rx⟩ := R.lst e1
              obtain ⟨ys, _, _, hy, ry⟩ := R.lst e2
              rw [← ea] at hx
              rw [← eb] at hy
              have lx := rx.length
              have ly := ry.length
              cases z : Nat.beq vs.length ws.length with
              | false =>
                rw [z, iteB_f] at h
                refine ⟨false, h, EqAt.of_refs hne (RcAt.lists_lengths hx hy ?_ (by omega))⟩
                have : vs.length ≠ ws.length := fun e => by rw [e, Nat.beq_refl] at z; cases z
                simp
                omega
              | true =>
                rw [z, iteB_t] at h
                obtain ⟨bs, h1, h2, h3, h4⟩ := eqsE_true (A := A.in1) (s := s) (fun v w x y κ h r1 r2 => ih A.in1 v w x y κ (by show A.units + 1 + n < cLine; omega) h r1 r2) h rx ry
                refine ⟨_, h3, ?_⟩
                have key := EqAt.of_refs hne (RcAt.lists (A := A) (s := s) (e := fun j => bs.getD j false) hx hy (by simp; omega) (by omega) fun j i1 i2 => h4 j _ _ (by simp at i1 ⊢) (by simp at i2 ⊢))
                have e3 : xs.toArray.size = bs.length := by simp; omega
                rw [e3, all_range] at key
                exact key
            | _ => cases h
          | tup vs =>
            dsimp only at h
            obtain ⟨c, e2, h⟩ := lookE_true h
            cases c with
            | tup ws =>
              dsimp only at h
              obtain ⟨z, h⟩ := andB_true h
              obtain ⟨xs, hx, rx⟩ := R.tup e1
              obtain ⟨ys, hy, ry⟩ := R.tup e2
              rw [← ea] at hx
              rw [← eb] at hy
              have lx := rx.length
              have ly := ry.length
              obtain ⟨bs, h1, h2, h3, h4⟩ := eqsE_true (A := A.in1) (s := s) (fun v w x y κ h r1 r2 => ih A.in1 v w x y κ (by show A.units + 1 + n < cLine; omega) h r1 r2) h rx ry
              refine ⟨_, h3, ?_⟩
              have key := EqAt.of_refs hne (RcAt.tuples (A := A) (s := s) (e := fun j => bs.getD j false) hx hy (by omega) fun j i1 i2 => h4 j _ _ (by simp at i1 ⊢) (by simp at i2 ⊢))
              have e3 : min xs.toArray.size ys.toArray.size = bs.length := by simp; omega
              have e4 : (xs.toArray.size == ys.toArray.size) = true := by simp; omega
              rw [e3, all_range, e4, Bool.and_true] at key
              exact key
            | _ => cases h
          | _ => cases h
      | _ => cases h
    | _ => cases h

noncomputable def eqO : Bo := fun a b hp k => match a with
  | .int x => match b with
    | .int y => boolK (eqI x y) hp k
    | _ => false
  | .bool x => match b with
    | .bool y => boolK (x == y) hp k
    | _ => false
  | .ref i => match b with
    | .ref j => lookE hp i fun c => match c with
      | .lst vs => lookE hp j fun c => match c with
        | .lst ws => iteB (Nat.beq vs.length ws.length) (eqsE (eqvE 3 hp) vs ws fun b => k (.bool b) hp) (k (.bool false) hp)
        | _ => false
      | _ => false
    | _ => false
  | _ => false
open PySem.SeqAt in
theorem snd_eq {G} : SndC G .Eq eqO := fun F P hp s Q k a b x y hu R hk ra rb B => by
  cases ra with
  | int i t =>
    cases rb with
    | int j u =>
      have hk : boolK (eqI i j) hp k = true := hk
      rw [boolK_eq] at hk
      exact eq_int (by rw [eqI_beq]; exact B _ _ P hp s.heap s.toks hk (.refl P) R (.bool _))
    | _ => cases hk
  | bool c =>
    cases rb with
    | bool d =>
      have hk : boolK (c == d) hp k = true := hk
      rw [boolK_eq] at hk
      exact eq_bool (B _ _ P hp s.heap s.toks hk (.refl P) R (.bool _))
    | _ => cases hk
  | @ref i a hi ea =>
    cases rb with
    | @ref j b hj eb =>
      dsimp only [eqO] at hk
      obtain ⟨c, e1, hk⟩ := lookE_true hk
      cases c with
      | lst vs =>
        dsimp only at hk
        obtain ⟨c, e2, hk⟩ := lookE_true hk
        cases c with
        | lst ws =>
          dsimp only at hk
          obtain ⟨xs, _, _, hx, rx⟩ := R.lst e1
          obtain ⟨ys, _, _, hy, ry⟩ := R.lst e2
          rw [← ea] at hx
          rw [← eb] at hy
          have lx := rx.length
          have ly := ry.length
          cases z : Nat.beq vs.length ws.length with
          | false =>
            rw [z, iteB_f] at hk
            refine eq_list_lengthsAt hx hy ?_ (by omega) (B _ _ P hp s.heap s.toks hk (.refl P) R (.bool _))
            have : vs.length ≠ ws.length := fun e => by rw [e, Nat.beq_refl] at z; cases z
            simp
            omega
          | true =>
            rw [z, iteB_t] at hk
            obtain ⟨bs, h1, h2, h3, h4⟩ := eqsE_true (A := F.A.in1) (s := s) (fun v w x y κ h r1 r2 => eqvE_true R 3 F.A.in1 v w x y κ (by show F.A.units + 1 + 3 < cLine; omega) h r1 r2) hk rx ry
            refine eq_listAt (e := fun j => bs.getD j false) hx hy (by simp; omega) (by omega) (fun j i1 i2 => h4 j _ _ (by simp at i1 ⊢) (by simp at i2 ⊢)) ?_
            have e3 : xs.toArray.size = bs.length := by simp; omega
            rw [e3, all_range]
            exact B _ _ P hp s.heap s.toks h3 (.refl P) R (.bool _)
        | _ => cases hk
      | _ => cases hk
    | _ => cases hk
  | _ => cases hk

noncomputable def anyIE (x : Int) (vs : List V) : (Bool → Bool) → Bool :=
  List.rec (motive := fun _ => (Bool → Bool) → Bool) (fun κ => κ false) (fun v _ ih κ => match v with | .int y => ih fun b => forceB (eqI y x || b) κ | _ => false) vs
noncomputable def inO : Bo := fun a b hp k => match a with
  | .int x => match b with
    | .ref j => lookE hp j fun c => match c with
      | .tup vs => anyIE x vs fun b => k (.bool b) hp
      | _ => false
    | _ => false
  | _ => false
def isI (x : Int) (v : Value) : Bool := match v with | .int y _ => y == x | _ => false
theorem anyIE_true {x : Int} {P : Ad} : ∀ {vs : List V} {ws : List Value} {κ : Bool → Bool}, anyIE x vs κ = true → VRs P vs ws → κ (ws.any (isI x)) = true ∧ ∀ y ∈ ws, ∃ i t, y = .int i t
  | [], _, _, h, .nil => ⟨h, nofun⟩
  | v :: vs, _, κ, h, .cons rv rvs => by
    cases rv with
    | int i t =>
      obtain ⟨h1, h2⟩ := anyIE_true (vs := vs) h rvs
      rw [forceB_eq] at h1
      refine ⟨?_, fun y hy => ?_⟩
      · rw [List.any_cons]
        show κ ((i == x) || _) = true
        rw [eqI_beq]
        exact h1
      · rcases List.mem_cons.mp hy with rfl | hy
        · exact ⟨i, t, rfl⟩
        · exact h2 y hy
    | _ => cases h
open PySem.SeqAt in
theorem snd_in {G} : SndC G .In inO := fun F P hp s Q k a b x y hu R hk ra rb B => by
  cases ra with
  | int i t =>
    cases rb with
    | @ref j b hj eb =>
      dsimp only [inO] at hk
      obtain ⟨c, e1, hk⟩ := lookE_true hk
      cases c with
      | tup vs =>
        dsimp only at hk
        obtain ⟨xs, hx, rx⟩ := R.tup e1
        rw [← eb] at hx
        obtain ⟨h1, h2⟩ := anyIE_true hk rx
        refine in_tupleAt (isI i) hx (fun y hy => ?_) ?_
        · obtain ⟨i', t', rfl⟩ := h2 y (by simpa using hy)
          exact EqAt.int_int _ _ _ _
        · have e : xs.toArray.any (isI i) = xs.any (isI i) := by simp
          rw [e]
          exact B _ _ P hp s.heap s.toks h1 (.refl P) R (.bool _)
      | _ => cases hk
    | _ => cases hk
  | _ => cases hk

/-! ## items and slices -/
noncomputable def itemE (vs : List V) (x : Int) (κ : V → Bool) : Bool :=
  Int.rec (motive := fun _ => Bool) (fun n => getE vs n κ) (fun n => andB (Nat.blt n vs.length) (getE vs (vs.length - Nat.succ n) κ)) x
theorem itemE_true {vs : List V} {x : Int} {κ : V → Bool} (h : itemE vs x κ = true) :
    ∃ j v, seqIndex? x vs.length = some j ∧ vs[j]? = some v ∧ κ v = true ∧ (0 ≤ x → j = x.toNat) ∧ (x < 0 → -(vs.length : Int) ≤ x ∧ j = (x + vs.length).toNat) := by
  cases x with
  | ofNat n =>
    obtain ⟨v, e, hv⟩ := getE_true (l := vs) (i := n) h
    have hn : n < vs.length := (List.getElem?_eq_some_iff.mp e).1
    exact ⟨n, v, seqIndex_of (Int.natCast_nonneg n) (Int.ofNat_lt.mpr hn), e, hv, fun _ => rfl, fun q => absurd q (Int.not_lt.mpr (Int.natCast_nonneg n))⟩
  | negSucc n =>
    obtain ⟨hb, h⟩ := andB_true (k := getE vs (vs.length - Nat.succ n) κ) h
    have hb : n < vs.length := Nat.le_of_ble_eq_true hb
    obtain ⟨v, e, hv⟩ := getE_true h
    have h1 : -(vs.length : Int) ≤ Int.negSucc n := by omega
    have e2 : (Int.negSucc n + vs.length).toNat = vs.length - Nat.succ n := by omega
    refine ⟨_, v, seqIndex_neg (Int.negSucc_lt_zero n) h1, ?_, hv, fun q => by omega, fun _ => ⟨h1, rfl⟩⟩
    rw [e2]
    exact e
noncomputable def subE (f g : Ev V) : Ev V := fun loc hp k => f loc hp fun a hp => g loc hp fun b hp => match a with
  | .ref i => match b with
    | .int x => andB (smI x) (lookE hp i fun c => match c with
      | .lst vs => itemE vs x fun v => k v hp
      | .tup vs => itemE vs x fun v => k v hp
      | _ => false)
    | _ => false
  | _ => false
theorem getItem_at {G : Gl} {F : Fm} {P : Ad} {hp : Hp} {s : Shared} {Q : Value → Shared → Prop} {k : V → Hp → Bool} {i : Nat} {a : Addr} {x : Int} {t : Tok} {value slice : Expr} (R : FRel F P hp s.heap)
    (ea : a = P.f i) (hk : andB (smI x) (lookE hp i fun c => match c with
      | .lst vs => itemE vs x fun v => k v hp
      | .tup vs => itemE vs x fun v => k v hp
      | _ => false) = true) (hs : ∀ o i, subscripted slice false o i = operate [o, i] (getItem o i)) (B : BackV F P s k Q) :
    wpAny (model G.prog G.w) F.A (subscriptTail value slice (.ref a) (.int x t)) Q Ra s := by
  obtain ⟨s1, hk⟩ := andB_true hk
  have s1 := smI_fits s1
  obtain ⟨c, e1, hk⟩ := lookE_true hk
  cases c with
  | lst vs =>
    dsimp only at hk
    obtain ⟨xs, _, _, hx, rx⟩ := R.lst e1
    rw [← ea] at hx
    obtain ⟨j, v, hj, hv, hk, c1, c2⟩ := itemE_true hk
    obtain ⟨y, hy, ry⟩ := rx.get hv
    have lx := rx.length
    refine tail_any hx.typeIs slot_list_getitem.lookup ?_ (hs _ _)
    by_cases h0 : 0 ≤ x
    · exact wpAny_getItem_list hx h0 (by omega) (by rw [← c1 h0]; simpa using hy) (B _ _ P hp s.heap s.toks hk (.refl P) R ry)
    · obtain ⟨d1, d2⟩ := c2 (by omega)
      refine wpAny_getItem_list_neg hx (by omega) (by simp; omega) (by omega) ?_ (B _ _ P hp s.heap s.toks hk (.refl P) R ry)
      have : (x + (xs.toArray.size : Int)).toNat = j := by rw [d2, lx]; simp
      rw [this]
      simpa using hy
  | tup vs =>
    dsimp only at hk
    obtain ⟨xs, hx, rx⟩ := R.tup e1
    rw [← ea] at hx
    obtain ⟨j, v, hj, hv, hk, c1, c2⟩ := itemE_true hk
    obtain ⟨y, hy, ry⟩ := rx.get hv
    have lx := rx.length
    exact item_tupleT hx (by omega) (by omega) (by rw [← lx]; exact hj) hy (B _ _ P hp s.heap s.toks hk (.refl P) R ry) (hs _ _)
  | _ => cases hk
theorem snd_sub_ {G sc value slice pos f g} (h1 : SndE G sc value f) (h2 : SndE G sc slice g) (hs : ∀ o i, subscripted slice false o i = operate [o, i] (getItem o i)) : SndE G sc (.Subscript value slice pos) (subE f g) := fun F P hp loc s Q k O R hk B =>
  Subscript_ (h1 F P hp loc s _ _ O R hk fun v w P₁ hp₁ h₁ t₁ hk₁ l₁ R₁ r₁ =>
    h2 F P₁ hp₁ loc _ _ _ (O.mono l₁) R₁ hk₁ fun v' w' P₂ hp₂ h₂ t₂ hk₂ l₂ R₂ r₂ => by
      cases r₁ with
      | ref hi ea =>
        cases r₂ with
        | int x t =>
          exact getItem_at R₂ (ea.trans (l₂.2 _ hi).symm) hk₂ hs fun v₃ w₃ P₃ hp₃ h₃ t₃ hk₃ l₃ R₃ r₃ => B _ _ P₃ hp₃ h₃ t₃ hk₃ ((l₁.trans l₂).trans l₃) R₃ r₃
        | _ => cases hk₂
      | _ => cases hk₂)

noncomputable def uptoE (f g : Ev V) : Ev V := fun loc hp k => f loc hp fun a hp => g loc hp fun b hp => match a with
  | .ref i => match b with
    | .int x => andB (leI 0 x) (lookE hp i fun c => match c with
      | .lst vs => andB (shortL vs) (newE hp (.lst (vs.take x.toNat)) fun n hp => k (.ref n) hp)
      | _ => false)
    | _ => false
  | _ => false
theorem slicePick_take (items : Array Value) (y : Int) (h0 : 0 ≤ y) : slicePick items none (some y) none = (items.toList.take y.toNat).toArray := by
  by_cases h : y ≤ items.size
  · obtain ⟨n, rfl⟩ := Int.eq_ofNat_of_zero_le h0
    exact slicePick_upto items n (by omega)
  · have e1 : sliceBounds none (some y) none items.size = sliceBounds none (some (items.size : Int)) none items.size := by
      simp only [sliceBounds, Option.getD_none]
      have h2 : ¬ (y < 0) := by omega
      have h3 : ¬ ((items.size : Int) < 0) := by omega
      simp only [h2, h3, if_false, show (1 : Int) > 0 by decide, if_true]
      congr 1
      congr 1
      omega
    have e2 : slicePick items none (some y) none = slicePick items none (some (items.size : Int)) none := by
      unfold slicePick
      rw [e1]
    rw [e2, slicePick_upto items items.size (Nat.le_refl _), List.take_of_length_le (by simp), List.take_of_length_le (by simp; omega)]
theorem snd_upto {G sc value upper p pos f g} (h1 : SndE G sc value f) (h2 : SndE G sc upper g) (ht : ∀ o r, letTemporaryGo value o r = pure ()) :
    SndE G sc (.Subscript value (.Slice none (some upper) none p) pos) (uptoE f g) := fun F P hp loc s Q k O R hk B =>
  Subscript_ (h1 F P hp loc s _ _ O R hk fun v w P₁ hp₁ h₁ t₁ hk₁ l₁ R₁ r₁ =>
    wpAny_Slice (evalPart_none_step (evalPart_some_step (h2 F P₁ hp₁ loc _ _ _ (O.mono l₁) R₁ hk₁ fun v' w' P₂ hp₂ h₂ t₂ hk₂ l₂ R₂ r₂ => evalPart_none_step (by
      cases r₁ with
      | ref hi ea =>
        cases r₂ with
        | int x t =>
          obtain ⟨s1, hk₂⟩ := andB_true hk₂
          obtain ⟨c, e1, hk₂⟩ := lookE_true hk₂
          cases c with
          | lst vs =>
            dsimp only at hk₂
            obtain ⟨s2, hk₂⟩ := andB_true hk₂
            have s2 := shortL_le s2
            obtain ⟨xs, _, _, hx, rx⟩ := R₂.lst e1
            rw [← (ea.trans (l₂.2 _ hi).symm)] at hx
            have lx := rx.length
            refine slice_list R₂.fr R₂.led hx .none (.int x t) (fun h' F' N' => ?_) rfl (ht _) (by rw [sizeLine_eq]; simp; omega)
            rw [slicePick_take _ _ (leI_le s1)] at N'
            rw [newE_eq, R₂.nx] at hk₂
            exact B _ _ _ _ h' _ hk₂ ((l₁.trans l₂).trans (P₂.le_ext _)) (R₂.adds (R₂.move F' fun p hp => N' p (.tail _ hp)) (Nat.le_succ _) (N' _ (.head _)).1 (.lst _ _ ((rx.take _).mono (P₂.le_ext _)))) (.ref (Nat.lt_succ_self _) (P₂.ext_at _).symm)
          | _ => cases hk₂
        | _ => cases hk₂
      | _ => cases hk₂)))))

/-! ## displays -/
noncomputable def tupE (f : Ev (List V)) : Ev V := fun loc hp k => f loc hp fun vs hp => andB (shortL vs) (newE hp (.tup vs) fun n hp => k (.ref n) hp)
noncomputable def lstE (f : Ev (List V)) : Ev V := fun loc hp k => f loc hp fun vs hp => andB (shortL vs) (newE hp (.lst vs) fun n hp => k (.ref n) hp)
theorem snd_tuple {G sc es kk pos f} (h : SndL G sc es f) : SndE G sc (.Tuple es kk pos) (tupE f) := fun F P hp loc s Q k O R hk B =>
  wpAny_Tuple (h F P hp loc s _ _ pos O R hk fun vs ws P₁ hp₁ h₁ t₁ hk₁ l₁ R₁ r₁ => by
    obtain ⟨s1, hk₁⟩ := andB_true hk₁
    have s1 := shortL_le s1
    have l := r₁.length
    refine ⟨by rw [sizeLine_eq]; omega, ?_⟩
    rw [newE_eq, R₁.nx] at hk₁
    exact B _ _ _ _ _ t₁ hk₁ (l₁.trans (P₁.le_ext _)) (R₁.alloc rfl (.tup ws _ rfl rfl r₁)) (.ref (Nat.lt_succ_self _) (P₁.ext_at _).symm))
theorem snd_list {G sc es pos f} (h : SndL G sc es f) : SndE G sc (.List es pos) (lstE f) := fun F P hp loc s Q k O R hk B =>
  wpAny_List (h F P hp loc s _ _ pos O R hk fun vs ws P₁ hp₁ h₁ t₁ hk₁ l₁ R₁ r₁ => by
    obtain ⟨s1, hk₁⟩ := andB_true hk₁
    have s1 := shortL_le s1
    have l := r₁.length
    refine ⟨by rw [sizeLine_eq]; omega, ?_⟩
    rw [newE_eq, R₁.nx] at hk₁
    exact B _ _ _ _ _ t₁ hk₁ (l₁.trans (P₁.le_ext _)) (R₁.alloc rfl (.lst ws _ r₁)) (.ref (Nat.lt_succ_self _) (P₁.ext_at _).symm))

/-! ## calls -/
abbrev Fn := List V → Hp → (V → Hp → Bool) → Bool
def CallS (G : Gl) (d : Nat) (f : Value) (g : Fn) : Prop :=
  ∀ (F : Fm) (P : Ad) (hp : Hp) (s : Shared) (Q : Value → Shared → Prop) (k : V → Hp → Bool) (vs : List V) (ws : List Value),
    FrameOK G d F.A F.h₀ F.L → FRel F P hp s.heap → g vs hp k = true → VRs P vs ws → BackV F P s k Q → wpAny (model G.prog G.w) F.A (call f ws) Q Ra s
def NameV (G : Gl) (sc : Sc) (x : Str) (f : Value) : Prop :=
  ∀ (F : Fm) (P : Ad) (hp : Hp) (loc : List V) (s : Shared) (Q : Value → Shared → Prop) (pos : Pos), OK G sc F P loc → FRel F P hp s.heap → Q f s → wpAny (model G.prog G.w) F.A (eval (.Name x pos) F.env) Q Ra s
theorem nameV_fn {G sc x v} (e : nsIn G.K mainGlobals x = some (some v)) (hk : sc.scope.names.lookup x = some .globalImplicit) (hd : (x == ("__debug__" : Str)) = false) : NameV G sc x v := fun F P hp loc s Q pos O R h =>
  Name_function_global (by rw [O.scp]; exact O.kind) (by show F.env.scope.names.lookup x = _; rw [O.scp]; exact hk)
    (loadGlobal_global (by rw [O.gl]; exact O.fr.T.g.keeps R.fr.keep) (mg_of O.fr.X O.fr.T.g e) h) hd
theorem nameV_b {G sc x v} (e : nsIn G.K mainGlobals x = some none) (hv : bootBuiltins x = some v) (hn : x ≠ "__name__") (hk : sc.scope.names.lookup x = some .globalImplicit) (hd : (x == ("__debug__" : Str)) = false) : NameV G sc x v := fun F P hp loc s Q pos O R h =>
  Name_function_global (by rw [O.scp]; exact O.kind) (by show F.env.scope.names.lookup x = _; rw [O.scp]; exact hk)
    (loadGlobal_builtin (by rw [O.gl]; exact O.fr.T.g.keeps R.fr.keep) (mg_none_of O.fr.X O.fr.T.g e) (by rw [O.bi]; exact O.fr.T.b.keeps R.fr.keep) ((O.fr.T.builtins x hn).trans hv) h) hd

def callE (fa : Ev (List V)) (g : Fn) : Ev V := fun loc hp k => fa loc hp fun vs hp => g vs hp k
theorem snd_call {G sc x p e es pos f fa g d} (hn : NameV G sc x (.ref f)) (hf : keepIn G.K (.ref f) = true) (hd : d ≤ sc.d) (ha : SndL G sc (e :: es) fa) (hc : CallS G d (.ref f) g)
    (he : ∀ env, starEach (e :: es) env = (false, eval e env) :: starEach es env) (hp' : ∀ env pos, (backTo pos (starEach es env)).any (·.1) = false) : SndE G sc (.Call (.Name x p) (e :: es) [] pos) (callE fa g) := fun F P hp loc s Q k O R hk B => by
  refine wpAny_Call_Name_kw (hn F P hp loc s _ p O R ?_)
  show wpAny _ _ (callWith pos (.ref f) [] (backTo pos (starEach (e :: es) F.env)) []) _ _ s
  refine callWith_K (O.fr.X.keeps R.fr.keep) hf (ha F P hp loc s _ _ pos O R hk fun vs ws P₁ hp₁ h₁ t₁ hk₁ l₁ R₁ r₁ => ⟨O.fr.X.keeps R₁.fr.keep, ?_⟩) (he _) (hp' _ _)
  rw [List.nil_append]
  exact hc F P₁ hp₁ _ Q k vs ws (O.fr.less hd) R₁ hk₁ r₁ fun v₂ w₂ P₂ hp₂ h₂ t₂ hk₂ l₂ R₂ r₂ => B _ _ P₂ hp₂ h₂ t₂ hk₂ (l₁.trans l₂) R₂ r₂
theorem snd_callB {G sc x p e es pos id fa g d} (hn : NameV G sc x (.builtin id)) (hd : d ≤ sc.d) (ha : SndL G sc (e :: es) fa) (hc : CallS G d (.builtin id) g)
    (he : ∀ env, starEach (e :: es) env = (false, eval e env) :: starEach es env) (hp' : ∀ env pos, (backTo pos (starEach es env)).any (·.1) = false) : SndE G sc (.Call (.Name x p) (e :: es) [] pos) (callE fa g) := fun F P hp loc s Q k O R hk B => by
  refine wpAny_Call_Name_kw (hn F P hp loc s _ p O R ?_)
  show wpAny _ _ (callWith pos (.builtin id) [] (backTo pos (starEach (e :: es) F.env)) []) _ _ s
  refine PyProof.Rows.callWith_builtin1 (ha F P hp loc s _ _ pos O R hk fun vs ws P₁ hp₁ h₁ t₁ hk₁ l₁ R₁ r₁ => ?_) (he _) (hp' _ _)
  exact hc F P₁ hp₁ _ Q k vs ws (O.fr.less hd) R₁ hk₁ r₁ fun v₂ w₂ P₂ hp₂ h₂ t₂ hk₂ l₂ R₂ r₂ => B _ _ P₂ hp₂ h₂ t₂ hk₂ (l₁.trans l₂) R₂ r₂
theorem snd_callT {G sc x p e es pos T fa g d} (hn : NameV G sc x (.type T)) (hd : d ≤ sc.d) (ha : SndL G sc (e :: es) fa) (hc : CallS G d (.type T) g)
    (he : ∀ env, starEach (e :: es) env = (false, eval e env) :: starEach es env) (hp' : ∀ env pos, (backTo pos (starEach es env)).any (·.1) = false) : SndE G sc (.Call (.Name x p) (e :: es) [] pos) (callE fa g) := fun F P hp loc s Q k O R hk B => by
  refine wpAny_Call_Name_kw (hn F P hp loc s _ p O R ?_)
  show wpAny _ _ (callWith pos (.type T) [] (backTo pos (starEach (e :: es) F.env)) []) _ _ s
  refine PyProof.Rows.callWith_type1 (ha F P hp loc s _ _ pos O R hk fun vs ws P₁ hp₁ h₁ t₁ hk₁ l₁ R₁ r₁ => ?_) (he _) (hp' _ _)
  exact hc F P₁ hp₁ _ Q k vs ws (O.fr.less hd) R₁ hk₁ r₁ fun v₂ w₂ P₂ hp₂ h₂ t₂ hk₂ l₂ R₂ r₂ => B _ _ P₂ hp₂ h₂ t₂ hk₂ (l₁.trans l₂) R₂ r₂

/-! ## built-in functions -/
noncomputable def lenF : Fn := fun vs hp k => match vs with
  | [] => false
  | v :: r => match r with
    | [] => match v with
      | .ref i => lookE hp i fun c => match c with
        | .lst xs => andB (shortL xs) (forceN xs.length fun n => k (.int (Int.ofNat n)) hp)
        | _ => false
      | _ => false
    | _ :: _ => false
theorem call_len {G d} : CallS G d (.builtin "len") lenF := fun F P hp s Q k vs ws O R hk r B => by
  cases r with
  | nil => cases hk
  | cons rv r =>
    cases r with
    | cons => cases hk
    | nil =>
      cases rv with
      | @ref i a hi ea =>
        dsimp only [lenF] at hk
        obtain ⟨c, e1, hk⟩ := lookE_true hk
        cases c with
        | lst xs =>
          dsimp only at hk
          obtain ⟨s1, hk⟩ := andB_true hk
          rw [forceN_eq] at hk
          obtain ⟨ys, _, _, hx, rx⟩ := R.lst e1
          rw [← ea] at hx
          have s1 := shortL_le s1
          have lx := rx.length
          refine call_len_list hx (by simp; omega) ?_
          have e : ((ys.toArray.size : Nat) : Int) = Int.ofNat xs.length := by simp [lx]
          rw [e]
          exact B _ _ P hp s.heap _ hk (.refl P) R (.int _ _)
        | _ => cases hk
      | _ => cases hk
noncomputable def listF : Fn := fun vs hp k => match vs with
  | [] => false
  | v :: r => match r with
    | [] => match v with
      | .ref i => lookE hp i fun c => match c with
        | .lst xs => andB (shortL xs) (newE hp (.lst xs) fun n hp => k (.ref n) hp)
        | _ => false
      | _ => false
    | _ :: _ => false
theorem call_list {G d} : CallS G d (.type "list") listF := fun F P hp s Q k vs ws O R hk r B => by
  cases r with
  | nil => cases hk
  | cons rv r =>
    cases r with
    | cons => cases hk
    | nil =>
      cases rv with
      | @ref i a hi ea =>
        dsimp only [listF] at hk
        obtain ⟨c, e1, hk⟩ := lookE_true hk
        cases c with
        | lst xs =>
          dsimp only at hk
          obtain ⟨s1, hk⟩ := andB_true hk
          obtain ⟨ys, n, g, hx, rx⟩ := R.lst e1
          rw [← ea] at g
          have s1 := shortL_le s1
          have lx := rx.length
          refine call_list_seq a (.inl rfl) g rfl rfl (fun h' c' keep ho => ?_) (by rw [sizeLine_eq]; simp; omega)
          exact backNew (tk := s.toks) B R hk (R.adds (R.keeps keep) (Nat.le_refl _) ho (.lst _ _ (rx.mono (P.le_ext _))))
        | _ => cases hk
      | _ => cases hk
noncomputable def maxF : Fn := fun vs hp k => match vs with
  | [] => false
  | v :: r => match r with
    | [] => false
    | w :: r => match r with
      | [] => match v with
        | .int x => match w with
          | .int y => iteB (ltI x y) (k (.int y) hp) (k (.int x) hp)
          | _ => false
        | _ => false
      | _ :: _ => false
theorem call_max {G d} : CallS G d (.builtin "max") maxF := fun F P hp s Q k vs ws O R hk r B => by
  cases r with
  | nil => cases hk
  | cons rv r =>
    cases r with
    | nil => cases hk
    | cons rw r =>
      cases r with
      | cons => cases hk
      | nil =>
        cases rv with
        | int x t =>
          cases rw with
          | int y u =>
            have hk : iteB (ltI x y) (k (.int y) hp) (k (.int x) hp) = true := hk
            refine max_two_ints O.hd fun h' tk keep => ?_
            by_cases c : y > x
            · rw [if_pos c]
              rw [(Z.ltB_iff x y).mpr c |> fun (e : Z.ltB x y = true) => (show ltI x y = true from e)] at hk
              exact B _ _ P hp h' tk hk (.refl P) (R.keeps keep) (.int _ _)
            · rw [if_neg c]
              have e : ltI x y = false := by
                cases q : ltI x y with
                | false => rfl
                | true => exact absurd (ltI_lt q) c
              rw [e] at hk
              exact B _ _ P hp h' tk hk (.refl P) (R.keeps keep) (.int _ _)
          | _ => cases hk
        | _ => cases hk

def Fm.at (F : Fm) (m : Str → Option Value) : Fm := { F with m := m, cm := m }
structure FnM (F : Fm) : Prop where
  l : F.env.locals = F.L
  c : F.cm = F.m
theorem OK.at {G : Gl} {sc : Sc} {F : Fm} {P P' : Ad} {loc loc' : List V} {m' : Str → Option Value} (O : OK G sc F P loc) (M : FnM F) (l : P.le P') (h : LocR P' sc.vars loc' m') : OK G sc (F.at m') P' loc' :=
  ⟨O.fr, O.scp, O.gl, O.bi, O.kind, .inl ⟨M.l, rfl⟩, h, O.cel.mono l⟩
theorem FnM.at {F : Fm} (M : FnM F) (m' : Str → Option Value) : FnM (F.at m') := ⟨M.l, rfl⟩

abbrev NextS (F : Fm) (sc : Sc) (P : Ad) (s : Shared) (kn : List V → Hp → Bool) (Q : Shared → Prop) : Prop :=
  ∀ loc' m' P' hp' h' tk, kn loc' hp' = true → P.le P' → Rel F.h₀ F.L m' F.fix F.frz P' hp' h' → LocR P' sc.vars loc' m' → Q { s with heap := h', toks := tk }
abbrev RetS (F : Fm) (P : Ad) (s : Shared) (kr : V → Hp → Bool) (Q : Value → Shared → Prop) : Prop :=
  ∀ v w m' P' hp' h' tk, kr v hp' = true → P.le P' → Rel F.h₀ F.L m' F.fix F.frz P' hp' h' → VR P' v w → Q w { s with heap := h', toks := tk }
abbrev Sv := List V → Hp → (List V → Hp → Bool) → (V → Hp → Bool) → Bool
abbrev Av (α : Type) := α → List V → Hp → (List V → Hp → Bool) → Bool

def SndS (G : Gl) (sc : Sc) (st : Stmt) (f : Sv) : Prop :=
  ∀ (F : Fm) (P : Ad) (hp : Hp) (loc : List V) (s : Shared) (Q : Flow → Shared → Prop) (kn : List V → Hp → Bool) (kr : V → Hp → Bool),
    OK G sc F P loc → FnM F → FRel F P hp s.heap → f loc hp kn kr = true → NextS F sc P s kn (Q .next) → RetS F P s kr (fun w => Q (.ret w)) → wpAny (model G.prog G.w) F.A (exec st F.env) Q Ra s
def SndSS (G : Gl) (sc : Sc) (sts : List Stmt) (f : Sv) : Prop :=
  ∀ (F : Fm) (P : Ad) (hp : Hp) (loc : List V) (s : Shared) (Q : Flow → Shared → Prop) (kn : List V → Hp → Bool) (kr : V → Hp → Bool),
    OK G sc F P loc → FnM F → FRel F P hp s.heap → f loc hp kn kr = true → NextS F sc P s kn (Q .next) → RetS F P s kr (fun w => Q (.ret w)) → wpAny (model G.prog G.w) F.A (execs sts F.env) Q Ra s
def SndA (G : Gl) (sc : Sc) (target : Expr) (g : Av V) : Prop :=
  ∀ (F : Fm) (P : Ad) (hp : Hp) (loc : List V) (s : Shared) (Q : Unit → Shared → Prop) (k : List V → Hp → Bool) (v : V) (w : Value),
    OK G sc F P loc → FnM F → FRel F P hp s.heap → g v loc hp k = true → VR P v w → NextS F sc P s k (Q ()) → wpAny (model G.prog G.w) F.A (assign target F.env w) Q Ra s
def SndAs (G : Gl) (sc : Sc) (ts : List Expr) (g : Av (List V)) : Prop :=
  ∀ (F : Fm) (P : Ad) (hp : Hp) (loc : List V) (s : Shared) (Q : Unit → Shared → Prop) (k : List V → Hp → Bool) (vs : List V) (ws : List Value),
    OK G sc F P loc → FnM F → FRel F P hp s.heap → g vs loc hp k = true → VRs P vs ws → NextS F sc P s k (Q ()) → wpAny (model G.prog G.w) F.A (assignInOrder ((assignEach ts F.env).map (·.2)) ws) Q Ra s
def SndSt (G : Gl) (sc : Sc) (x : Str) (g : Av V) : Prop :=
  ∀ (F : Fm) (P : Ad) (hp : Hp) (loc : List V) (s : Shared) (Q : Unit → Shared → Prop) (k : List V → Hp → Bool) (v : V) (w : Value),
    OK G sc F P loc → FnM F → FRel F P hp s.heap → g v loc hp k = true → VR P v w → NextS F sc P s k (Q ()) → wpAny (model G.prog G.w) F.A (storeName F.env x w) Q Ra s
def SndSts (G : Gl) (sc : Sc) (xs : List Str) (g : Av (List V)) : Prop :=
  ∀ (F : Fm) (P : Ad) (hp : Hp) (loc : List V) (s : Shared) (Q : Unit → Shared → Prop) (k : List V → Hp → Bool) (vs : List V) (ws : List Value),
    OK G sc F P loc → FnM F → FRel F P hp s.heap → g vs loc hp k = true → VRs P vs ws → NextS F sc P s k (Q ()) → wpAny (model G.prog G.w) F.A (assignInOrder (xs.map fun n => bindName F.env n) ws) Q Ra s

/-! ## stores -/
theorem Rel.setL {h₀ h h' : Heap} {L : Addr} {m m' : Str → Option Value} {fix : List (Addr × Obj)} {frz : (Nat → Option Obj)} {P : Ad} {hp : Hp} (R : Rel h₀ L m fix frz P hp h) (hn : h'.Ns L m') (hs : Heap.SameBut L h h') : Rel h₀ L m' fix frz P hp h' where
  fr := R.fr.set hn hs
  fx := R.fx.set hs
  live := fun k hk => let ⟨a, b, f, o, e⟩ := R.live k hk; ⟨a, b, f, o, (hs.2 _ a).trans e⟩
  inj := R.inj
  own := fun k c hc => let ⟨a, o, e, r⟩ := R.own k c hc; ⟨a, o, (hs.2 _ (R.live k a).1).trans e, r⟩
  nx := R.nx
theorem LocR.set {P : Ad} {vars : List Str} {loc : List V} {cm : Str → Option Value} {i : Nat} {x : Str} {v : V} {w : Value} (h : LocR P vars loc cm) (hd : vars.Nodup) (hi : VarAt vars x i) (r : VR P v w) :
    LocR P vars (loc.set i v) (fun y => if y = x then some w else cm y) := by
  intro j y u hj hu hn
  by_cases e : j = i
  · subst e
    have : y = x := Option.some.inj (hj.symm.trans hi)
    subst this
    rw [List.getElem?_set] at hu
    simp only [if_true] at hu
    split at hu
    · cases hu
      exact ⟨w, if_pos rfl, r⟩
    · cases hu
  · rw [List.getElem?_set, if_neg (fun q => e q.symm)] at hu
    obtain ⟨w', h1, h2⟩ := h j y u hj hu hn
    have : y ≠ x := fun q => by
      subst q
      have hj' := List.getElem?_eq_some_iff.mp hj
      have hi' := List.getElem?_eq_some_iff.mp (show vars[i]? = some y from hi)
      obtain ⟨l1, e1⟩ := hj'
      obtain ⟨l2, e2⟩ := hi'
      exact e ((List.getElem_inj hd).mp (e1.trans e2.symm))
    exact ⟨w', (if_neg this).trans h1, h2⟩
noncomputable def stL (i : Nat) : Av V := fun v loc hp k => setE loc i v fun loc => k loc hp
theorem snd_stL {G sc x i} (hi : VarAt sc.vars x i) (hk : sc.scope.names.lookup x = some .local) (hd : sc.vars.Nodup) : SndSt G sc x (stL i) := fun F P hp loc s Q k v w O M R hkk r B => by
  have hkk : setE loc i v (fun loc => k loc hp) = true := hkk
  rw [setE_eq] at hkk
  refine wpAny_storeName_local (m := F.m) (by show F.env.scope.names.lookup x = _; rw [O.scp]; exact hk) (by rw [M.l]; exact R.fr.ns) (fun h' hn hs => ?_) (by rw [O.scp, O.kind]; rfl)
  rw [M.l] at hn hs
  exact B _ _ P hp h' _ hkk (.refl P) (R.setL hn hs) (by have := O.loc.set hd hi r; rw [M.c] at this; exact this)
noncomputable def stC (n : Nat) : Av V := fun v loc hp k => lookE hp n fun c => match c with | .cel _ => updE hp n (.cel v) fun hp => k loc hp | _ => false
theorem snd_stC {G sc x n} (hc : sc.cells.lookup x = some n) (hk : sc.scope.names.lookup x = some .cell) : SndSt G sc x (stC n) := fun F P hp loc s Q k v w O M R hkk r B => by
  dsimp only [stC] at hkk
  obtain ⟨c, e, hkk⟩ := lookE_true hkk
  cases c with
  | cel u =>
    dsimp only at hkk
    rw [updE_eq] at hkk
    obtain ⟨_, hl⟩ := O.cel x n hc
    obtain ⟨_, o, ho, hor⟩ := R.own n _ e
    have hic : ∃ v₀, s.heap.IsCell (P.f n) v₀ := by
      cases hor.out (by intro c' q; cases q) with
      | cel0 h => exact ⟨_, o, ho, h⟩
      | cel w h _ => exact ⟨_, o, ho, h⟩
    obtain ⟨v₀, hic⟩ := hic
    refine wpAny_storeName_cell (by rw [O.scp]; exact O.kind) (by show F.env.scope.names.lookup x = _; rw [O.scp]; exact hk) hl hic (fun h' hv hs => ?_)
    obtain ⟨o', ho', hd'⟩ := hv
    exact B _ F.m P _ h' s.toks hkk (.refl P) (R.change e hs ho' (.cel w hd' r)) (by rw [← M.c]; exact O.loc)
  | _ => cases hkk
theorem snd_aName {G sc x pos g} (h : SndSt G sc x g) : SndA G sc (.Name x pos) g := fun F P hp loc s Q k v w O M R hk r B =>
  assign_Name (h F P hp loc s Q k v w O M R hk r B)
def asNil : Av (List V) := fun vs loc hp k => match vs with | [] => k loc hp | _ :: _ => false
def asCons (g : Av V) (gs : Av (List V)) : Av (List V) := fun vs loc hp k => match vs with | [] => false | v :: r => g v loc hp fun loc hp => gs r loc hp k
theorem snd_as_nil {G sc} : SndAs G sc [] asNil := fun F P hp loc s Q k vs ws O M R hk r B => by
  cases r with
  | nil => exact assignInOrder_nil (B loc F.m P hp s.heap s.toks hk (.refl P) R (by rw [← M.c]; exact O.loc))
  | cons => cases hk
theorem snd_as_cons {G sc t ts g gs} (h : SndA G sc t g) (h' : SndAs G sc ts gs) (he : ∀ env, assignEach (t :: ts) env = (false, assign t env) :: assignEach ts env) : SndAs G sc (t :: ts) (asCons g gs) := fun F P hp loc s Q k vs ws O M R hk r B => by
  cases r with
  | nil => cases hk
  | cons rv r =>
    rw [he, List.map_cons]
    refine assignInOrder_cons (h F P hp loc s _ _ _ _ O M R hk rv fun loc₁ m₁ P₁ hp₁ h₁ t₁ hk₁ l₁ R₁ L₁ => ?_)
    exact h' (F.at m₁) P₁ hp₁ loc₁ _ Q k _ _ (O.at M l₁ L₁) (M.at m₁) R₁ hk₁ (r.mono l₁) fun loc₂ m₂ P₂ hp₂ h₂ t₂ hk₂ l₂ R₂ L₂ => B loc₂ m₂ P₂ hp₂ h₂ t₂ hk₂ (l₁.trans l₂) R₂ L₂
theorem snd_sts_nil {G sc} : SndSts G sc [] asNil := fun F P hp loc s Q k vs ws O M R hk r B => by
  cases r with
  | nil => exact assignInOrder_nil (B loc F.m P hp s.heap s.toks hk (.refl P) R (by rw [← M.c]; exact O.loc))
  | cons => cases hk
theorem snd_sts_cons {G sc x xs g gs} (h : SndSt G sc x g) (h' : SndSts G sc xs gs) : SndSts G sc (x :: xs) (asCons g gs) := fun F P hp loc s Q k vs ws O M R hk r B => by
  cases r with
  | nil => cases hk
  | cons rv r =>
    rw [List.map_cons]
    refine assignInOrder_cons (bindName_ (h F P hp loc s _ _ _ _ O M R hk rv fun loc₁ m₁ P₁ hp₁ h₁ t₁ hk₁ l₁ R₁ L₁ => ?_))
    exact h' (F.at m₁) P₁ hp₁ loc₁ _ Q k _ _ (O.at M l₁ L₁) (M.at m₁) R₁ hk₁ (r.mono l₁) fun loc₂ m₂ P₂ hp₂ h₂ t₂ hk₂ l₂ R₂ L₂ => B loc₂ m₂ P₂ hp₂ h₂ t₂ hk₂ (l₁.trans l₂) R₂ L₂

noncomputable def unpE (n : Nat) (g : Av (List V)) : Av V := fun v loc hp k => match v with
  | .ref i => lookE hp i fun c => match c with
    | .tup vs => andB (Nat.beq vs.length n) (g vs loc hp k)
    | _ => false
  | _ => false
theorem extBut_keeps {h h' : Heap} (he : Heap.ExtBut h.objs.size h h') : ∀ b o, h.get? b = some o → h'.get? b = some o := fun b o e => he b o (Nat.ne_of_lt (Heap.lt_size e)) e
theorem snd_aTuple {G sc ts kk pos n g} (h : SndAs G sc ts g) (hn : ∀ env, (assignEach ts env).length = n) (hs : ∀ env, (assignEach ts env).findIdx? (·.1) = Option.none) : SndA G sc (.Tuple ts kk pos) (unpE n g) := fun F P hp loc s Q k v w O M R hk r B => by
  cases r with
  | @ref i a hi ea =>
    dsimp only [unpE] at hk
    obtain ⟨c, e, hk⟩ := lookE_true hk
    cases c with
    | tup vs =>
      dsimp only at hk
      obtain ⟨hb, hk⟩ := andB_true hk
      have hb := beq_true hb
      obtain ⟨xs, hx, rx⟩ := R.tup e
      rw [← ea] at hx
      have lx := rx.length
      refine assign_Tuple_tuple O.fr.hd hx (by rw [hn]; simp; omega) (hs _) fun h' he => ?_
      exact h F P hp loc { s with heap := h' } Q k vs _ O M (R.keeps (extBut_keeps he)) hk (by simpa using rx) B
    | _ => cases hk
  | _ => cases hk

/-! ## statements -/
theorem snd_ss_nil {G sc} : SndSS G sc [] (fun loc hp kn _ => kn loc hp) := fun F P hp loc s Q kn kr O M R hk N _ =>
  wpAny_execs_nil (N loc F.m P hp s.heap s.toks hk (.refl P) R (by rw [← M.c]; exact O.loc))
def seqS (f g : Sv) : Sv := fun loc hp kn kr => f loc hp (fun loc hp => g loc hp kn kr) kr
theorem snd_ss_cons {G sc st sts f g} (h : SndS G sc st f) (h' : SndSS G sc sts g) : SndSS G sc (st :: sts) (seqS f g) := fun F P hp loc s Q kn kr O M R hk N T =>
  wpAny_execs_cons (h F P hp loc s _ _ _ O M R hk
    (fun loc₁ m₁ P₁ hp₁ h₁ t₁ hk₁ l₁ R₁ L₁ => h' (F.at m₁) P₁ hp₁ loc₁ _ Q kn kr (O.at M l₁ L₁) (M.at m₁) R₁ hk₁
      (fun loc₂ m₂ P₂ hp₂ h₂ t₂ hk₂ l₂ R₂ L₂ => N loc₂ m₂ P₂ hp₂ h₂ t₂ hk₂ (l₁.trans l₂) R₂ L₂)
      fun v w m₂ P₂ hp₂ h₂ t₂ hk₂ l₂ R₂ r₂ => T v w m₂ P₂ hp₂ h₂ t₂ hk₂ (l₁.trans l₂) R₂ r₂) T)
def asgS (f : Ev V) (g : Av V) : Sv := fun loc hp kn _ => f loc hp fun v hp => g v loc hp kn
theorem snd_assign {G sc x pos' value pos f g} (h : SndE G sc value f) (h' : SndSt G sc x g) (hs : ∀ env, swapsWith value (some (.Name x pos')) pos.line env = pure false) : SndS G sc (.Assign [.Name x pos'] value pos) (asgS f g) := fun F P hp loc s Q kn kr O M R hk N T =>
  wpAny_Assign_Name (h F P hp loc s _ _ O R hk fun v w P₁ hp₁ h₁ t₁ hk₁ l₁ R₁ r₁ =>
    h' F P₁ hp₁ loc _ _ _ v w (O.mono l₁) M R₁ hk₁ r₁ fun loc₂ m₂ P₂ hp₂ h₂ t₂ hk₂ l₂ R₂ L₂ => N loc₂ m₂ P₂ hp₂ h₂ t₂ hk₂ (l₁.trans l₂) R₂ L₂) (hs _)
theorem snd_assignT {G sc ts kk tpos value pos f g} (h : SndE G sc value f) (h' : SndA G sc (.Tuple ts kk tpos) g) (hs : ∀ env, swapsWithSole [.Tuple ts kk tpos] value pos.line env = pure false)
    (hw : ∀ env, env.scope = sc.scope → swappedStores [.Tuple ts kk tpos] value env = pure Option.none) : SndS G sc (.Assign [.Tuple ts kk tpos] value pos) (asgS f g) := fun F P hp loc s Q kn kr O M R hk N T =>
  Assign_Tuple (h F P hp loc s _ _ O R hk fun v w P₁ hp₁ h₁ t₁ hk₁ l₁ R₁ r₁ =>
    h' F P₁ hp₁ loc _ _ _ v w (O.mono l₁) M R₁ hk₁ r₁ fun loc₂ m₂ P₂ hp₂ h₂ t₂ hk₂ l₂ R₂ L₂ => N loc₂ m₂ P₂ hp₂ h₂ t₂ hk₂ (l₁.trans l₂) R₂ L₂) (hs _) (hw _ O.scp)
noncomputable def swpE (n : Nat) (g : Av (List V)) : Av V := fun v loc hp k => match v with
  | .ref i => lookE hp i fun c => match c with
    | .tup vs => andB (Nat.beq vs.length n) (g vs.reverse loc hp k)
    | _ => false
  | _ => false
theorem VRs.reverse {P : Ad} : ∀ {vs : List V} {ws : List Value}, VRs P vs ws → VRs P vs.reverse ws.reverse
  | _, _, .nil => .nil
  | _, _, .cons a r => by
    rw [List.reverse_cons, List.reverse_cons]
    exact (VRs.reverse r).append (.cons a .nil)
theorem snd_swap {G sc ts kk tpos value pos f g} {names : List Str} {n : Nat} (h : SndE G sc value f) (hst : SndSts G sc names.reverse g) (hn : names.length = n) (hs : ∀ env, swapsWithSole [.Tuple ts kk tpos] value pos.line env = pure false)
    (hw : ∀ env, env.scope = sc.scope → swappedStores [.Tuple ts kk tpos] value env = pure (some names)) : SndS G sc (.Assign [.Tuple ts kk tpos] value pos) (asgS f (swpE n g)) := fun F P hp loc s Q kn kr O M R hk N T =>
  Assign_Tuple_swapped (h F P hp loc s _ _ O R hk fun v w P₁ hp₁ h₁ t₁ hk₁ l₁ R₁ r₁ => by
    cases r₁ with
    | @ref i a hi ea =>
      dsimp only [swpE] at hk₁
      obtain ⟨c, e, hk₁⟩ := lookE_true hk₁
      cases c with
      | tup vs =>
        dsimp only at hk₁
        obtain ⟨hb, hk₁⟩ := andB_true hk₁
        have hb := beq_true hb
        obtain ⟨xs, hx, rx⟩ := R₁.tup e
        rw [← ea] at hx
        have lx := rx.length
        have e1 : names.length = xs.toArray.size := by simp; omega
        rw [e1]
        refine unpackItems_tuple O.fr.hd hx fun h' he => ?_
        have e2 : xs.toArray.toList.reverse = xs.reverse := by simp
        rw [e2]
        exact hst F P₁ hp₁ loc { s with heap := h', toks := t₁ } _ _ _ _ (O.mono l₁) M (R₁.keeps (extBut_keeps he)) hk₁ rx.reverse fun loc₂ m₂ P₂ hp₂ h₂ t₂ hk₂ l₂ R₂ L₂ => N loc₂ m₂ P₂ hp₂ h₂ t₂ hk₂ (l₁.trans l₂) R₂ L₂
      | _ => cases hk₁
    | _ => cases hk₁) (hs _) (hw _ O.scp)
noncomputable def setS (f g h : Ev V) : Sv := fun loc hp kn _ => f loc hp fun v hp => g loc hp fun a hp => h loc hp fun b hp => match a with
  | .ref i => match b with
    | .int x => andB (smI x) (andB (leI 0 x) (lookE hp i fun c => match c with
      | .lst vs => andB (Nat.blt x.toNat vs.length) (setE vs x.toNat v fun vs => updE hp i (.lst vs) fun hp => kn loc hp)
      | _ => false))
    | _ => false
  | _ => false
theorem snd_setItem {G sc value o i pos' pos f g h} (hf : SndE G sc value f) (hg : SndE G sc o g) (hh : SndE G sc i h) (hs : ∀ env, swapsWith value (some (.Subscript o i pos')) pos.line env = pure false) :
    SndS G sc (.Assign [.Subscript o i pos'] value pos) (setS f g h) := fun F P hp loc s Q kn kr O M R hk N T =>
  wpAny_Assign_Subscript (hf F P hp loc s _ _ O R hk fun v w P₁ hp₁ h₁ t₁ hk₁ l₁ R₁ r₁ =>
    hg F P₁ hp₁ loc _ _ _ (O.mono l₁) R₁ hk₁ fun a wa P₂ hp₂ h₂ t₂ hk₂ l₂ R₂ r₂ =>
      hh F P₂ hp₂ loc _ _ _ (O.mono (l₁.trans l₂)) R₂ hk₂ fun b wb P₃ hp₃ h₃ t₃ hk₃ l₃ R₃ r₃ => by
        cases r₂ with
        | @ref i a hi ea =>
          cases r₃ with
          | int x t =>
            obtain ⟨s1, hk₃⟩ := andB_true hk₃
            obtain ⟨s2, hk₃⟩ := andB_true hk₃
            have s1 := smI_fits s1
            have s2 := leI_le s2
            obtain ⟨c, e1, hk₃⟩ := lookE_true hk₃
            cases c with
            | lst vs =>
              dsimp only at hk₃
              obtain ⟨s3, hk₃⟩ := andB_true hk₃
              have s3 : x.toNat < vs.length := Nat.le_of_ble_eq_true s3
              rw [setE_eq, updE_eq] at hk₃
              obtain ⟨xs, n, gx, hx, rx⟩ := R₃.lst e1
              have ea' := ea.trans (l₃.2 _ hi).symm
              rw [← ea'] at gx
              have lx := rx.length
              refine ki_setAt gx s2 (by omega) (by simp; omega) ?_
              have ho := IsL.update gx (·.setIfInBounds x.toNat w)
              have eq1 : (xs.toArray.setIfInBounds x.toNat w) = (xs.set x.toNat w).toArray := by apply Array.toList_inj.mp; simp
              rw [eq1] at ho
              have hsb : Heap.SameBut a h₃ (h₃.update a (Obj.mapSeq (·.setIfInBounds x.toNat w))) := Heap.SameBut.update ..
              rw [ea'] at hsb ho
              exact N _ F.m P₃ _ _ t₃ hk₃ ((l₁.trans l₂).trans l₃) (by have := R₃.change e1 hsb ho (.lst _ _ (rx.set (r₁.mono (l₂.trans l₃)))); rw [← ea'] at this; exact this) (by rw [← M.c]; exact O.loc.mono ((l₁.trans l₂).trans l₃))
            | _ => cases hk₃
          | _ => cases hk₃
        | _ => cases hk₃) (hs _)
noncomputable def augS (i : Nat) (f : Ev V) (g : Av V) : Sv := fun loc hp kn _ => getE loc i fun a => match a with
  | .int x => f loc hp fun b hp => match b with
    | .int y => intK (x + y) hp fun v hp => g v loc hp kn
    | _ => false
  | _ => false
theorem snd_augAdd {G sc x pos' value pos i f g} (hi : VarAt sc.vars x i) (hkk : sc.scope.names.lookup x = some .local) (h : SndE G sc value f) (h' : SndSt G sc x g) : SndS G sc (.AugAssign (.Name x pos') .Add value pos) (augS i f g) := fun F P hp loc s Q kn kr O M R hk N T => by
  obtain ⟨v, e, hk⟩ := getE_true hk
  cases v with
  | int a =>
    obtain ⟨w, hw, rw_⟩ := O.loc i x _ hi e nofun
    cases rw_ with
    | int a t =>
      refine wpAny_AugAssign_Name (wpAny_loadName_local (by rw [O.scp]; exact O.kind) (by show F.env.scope.names.lookup x = _; rw [O.scp]; exact hkk) (O.ns R) hw ?_)
      refine h F P hp loc s _ _ O R hk fun b wb P₁ hp₁ h₁ t₁ hk₁ l₁ R₁ r₁ => ?_
      cases r₁ with
      | int b u =>
        dsimp only at hk₁
        rw [intK_eq] at hk₁
        refine iadd_int ?_
        exact h' F P₁ hp₁ loc _ _ _ _ _ (O.mono l₁) M R₁ hk₁ (.int _ _) fun loc₂ m₂ P₂ hp₂ h₂ t₂ hk₂ l₂ R₂ L₂ => N loc₂ m₂ P₂ hp₂ h₂ t₂ hk₂ (l₁.trans l₂) R₂ L₂
      | _ => cases hk₁
  | _ => cases hk
noncomputable def ifS (t : Ev Bool) (f g : Sv) : Sv := fun loc hp kn kr => t loc hp fun b hp => iteB b (f loc hp kn kr) (g loc hp kn kr)
theorem snd_ifS {G sc c body orelse pos t f g} (hc : SndT G sc c t) (h : SndSS G sc body f) (h' : SndSS G sc orelse g) : SndS G sc (.If c body orelse pos) (ifS t f g) := fun F P hp loc s Q kn kr O M R hk N T =>
  wpAny_If (hc F P hp loc s _ _ O R hk fun b P₁ hp₁ h₁ t₁ hk₁ l₁ R₁ => by
    cases b with
    | true => exact h F P₁ hp₁ loc _ Q kn kr (O.mono l₁) M R₁ hk₁ (fun loc₂ m₂ P₂ hp₂ h₂ t₂ hk₂ l₂ R₂ L₂ => N loc₂ m₂ P₂ hp₂ h₂ t₂ hk₂ (l₁.trans l₂) R₂ L₂) fun v w m₂ P₂ hp₂ h₂ t₂ hk₂ l₂ R₂ r₂ => T v w m₂ P₂ hp₂ h₂ t₂ hk₂ (l₁.trans l₂) R₂ r₂
    | false => exact h' F P₁ hp₁ loc _ Q kn kr (O.mono l₁) M R₁ hk₁ (fun loc₂ m₂ P₂ hp₂ h₂ t₂ hk₂ l₂ R₂ L₂ => N loc₂ m₂ P₂ hp₂ h₂ t₂ hk₂ (l₁.trans l₂) R₂ L₂) fun v w m₂ P₂ hp₂ h₂ t₂ hk₂ l₂ R₂ r₂ => T v w m₂ P₂ hp₂ h₂ t₂ hk₂ (l₁.trans l₂) R₂ r₂)
def retS (f : Ev V) : Sv := fun loc hp _ kr => f loc hp kr
theorem snd_ret {G sc e pos f} (h : SndE G sc e f) : SndS G sc (.Return (some e) pos) (retS f) := fun F P hp loc s Q kn kr O M R hk N T =>
  wpAny_Return_some (h F P hp loc s _ _ O R hk fun v w P₁ hp₁ h₁ t₁ hk₁ l₁ R₁ r₁ => T v w F.m P₁ hp₁ h₁ t₁ hk₁ l₁ R₁ r₁)

/-! ## while -/
noncomputable def whlS (n : Nat) (t : Ev Bool) (b : Sv) : Sv :=
  Nat.rec (motive := fun _ => Sv) (fun _ _ _ _ => false) (fun _ ih loc hp kn kr => t loc hp fun c hp => iteB c (b loc hp (fun loc hp => ih loc hp kn kr) kr) (kn loc hp)) n
theorem whl_all {G sc test body t b} (ht : SndT G sc test t) (hb : SndSS G sc body b) : ∀ (n : Nat) (F : Fm) (P : Ad) (hp : Hp) (loc : List V) (s : Shared) (Q : Flow → Shared → Prop) (kn : List V → Hp → Bool) (kr : V → Hp → Bool),
    OK G sc F P loc → FnM F → FRel F P hp s.heap → whlS n t b loc hp kn kr = true → NextS F sc P s kn (Q .next) → RetS F P s kr (fun w => Q (.ret w)) → WhlRest G.prog G.w F.A Ra F.env test body [] Q 1 s
  | 0, _, _, _, _, _, _, _, _, _, _, _, h, _, _ => by cases h
  | n + 1, F, P, hp, loc, s, Q, kn, kr, O, M, R, hk, N, T => by
    refine whl_turn PassesOwn.never (ht F P hp loc s _ _ O R hk fun c P₁ hp₁ h₁ t₁ hk₁ l₁ R₁ => ?_)
    cases c with
    | false => exact WhlIf.no rfl (wpAny_execs_nil (N loc F.m P₁ hp₁ h₁ t₁ hk₁ l₁ R₁ (by rw [← M.c]; exact O.loc.mono l₁)))
    | true =>
      refine WhlIf.yes rfl (hb F P₁ hp₁ loc _ _ _ _ (O.mono l₁) M R₁ hk₁ (fun loc₂ m₂ P₂ hp₂ h₂ t₂ hk₂ l₂ R₂ L₂ => ?_) fun v w m₂ P₂ hp₂ h₂ t₂ hk₂ l₂ R₂ r₂ => T v w m₂ P₂ hp₂ h₂ t₂ hk₂ (l₁.trans l₂) R₂ r₂)
      exact whl_all ht hb n (F.at m₂) P₂ hp₂ loc₂ _ Q kn kr (O.at M (l₁.trans l₂) L₂) (M.at m₂) R₂ hk₂ (fun loc₃ m₃ P₃ hp₃ h₃ t₃ hk₃ l₃ R₃ L₃ => N loc₃ m₃ P₃ hp₃ h₃ t₃ hk₃ ((l₁.trans l₂).trans l₃) R₃ L₃)
        fun v w m₃ P₃ hp₃ h₃ t₃ hk₃ l₃ R₃ r₃ => T v w m₃ P₃ hp₃ h₃ t₃ hk₃ ((l₁.trans l₂).trans l₃) R₃ r₃
theorem snd_while {G sc test body pos t b} (ht : SndT G sc test t) (hb : SndSS G sc body b) : SndS G sc (.While test body [] pos) (whlS 1000 t b) := fun F P hp loc s Q kn kr O M R hk N T =>
  whl_start 1 (whl_all ht hb 1000 F P hp loc s Q kn kr O M R hk N T)

section
variable {h₀ h : Heap} {L : Addr} {m : Str → Option Value} {fix its : List (Addr × Obj)} {frz : (Nat → Option Obj)} {P : Ad} {hp : Hp}
theorem Rel.dropFix (R : Rel h₀ L m (its ++ fix) frz P hp h) : Rel h₀ L m fix frz P hp h where
  fr := R.fr
  fx := fun p q => R.fx p (List.mem_append_right _ q)
  live := fun k hk => let ⟨a, b, f, r⟩ := R.live k hk; ⟨a, b, fun q hq => f q (List.mem_append_right _ hq), r⟩
  inj := R.inj
  own := R.own
  nx := R.nx
theorem Rel.addFix (R : Rel h₀ L m fix frz P hp h) (N : News h₀ L h its) (d : ∀ k, k < P.n → ∀ q ∈ its, q.1 ≠ P.f k) : Rel h₀ L m (its ++ fix) frz P hp h where
  fr := R.fr
  fx := fun p q => (List.mem_append.mp q).elim (N p) (R.fx p)
  live := fun k hk => let ⟨a, b, f, r⟩ := R.live k hk; ⟨a, b, fun q hq => (List.mem_append.mp hq).elim (d k hk q) (f q), r⟩
  inj := R.inj
  own := R.own
  nx := R.nx
/-- what is beside, with this one put in -/
def frzPut (frz : (Nat → Option Obj)) (i : Nat) (o : Obj) : (Nat → Option Obj) := fun j => if j = i then some o else frz j
theorem frzPut_one {i : Nat} {o o' : Obj} (h : frzPut frz i o i = some o') : o' = o := by
  unfold frzPut at h
  rw [if_pos rfl] at h
  exact (Option.some.inj h).symm
theorem frzPut_ne {i j : Nat} {o : Obj} (hne : j ≠ i) : frzPut frz i o j = frz j := if_neg hne
theorem Rel.hide (R : Rel h₀ L m fix frz P hp h) {i : Nat} {c : C} {o : Obj} (hl : look hp i = some c) (hn : ∀ c', c ≠ .hid c') (ho : h.get? (P.f i) = some o) : Rel h₀ L m fix (frzPut frz i o) P (upd hp i (.hid c)) h where
  fr := R.fr
  fx := R.fx
  live := R.live
  inj := R.inj
  own := fun k c' hc => by
    rw [look_upd] at hc
    by_cases q : k = i
    · subst q
      rw [if_pos rfl, hl] at hc
      cases hc
      obtain ⟨a, o', e, r⟩ := R.own k c hl
      rw [ho] at e
      cases e
      exact ⟨a, o, ho, .hid (if_pos rfl) (r.out hn)⟩
    · rw [if_neg q] at hc
      obtain ⟨a, o', e, r⟩ := R.own k c' hc
      refine ⟨a, o', e, ?_⟩
      cases r with
      | hid h r => exact .hid ((frzPut_ne q).trans h) r
      | of h => exact .of h
  nx := (nxt_upd _ _ _).trans R.nx
theorem Rel.unhide {i : Nat} {o : Obj} (R : Rel h₀ L m fix (frzPut frz i o) P hp h) {c : C} {c' : C} (hl : look hp i = some (.hid c')) (hc : OR P c o) : Rel h₀ L m fix frz P (upd hp i c) h where
  fr := R.fr
  fx := R.fx
  live := R.live
  inj := R.inj
  own := fun k c' hc' => by
    rw [look_upd] at hc'
    by_cases q : k = i
    · subst q
      rw [if_pos rfl, hl] at hc'
      cases hc'
      obtain ⟨a, o', e, r⟩ := R.own k _ hl
      cases r with
      | hid h _ => exact ⟨a, o', e, by rw [frzPut_one h]; exact .of hc⟩
      | of h => cases h
    · rw [if_neg q] at hc'
      obtain ⟨a, o', e, r⟩ := R.own k c' hc'
      refine ⟨a, o', e, ?_⟩
      cases r with
      | hid h r => exact .hid ((frzPut_ne q).symm.trans h) r
      | of h => exact .of h
  nx := (nxt_upd _ _ _).trans R.nx
end

/-! ## for -/
def ActS (G : Gl) (sc : Sc) (target : Expr) (body : List Stmt) (P₀ : Ad) (a : Itm) (f : Sv) : Prop :=
  ∀ (F : Fm) (P : Ad) (hp : Hp) (loc : List V) (s : Shared) (Q : Flow → Shared → Prop) (kn : List V → Hp → Bool) (kr : V → Hp → Bool) (v : Value),
    P₀.le P → OK G sc F P loc → FnM F → FRel F P hp s.heap → a.Is v s.heap → f loc hp kn kr = true → NextS F sc P s kn (Q .next) → RetS F P s kr (fun w => Q (.ret w)) →
    wpAny (model G.prog G.w) F.A (assign target F.env v) (fun _ s₂ => wpAny (model G.prog G.w) F.A (execs body F.env) Q Ra s₂) Ra s
inductive Acts (G : Gl) (sc : Sc) (target : Expr) (body : List Stmt) (P₀ : Ad) : List Itm → List Sv → Prop
  | nil : Acts G sc target body P₀ [] []
  | cons {a f as fs} : ActS G sc target body P₀ a f → Acts G sc target body P₀ as fs → Acts G sc target body P₀ (a :: as) (f :: fs)

def actE (g : Av V) (b : Sv) (v : V) : Sv := fun loc hp kn kr => g v loc hp fun loc hp => b loc hp kn kr
theorem act_val {G sc target body P₀ g b v w} (h : SndA G sc target g) (hb : SndSS G sc body b) (r : VR P₀ v w) : ActS G sc target body P₀ (.val w) (actE g b v) := fun F P hp loc s Q kn kr u l O M R e hk N T => by
  have e : u = w := e
  subst e
  exact h F P hp loc s _ _ v u O M R hk (r.mono l) fun loc₁ m₁ P₁ hp₁ h₁ t₁ hk₁ l₁ R₁ L₁ => hb (F.at m₁) P₁ hp₁ loc₁ _ Q kn kr (O.at M l₁ L₁) (M.at m₁) R₁ hk₁
    (fun loc₂ m₂ P₂ hp₂ h₂ t₂ hk₂ l₂ R₂ L₂ => N loc₂ m₂ P₂ hp₂ h₂ t₂ hk₂ (l₁.trans l₂) R₂ L₂) fun v w m₂ P₂ hp₂ h₂ t₂ hk₂ l₂ R₂ r₂ => T v w m₂ P₂ hp₂ h₂ t₂ hk₂ (l₁.trans l₂) R₂ r₂
theorem act_tok {G sc target body P₀ g b x} (h : SndA G sc target g) (hb : SndSS G sc body b) : ActS G sc target body P₀ (.tok fun t => .int x t) (actE g b (.int x)) := fun F P hp loc s Q kn kr u l O M R e hk N T => by
  obtain ⟨t, rfl⟩ := e
  exact act_val (P₀ := P) h hb (.int x t) F P hp loc s Q kn kr _ (.refl P) O M R rfl hk N T
theorem act_pair {G sc ts kk pos body P₀ g b x v w} (h : SndAs G sc ts g) (hb : SndSS G sc body b) (r : VR P₀ v w) (hn : ∀ env, (assignEach ts env).length = 2) (hs : ∀ env, (assignEach ts env).findIdx? (·.1) = Option.none) :
    ActS G sc (.Tuple ts kk pos) body P₀ (.pair (fun t => .int x t) w) (fun loc hp kn kr => g [.int x, v] loc hp fun loc hp => b loc hp kn kr) := fun F P hp loc s Q kn kr u l O M R e hk N T => by
  obtain ⟨a, t, rfl, ht⟩ := e
  refine assign_Tuple_tuple O.fr.hd ht (by rw [hn]; rfl) (hs _) fun h' he => ?_
  exact h F P hp loc { s with heap := h' } _ _ [.int x, v] _ O M (R.keeps (extBut_keeps he)) hk (.cons (.int x t) (.cons (r.mono l) .nil)) fun loc₁ m₁ P₁ hp₁ h₁ t₁ hk₁ l₁ R₁ L₁ => hb (F.at m₁) P₁ hp₁ loc₁ _ Q kn kr (O.at M l₁ L₁) (M.at m₁) R₁ hk₁
    (fun loc₂ m₂ P₂ hp₂ h₂ t₂ hk₂ l₂ R₂ L₂ => N loc₂ m₂ P₂ hp₂ h₂ t₂ hk₂ (l₁.trans l₂) R₂ L₂) fun v w m₂ P₂ hp₂ h₂ t₂ hk₂ l₂ R₂ r₂ => T v w m₂ P₂ hp₂ h₂ t₂ hk₂ (l₁.trans l₂) R₂ r₂

noncomputable def chkE (kc : Option Nat) (hp : Hp) (x : Bool) : Bool := match kc with
  | none => x
  | some i => lookE hp i fun c => match c with | .hid _ => x | _ => false
noncomputable def loopS (kc : Option Nat) (fs : List Sv) : Sv :=
  List.rec (motive := fun _ => Sv) (fun loc hp kn _ => kn loc hp) (fun f _ ih loc hp kn kr => f loc hp (fun loc hp => chkE kc hp (ih loc hp kn kr)) kr) fs

theorem AllObj.of {k : List (Addr × Obj) → Prop} : ∀ {ws : List (Addr × String)} {pre : List (Addr × Obj)}, (∀ its, its.map (·.1) = ws.map (·.1) → k (pre ++ its)) → AllObj ws (fun its => k (pre ++ its))
  | [], _, h => h [] rfl
  | w :: ws, pre, h => fun o _ => by
    have z := AllObj.of (k := k) (ws := ws) (pre := pre ++ [(w.1, o)]) (fun its e => by rw [List.append_assoc]; exact h ((w.1, o) :: its) (by simp [e]))
    refine cast ?_ z
    congr 1
    funext its
    rw [List.append_assoc]
    rfl

theorem turns {G sc target body P₀} {F : Fm} {ws : List (Addr × String)} {keep : List (Addr × Obj)} {kc : Option Nat} {s : Shared} {Q : Flow → Shared → Prop} {kn : List V → Hp → Bool} {kr : V → Hp → Bool}
    (hkeep : ∀ (P' : Ad) (hp' : Hp) (h' : Heap) (m' : Str → Option Value) (x : Bool), P₀.le P' → chkE kc hp' x = true → Rel F.h₀ F.L m' F.fix F.frz P' hp' h' → x = true ∧ SubL keep (F.fix ++ ledOf P' h'))
    (N : NextS F sc P₀ s kn (Q .next)) (T : RetS F P₀ s kr (fun w => Q (.ret w))) (hL : F.env.locals = F.L) :
    ∀ {xs : List Itm} {fs : List Sv}, Acts G sc target body P₀ xs fs → ∀ (P : Ad) (hp : Hp) (loc : List V) (m : Str → Option Value) (ho : Heap), P₀.le P → Rel F.h₀ F.L m F.fix F.frz P hp ho → OK G sc (F.at m) P loc →
      (∀ p ∈ F.fix ++ ledOf P ho, ∀ w ∈ ws, p.1 ≠ w.1) → loopS kc fs loc hp kn kr = true → ItemsRest G.prog G.w F.A Ra F.h₀ F.env target body Q s ws keep xs m (F.fix ++ ledOf P ho)
  | [], _, .nil, P, hp, loc, m, ho, l, R, O, _, hk => fun h tk F' N' => by
    rw [hL] at F' N'
    exact N loc m P hp h tk hk l (R.move F' N') O.loc
  | a :: xs, _, .cons (f := f) (fs := fs) ha hr, P, hp, loc, m, ho, l, R, O, D, hk => fun v h tk hv F' => by
    rw [hL] at F'
    let kk : List (Addr × Obj) → Prop := fun its => News F.h₀ F.env.locals h (its ++ (F.fix ++ ledOf P ho)) → wpAny (model G.prog G.w) F.A (assign target F.env v) (fun _ s₂ => wpAny (model G.prog G.w) F.A (execs body F.env)
        (UnrPostW F.h₀ F.env.locals { s with heap := h, toks := tk } its (fun m' n' => SubL keep n' ∧ ItemsRest G.prog G.w F.A Ra F.h₀ F.env target body Q s ws keep xs m' n') Q) Ra s₂) Ra { s with heap := h, toks := tk }
    have key : ∀ its : List (Addr × Obj), its.map (·.1) = ws.map (·.1) → kk its := by
      intro its hits N'
      rw [hL] at N' ⊢
      have R₁ := R.move F' fun p hp => N' p (List.mem_append_right _ hp)
      have dis : ∀ q ∈ its, ∀ p ∈ F.fix ++ ledOf P ho, p.1 ≠ q.1 := fun q hq p hp' => by
        have : q.1 ∈ ws.map (·.1) := by rw [← hits]; exact List.mem_map_of_mem hq
        obtain ⟨w, hw, e⟩ := List.mem_map.mp this
        rw [← e]
        exact D p hp' w hw
      have R₂ : Rel F.h₀ F.L m (its ++ F.fix) F.frz P hp h := R₁.addFix (fun p hp => N' p (List.mem_append_left _ hp)) fun k hk' q hq e => by
        obtain ⟨_, _, _, o, eo⟩ := R.live k hk'
        exact dis q hq (P.f k, o) (List.mem_append_right _ (mem_ledOf.mpr ⟨k, hk', rfl, eo⟩)) e.symm
      let F₂ : Fm := { F.at m with fix := its ++ F.fix }
      have M₂ : FnM F₂ := ⟨hL, rfl⟩
      have O₂ : OK G sc F₂ P loc := ⟨O.fr, O.scp, O.gl, O.bi, O.kind, .inl ⟨hL, rfl⟩, O.loc, O.cel⟩
      refine ha F₂ P hp loc { s with heap := h, toks := tk } _ _ kr v l O₂ M₂ R₂ hv hk (fun loc₁ m₁ P₁ hp₁ h₁ t₁ hk₁ l₁ R₁' L₁ => ?_) fun v w m₁ P₁ hp₁ h₁ t₁ hk₁ l₁ R₁' r₁ => ?_
      · have R₃ : Rel F.h₀ F.L m₁ F.fix F.frz P₁ hp₁ h₁ := Rel.dropFix R₁'
        obtain ⟨hk₂, hs⟩ := hkeep P₁ hp₁ h₁ m₁ _ (l.trans l₁) hk₁ R₃
        have dis' : ∀ p ∈ F.fix ++ ledOf P₁ h₁, ∀ q ∈ its, p.1 ≠ q.1 := fun p hp' q hq => by
          rcases List.mem_append.mp hp' with z | z
          · exact dis q hq p (List.mem_append_left _ z)
          · obtain ⟨k, hk', e1, _⟩ := mem_ledOf.mp z
            rw [e1]
            exact fun e => (R₁'.live k hk').2.2.1 q (List.mem_append_left _ hq) e.symm
        refine ⟨h₁, t₁, m₁, F.fix ++ ledOf P₁ h₁, rfl, R₁'.fr, fun p hp' => ?_, dis', hs, ?_⟩
        · rcases List.mem_append.mp hp' with z | z
          · exact R₁'.fx p (List.mem_append_left _ z)
          · exact R₃.led p z
        · refine turns hkeep N T hL hr P₁ hp₁ loc₁ m₁ h₁ (l.trans l₁) R₃ ⟨O.fr, O.scp, O.gl, O.bi, O.kind, .inl ⟨hL, rfl⟩, L₁, O.cel.mono l₁⟩ (fun p hp' w hw => ?_) hk₂
          have : w.1 ∈ its.map (·.1) := by rw [hits]; exact List.mem_map_of_mem hw
          obtain ⟨q, hq, e⟩ := List.mem_map.mp this
          rw [← e]
          exact dis' p hp' q hq
      · exact T v w m₁ P₁ hp₁ h₁ t₁ hk₁ (l.trans l₁) (Rel.dropFix R₁') r₁
    exact AllObj.of (pre := []) (k := kk) key

theorem acts_map {G sc target body P₀ g b} (h : SndA G sc target g) (hb : SndSS G sc body b) : ∀ {vs : List V} {ws : List Value}, VRs P₀ vs ws → Acts G sc target body P₀ (ws.map .val) (vs.map (actE g b))
  | _, _, .nil => .nil
  | _, _, .cons r rs => .cons (act_val h hb r) (acts_map h hb rs)

noncomputable def forLS (f : Ev V) (g : Av V) (b : Sv) : Sv := fun loc hp kn _ => f loc hp fun a hp => match a with
  | .ref i => lookE hp i fun c => match c with
    | .lst vs => updE hp i (.hid (.lst vs)) fun hp => loopS (some i) (vs.map (actE g b)) loc hp (fun loc hp => lookE hp i fun c => match c with
      | .hid _ => updE hp i (.lst vs) fun hp => kn loc hp
      | _ => false) (fun _ _ => false)
    | _ => false
  | _ => false

/-- what a loop over a list of ours asks of its turns -/
theorem keep_listF {F : Fm} {P₁ : Ad} {i : Nat} {lo : Obj} {frz : (Nat → Option Obj)} (hf : frz i = some lo) (hi : i < P₁.n) : ∀ (P' : Ad) (hp' : Hp) (h' : Heap) (m' : Str → Option Value) (x : Bool), P₁.le P' → chkE (some i) hp' x = true →
    Rel F.h₀ F.L m' F.fix frz P' hp' h' → x = true ∧ SubL [(P₁.f i, lo)] (F.fix ++ ledOf P' h') := fun P' hp' h' m' x l hk R => by
  have hk : lookE hp' i (fun c => match c with | .hid _ => x | _ => false) = true := hk
  obtain ⟨c, e, hk⟩ := lookE_true hk
  cases c with
  | hid =>
    obtain ⟨a, o, eo, r⟩ := R.own i _ e
    cases r with
    | hid h _ =>
      refine ⟨hk, List.mem_append_right _ (mem_ledOf.mpr ⟨i, a, (l.2 i hi).symm, ?_⟩), trivial⟩
      rw [hf] at h
      cases h
      exact eo
    | of h => cases h
  | _ => cases hk
theorem keep_list {F : Fm} {P₁ : Ad} {i : Nat} {lo : Obj} (hi : i < P₁.n) : ∀ (P' : Ad) (hp' : Hp) (h' : Heap) (m' : Str → Option Value) (x : Bool), P₁.le P' → chkE (some i) hp' x = true →
    Rel F.h₀ F.L m' F.fix (frzPut F.frz i lo) P' hp' h' → x = true ∧ SubL [(P₁.f i, lo)] (F.fix ++ ledOf P' h') := keep_listF (if_pos rfl) hi

theorem snd_forL {G sc target iter body pos f g b} (hf : SndE G sc iter f) (hg : SndA G sc target g) (hb : SndSS G sc body b) (hs : ∀ env x, foldedSetIterable iter env x = pure x) :
    SndS G sc (.For target iter body [] pos) (forLS f g b) := fun F P hp loc s Q kn kr O M R hk N T => by
  have hL := M.l
  refine For_turns (h₀ := F.h₀) (m := F.m) (by rw [hL]; exact R.fr) (hf F P hp loc s _ _ O R hk fun a w P₁ hp₁ h₁ t₁ hk₁ l₁ R₁ r₁ => ?_) (hs _) PassesOwn.never
  cases r₁ with
  | @ref i ax hi ea =>
    dsimp only [forLS] at hk₁
    obtain ⟨c, e1, hk₁⟩ := lookE_true hk₁
    cases c with
    | lst vs =>
      dsimp only at hk₁
      rw [updE_eq] at hk₁
      obtain ⟨xs, n, gx, hx, rx⟩ := R₁.lst e1
      have hm : (ax, listOf xs.toArray n) ∈ F.fix ++ ledOf P₁ h₁ := List.mem_append_right _ (mem_ledOf.mpr ⟨i, hi, ea, gx⟩)
      refine iter_listTurns (s := { s with heap := h₁, toks := t₁ }) (vs := xs) (n := n) O.fr.hd (by rw [hL]; exact R₁.fr) (by rw [hL]; exact R₁.led) hm rfl rfl fun I hI => ?_
      have hI' : ∀ p ∈ F.fix ++ ledOf P₁ h₁, ∀ w ∈ [(I, "list_iterator")], p.1 ≠ w.1 := fun p hp' w hw => by
        rw [List.mem_singleton.mp hw]
        exact Nat.ne_of_lt (hI p hp')
      let F₂ : Fm := { F with frz := frzPut F.frz i (listOf xs.toArray n) }
      have O₁ := O.mono l₁
      rw [ea]
      refine turns (F := F₂) (P₀ := P₁) (s := { s with heap := h₁, toks := t₁ }) (kc := some i) (keep_list (F := F) hi) (fun loc₂ m₂ P₂ hp₂ h₂ t₂ hk₂ l₂ R₂ L₂ => ?_) (kr := fun _ _ => false) (fun _ _ _ _ _ _ _ h => by cases h) hL (acts_map hg hb rx) P₁ _ loc F.m h₁ (.refl P₁) (R₁.hide e1 (by intro c' q; cases q) gx)
        ⟨O₁.fr, O₁.scp, O₁.gl, O₁.bi, O₁.kind, .inl ⟨hL, rfl⟩, by rw [← M.c]; exact O₁.loc, O₁.cel⟩ hI' hk₁
      obtain ⟨c, e2, hk₂⟩ := lookE_true hk₂
      cases c with
      | hid =>
        dsimp only at hk₂
        rw [updE_eq] at hk₂
        exact N loc₂ m₂ P₂ _ h₂ t₂ hk₂ (l₁.trans l₂) (Rel.unhide R₂ e2 (.lst _ n (rx.mono l₂))) L₂
      | _ => cases hk₂
    | _ => cases hk₁
  | _ => cases hk₁

/-! ### enumerate -/
noncomputable def enumA (g : Av (List V)) (b : Sv) (vs : List V) : Nat → List Sv :=
  List.rec (motive := fun _ => Nat → List Sv) (fun _ => []) (fun v _ ih i => (fun loc hp kn kr => g [.int (Int.ofNat i), v] loc hp fun loc hp => b loc hp kn kr) :: ih (Nat.succ i)) vs
theorem acts_enum {G sc ts kk pos body P₀ g b} (h : SndAs G sc ts g) (hb : SndSS G sc body b) (hn : ∀ env, (assignEach ts env).length = 2) (hs : ∀ env, (assignEach ts env).findIdx? (·.1) = Option.none) :
    ∀ {vs : List V} {ws : List Value} (i : Nat), VRs P₀ vs ws → Acts G sc (.Tuple ts kk pos) body P₀ (enumItems i ws) (enumA g b vs i)
  | _, _, _, .nil => .nil
  | _, _, i, .cons r rs => .cons (act_pair h hb r hn hs) (acts_enum h hb hn hs (i + 1) rs)
noncomputable def forES (f : Ev V) (g : Av (List V)) (b : Sv) : Sv := fun loc hp kn _ => f loc hp fun a hp => match a with
  | .ref i => lookE hp i fun c => match c with
    | .lst vs => updE hp i (.hid (.lst vs)) fun hp => loopS (some i) (enumA g b vs 0) loc hp (fun loc hp => lookE hp i fun c => match c with
      | .hid _ => updE hp i (.lst vs) fun hp => kn loc hp
      | _ => false) (fun _ _ => false)
    | .hid c => match c with
      | .lst vs => loopS (some i) (enumA g b vs 0) loc hp kn (fun _ _ => false)
      | _ => false
    | _ => false
  | _ => false
theorem snd_forE {G sc ts kk tpos x p e cpos body pos f g b} (hn : NameV G sc x (.type "enumerate")) (hf : SndE G sc e f) (hg : SndAs G sc ts g) (hb : SndSS G sc body b) (hln : ∀ env, (assignEach ts env).length = 2) (hfi : ∀ env, (assignEach ts env).findIdx? (·.1) = Option.none)
    (he : ∀ env, starEach [e] env = (false, eval e env) :: starEach [] env) (hs : ∀ env y, foldedSetIterable (.Call (.Name x p) [e] [] cpos) env y = pure y) :
    SndS G sc (.For (.Tuple ts kk tpos) (.Call (.Name x p) [e] [] cpos) body [] pos) (forES f g b) := fun F P hp loc s Q kn kr O M R hk N T => by
  have hL := M.l
  refine For_turns (h₀ := F.h₀) (m := F.m) (by rw [hL]; exact R.fr) ?_ (hs _) PassesOwn.never
  refine wpAny_Call_Name_kw (hn F P hp loc s _ p O R ?_)
  show wpAny _ _ (callWith cpos (.type "enumerate") [] (backTo cpos (starEach [e] F.env)) []) _ _ s
  refine PyProof.Rows.callWith_type1 ?_ (he _) rfl
  refine wpAny_items_cons (hf F P hp loc s _ _ O R hk fun a w P₁ hp₁ h₁ t₁ hk₁ l₁ R₁ r₁ => wpAny_items_nil ?_) (he _)
  cases r₁ with
  | @ref i ax hi ea =>
    dsimp only [forES] at hk₁
    obtain ⟨c, e1, hk₁⟩ := lookE_true hk₁
    cases c with
    | lst vs =>
      dsimp only at hk₁
      rw [updE_eq] at hk₁
      obtain ⟨xs, n, gx, hx, rx⟩ := R₁.lst e1
      have hm : (ax, listOf xs.toArray n) ∈ F.fix ++ ledOf P₁ h₁ := List.mem_append_right _ (mem_ledOf.mpr ⟨i, hi, ea, gx⟩)
      refine ktu_enum (s := { s with heap := h₁, toks := t₁ }) (vs := xs) (n := n) O.fr.hd (by rw [hL]; exact R₁.fr) (by rw [hL]; exact R₁.led) hm rfl rfl rfl fun I hI => ?_
      have hI' : ∀ p ∈ F.fix ++ ledOf P₁ h₁, ∀ w ∈ [(I + 1, "enumerate"), (I, "list_iterator")], p.1 ≠ w.1 := fun p hp' w hw => by
        have := hI p hp'
        rcases List.mem_cons.mp hw with rfl | hw
        · exact Nat.ne_of_lt (Nat.lt_succ_of_lt this)
        · rw [List.mem_singleton.mp hw]
          exact Nat.ne_of_lt this
      let F₂ : Fm := { F with frz := frzPut F.frz i (listOf xs.toArray n) }
      have O₁ := O.mono l₁
      rw [ea]
      refine turns (F := F₂) (P₀ := P₁) (s := { s with heap := h₁, toks := t₁ }) (kc := some i) (keep_list (F := F) hi) (fun loc₂ m₂ P₂ hp₂ h₂ t₂ hk₂ l₂ R₂ L₂ => ?_) (kr := fun _ _ => false) (fun _ _ _ _ _ _ _ h => by cases h) hL (acts_enum hg hb hln hfi 0 rx) P₁ _ loc F.m h₁ (.refl P₁) (R₁.hide e1 (by intro c' q; cases q) gx)
        ⟨O₁.fr, O₁.scp, O₁.gl, O₁.bi, O₁.kind, .inl ⟨hL, rfl⟩, by rw [← M.c]; exact O₁.loc, O₁.cel⟩ hI' hk₁
      obtain ⟨c, e2, hk₂⟩ := lookE_true hk₂
      cases c with
      | hid =>
        dsimp only at hk₂
        rw [updE_eq] at hk₂
        exact N loc₂ m₂ P₂ _ h₂ t₂ hk₂ (l₁.trans l₂) (Rel.unhide R₂ e2 (.lst _ n (rx.mono l₂))) L₂
      | _ => cases hk₂
    | hid c =>
      cases c with
      | lst vs =>
        dsimp only at hk₁
        obtain ⟨_, lo, gx, hor⟩ := R₁.own i _ e1
        cases hor with
        | of hor => cases hor
        | hid hfz hor =>
          cases hor with
          | lst xs n rx =>
            have hm : (ax, listOf xs.toArray n) ∈ F.fix ++ ledOf P₁ h₁ := List.mem_append_right _ (mem_ledOf.mpr ⟨i, hi, ea, gx⟩)
            refine ktu_enum (s := { s with heap := h₁, toks := t₁ }) (vs := xs) (n := n) O.fr.hd (by rw [hL]; exact R₁.fr) (by rw [hL]; exact R₁.led) hm rfl rfl rfl fun I hI => ?_
            have hI' : ∀ p ∈ F.fix ++ ledOf P₁ h₁, ∀ w ∈ [(I + 1, "enumerate"), (I, "list_iterator")], p.1 ≠ w.1 := fun p hp' w hw => by
              have := hI p hp'
              rcases List.mem_cons.mp hw with rfl | hw
              · exact Nat.ne_of_lt (Nat.lt_succ_of_lt this)
              · rw [List.mem_singleton.mp hw]
                exact Nat.ne_of_lt this
            have O₁ := O.mono l₁
            rw [ea]
            exact turns (F := F) (P₀ := P₁) (s := { s with heap := h₁, toks := t₁ }) (kc := some i) (keep_listF (F := F) hfz hi) (fun loc₂ m₂ P₂ hp₂ h₂ t₂ hk₂ l₂ R₂ L₂ => N loc₂ m₂ P₂ hp₂ h₂ t₂ hk₂ (l₁.trans l₂) R₂ L₂) (kr := fun _ _ => false) (fun _ _ _ _ _ _ _ h => by cases h) hL (acts_enum hg hb hln hfi 0 rx) P₁ _ loc F.m h₁ (.refl P₁) R₁
              ⟨O₁.fr, O₁.scp, O₁.gl, O₁.bi, O₁.kind, .inl ⟨hL, rfl⟩, by rw [← M.c]; exact O₁.loc, O₁.cel⟩ hI' hk₁
      | _ => cases hk₁
    | _ => cases hk₁
  | _ => cases hk₁

/-! ### range -/
noncomputable def rngK (a b c : Int) (κ : Int → Int → Nat → Bool) : Bool :=
  andB (smI c) (andB (!eqI c 0) (andB (Builtin.Range.small a b c) (Int.rec (motive := fun _ => Bool) (fun n => forceN n fun n => andB (Nat.ble n 10000) (κ a c n)) (fun _ => false) (Builtin.Range.rangeSize a b c))))
noncomputable def rngE (vs : List V) (κ : Int → Int → Nat → Bool) : Bool := match vs with
  | [] => false
  | x :: r => match x with
    | .int a => match r with
      | [] => rngK 0 a 1 κ
      | y :: r => match y with
        | .int b => match r with
          | [] => rngK a b 1 κ
          | z :: r => match z with
            | .int c => match r with
              | [] => rngK a b c κ
              | _ :: _ => false
            | _ => false
        | _ => false
    | _ => false
theorem rngK_true {a b c : Int} {κ : Int → Int → Nat → Bool} (h : rngK a b c κ = true) : c ≠ 0 ∧ smI c = true ∧ Builtin.Range.small a b c = true ∧ ∃ n : Nat, Builtin.Range.rangeSize a b c = (n : Int) ∧ n ≤ 10000 ∧ κ a c n = true := by
  obtain ⟨h1, h⟩ := andB_true h
  obtain ⟨h2, h⟩ := andB_true h
  obtain ⟨h3, h⟩ := andB_true h
  refine ⟨eqI_ne h2, h1, h3, ?_⟩
  cases q : Builtin.Range.rangeSize a b c with
  | ofNat n =>
    rw [q] at h
    have h : forceN n (fun n => andB (Nat.ble n 10000) (κ a c n)) = true := h
    rw [forceN_eq] at h
    obtain ⟨h4, h⟩ := andB_true h
    exact ⟨n, rfl, Nat.le_of_ble_eq_true h4, h⟩
  | negSucc n =>
    rw [q] at h
    cases h
theorem call_rng {G : Gl} {F : Fm} {P : Ad} {hp : Hp} {s : Shared} {Q : Value → Shared → Prop} {vs : List V} {ws : List Value} {κ : Int → Int → Nat → Bool} (R : FRel F P hp s.heap) (hk : rngE vs κ = true) (r : VRs P vs ws)
    (h : ∀ a b c (n : Nat) t u v h' tk, κ a c n = true → n ≤ 10000 → Builtin.Range.small a b c = true → Builtin.Range.rangeSize a b c = (n : Int) → FRel F P hp h' → IsRange h' s.heap.objs.size a b c t u v → Q (.ref s.heap.objs.size) { s with heap := h', toks := tk }) :
    wpAny (model G.prog G.w) F.A (call (.type "range") ws) Q Ra s := by
  cases r with
  | nil => cases hk
  | cons ra r =>
    cases ra with
    | int a t =>
      cases r with
      | nil =>
        obtain ⟨_, _, h3, n, h4, h5, h6⟩ := rngK_true (a := 0) (b := a) (c := 1) hk
        exact call_range_1 (h _ _ _ n _ _ _ _ _ h6 h5 h3 h4 (R.push _) (IsRange.new ..))
      | cons rb r =>
        cases rb with
        | int b u =>
          cases r with
          | nil =>
            obtain ⟨_, _, h3, n, h4, h5, h6⟩ := rngK_true (a := a) (b := b) (c := 1) hk
            exact call_range_2 (h _ _ _ n _ _ _ _ _ h6 h5 h3 h4 (R.push _) (IsRange.new ..))
          | cons rc r =>
            cases rc with
            | int c v =>
              cases r with
              | nil =>
                obtain ⟨h1, h2, h3, n, h4, h5, h6⟩ := rngK_true (a := a) (b := b) (c := c) hk
                exact call_range_3 h1 (h _ _ _ n _ _ _ _ _ h6 h5 h3 h4 (R.push _) (IsRange.new ..)) (.inl (PyProof.noPylong_small (smI_lt h2)))
              | cons => cases hk
            | _ => cases hk
        | _ => cases hk
    | _ => cases hk

def rngItms (a c : Int) (n : Nat) : List Itm := (List.range n).map fun (i : Nat) => .tok fun t => .int (a + (i : Int) * c) t
noncomputable def rngActs (g : Av V) (b : Sv) (a c : Int) (n : Nat) : List Sv := (List.range n).map fun i => fun loc hp kn kr => forceI (a + (Int.ofNat i) * c) fun x => actE g b (.int x) loc hp kn kr
theorem acts_rng {G sc target body P₀ g b} (h : SndA G sc target g) (hb : SndSS G sc body b) (a c : Int) : ∀ (l : List Nat), Acts G sc target body P₀ (l.map fun (i : Nat) => .tok fun t => .int (a + (i : Int) * c) t) (l.map fun i => fun loc hp kn kr => forceI (a + (Int.ofNat i) * c) fun x => actE g b (.int x) loc hp kn kr)
  | [] => .nil
  | i :: l => .cons (fun F P hp loc s Q kn kr v l' O M R e hk N T => act_tok h hb F P hp loc s Q kn kr v l' O M R e (by dsimp only at hk; rw [forceI_eq] at hk; exact hk) N T) (acts_rng h hb a c l)

section
variable {prog : Program} {w : World} {A : Around} {E : Value → Shared → Prop} {s : Shared} {env : Env} {h₀ : Heap} {body : List Stmt} {Q : Flow → Shared → Prop}
theorem iter_rangeT {x : Str} {px : Pos} {r : Addr} {a b c : Int} {t u v : Tok} {n : Nat} {m₀ : Str → Option Value} {news : List (Addr × Obj)}
    (hh : A.handled = none) (F : Fr h₀ env.locals s.heap m₀) (N : News h₀ env.locals s.heap news) (hr : IsRange s.heap r a b c t u v) (hsm : Builtin.Range.small a b c = true) (hn : Builtin.Range.rangeSize a b c = (n : Int))
    (rest₀ : ∀ I : Addr, (∀ p ∈ news, p.1 < I) → ItemsRest prog w A E h₀ env (.Name x px) body Q s [(I, "range_iterator")] [] (rngItms a c n) m₀ news) :
    wpAny (model prog w) A (pyIter (.ref r)) (fun it s₂ => TurnsAt prog w A h₀ env (.Name x px) body Q E it s₂) E s := by
  refine wpAny_pyIter_range hr hsm ?_
  refine ktu_core (tk0 := s.toks) (keep := []) (KTurns.ofWalks (Walks.range hh s.heap.objs.size a c n).bound fun i v s Q E st q => wpAny_pure q) (by simp [rngItms]) (fun i v h hp => ?_) (fun i h st => ?_) (fun b hb => ?_) (fun b hb => by simpa using hb) (fun b hb => ?_) ?_ (fun p hp hI => ?_) ?_ (F.push _) (fun p hp => ⟨Heap.get?_push_of_some _ (N p hp).1, (N p hp).2⟩) trivial (rest₀ _ fun p hp => Heap.lt_size (N p hp).1)
  · obtain ⟨hi, t, e⟩ := hp
    exact ⟨.tok fun t => .int (a + (i : Int) * c) t, by simp [rngItms, hi], t, e⟩
  · have st' : h.get? s.heap.objs.size = some _ := st
    exact ⟨[(s.heap.objs.size, _)], ⟨⟨rfl, rfl⟩, trivial⟩, fun p hp => by rw [List.mem_singleton.mp hp]; exact st'⟩
  · have hb' : b = s.heap.objs.size := by simpa using hb
    rw [hb']
    exact ⟨List.mem_cons_self .., next_is_new F⟩
  · exact .inl (by simpa using hb)
  · intro hI
    exact absurd F.ns.lt ((List.mem_singleton.mp hI) ▸ Nat.lt_irrefl _)
  · exact absurd (Heap.lt_size (N p hp).1) ((List.mem_singleton.mp hI) ▸ Nat.lt_irrefl _)
  · show IsRangeIter _ _ _ _ _
    rw [hn]
    simpa using Heap.get?_push_size _ rfl
end
noncomputable def forRS (fa : Ev (List V)) (g : Av V) (b : Sv) : Sv := fun loc hp kn kr => fa loc hp fun vs hp => rngE vs fun a c n => loopS none (rngActs g b a c n) loc hp kn kr
theorem snd_forR {G sc y px x p e es cpos body pos fa g b} (hn : NameV G sc x (.type "range")) (ha : SndL G sc (e :: es) fa) (hg : SndA G sc (.Name y px) g) (hb : SndSS G sc body b)
    (he : ∀ env, starEach (e :: es) env = (false, eval e env) :: starEach es env) (hp' : ∀ env pos, (backTo pos (starEach es env)).any (·.1) = false) (hs : ∀ env z, foldedSetIterable (.Call (.Name x p) (e :: es) [] cpos) env z = pure z) :
    SndS G sc (.For (.Name y px) (.Call (.Name x p) (e :: es) [] cpos) body [] pos) (forRS fa g b) := fun F P hp loc s Q kn kr O M R hk N T => by
  have hL := M.l
  refine For_turns (h₀ := F.h₀) (m := F.m) (by rw [hL]; exact R.fr) ?_ (hs _) PassesOwn.never
  refine wpAny_Call_Name_kw (hn F P hp loc s _ p O R ?_)
  show wpAny _ _ (callWith cpos (.type "range") [] (backTo cpos (starEach (e :: es) F.env)) []) _ _ s
  refine PyProof.Rows.callWith_type1 (ha F P hp loc s _ _ cpos O R hk fun vs ws P₁ hp₁ h₁ t₁ hk₁ l₁ R₁ r₁ => ?_) (he _) (hp' _ _)
  refine call_rng (s := { s with heap := h₁, toks := t₁ }) R₁ hk₁ r₁ fun a b c n t u v h' tk hk₂ hle hsm hsz R₂ hr => ?_
  refine iter_rangeT (s := { s with heap := h', toks := tk }) O.fr.hd (by rw [hL]; exact R₂.fr) (by rw [hL]; exact R₂.led) hr hsm hsz fun I hI => ?_
  have hI' : ∀ p ∈ F.fix ++ ledOf P₁ h', ∀ w ∈ [(I, "range_iterator")], p.1 ≠ w.1 := fun p hp' w hw => by
    rw [List.mem_singleton.mp hw]
    exact Nat.ne_of_lt (hI p hp')
  have O₁ := O.mono l₁
  exact turns (F := F) (P₀ := P₁) (s := { s with heap := h', toks := tk }) (keep := []) (kc := none) (fun P' hp' h' m' x _ hx _ => ⟨hx, trivial⟩) (fun loc₂ m₂ P₂ hp₂ h₂ t₂ hk₂ l₂ R₂ L₂ => N loc₂ m₂ P₂ hp₂ h₂ t₂ hk₂ (l₁.trans l₂) R₂ L₂)
    (fun v w m₂ P₂ hp₂ h₂ t₂ hk₂ l₂ R₂ r₂ => T v w m₂ P₂ hp₂ h₂ t₂ hk₂ (l₁.trans l₂) R₂ r₂) hL (acts_rng hg hb a c (List.range n)) P₁ hp₁ loc F.m h' (.refl P₁) R₂
    ⟨O₁.fr, O₁.scp, O₁.gl, O₁.bi, O₁.kind, .inl ⟨hL, rfl⟩, by rw [← M.c]; exact O₁.loc, O₁.cel⟩ hI' hk₂

/-! ## append, as a statement -/
noncomputable def appS (f g : Ev V) : Sv := fun loc hp kn _ => f loc hp fun a hp => match a with
  | .ref i => lookE hp i fun c => match c with
    | .lst _ => g loc hp fun v hp => lookE hp i fun c => match c with
      | .lst vs => andB (shortL vs) (updE hp i (.lst (vs ++ [v])) fun hp => kn loc hp)
      | _ => false
    | _ => false
  | _ => false
theorem snd_append {G sc o apos e pos pos' f g} (hf : SndE G sc o f) (hg : SndE G sc e g) (he : ∀ env, starEach [e] env = (false, eval e env) :: starEach [] env)
    (hm : ∀ env, ∃ pl, eval (.Call (.Attribute o "append" apos) [e] [] pos) env = (do
      let ov ← eval o env
      standAt apos.atName
      let (f, first) ← holding [ov] (getMethod ov "append" pl)
      callWith pos f first (backTo pos (starEach [e] env)) []))
    (hs : ∀ env, swapsWith (.Call (.Attribute o "append" apos) [e] [] pos) Option.none pos'.line env = pure false) :
    SndS G sc (.Expr (.Call (.Attribute o "append" apos) [e] [] pos) pos') (appS f g) := fun F P hp loc s Q kn kr O M R hk N T => by
  obtain ⟨pl, hm⟩ := hm F.env
  refine wpAny_Expr ?_ (by unfold interactive; rw [O.scp, O.kind]; rfl) (hs _)
  refine MethodCall_ (pl := pl) ?_ hm
  refine hf F P hp loc s _ _ O R hk fun a w P₁ hp₁ h₁ t₁ hk₁ l₁ R₁ r₁ => ?_
  cases r₁ with
  | @ref i ax hi ea =>
    dsimp only at hk₁
    obtain ⟨c, e1, hk₁⟩ := lookE_true hk₁
    cases c with
    | lst vs₀ =>
      dsimp only at hk₁
      obtain ⟨xs₀, n₀, gx₀, _, _⟩ := R₁.lst e1
      rw [← ea] at gx₀
      refine getMethod_builtin ⟨_, gx₀, rfl⟩ PySem.F.plainAttrs_list PySem.F.slot_list_append PySem.F.type_list_append (fun a e => by cases e; exact ⟨_, gx₀, rfl⟩) ?_
      refine callWith_method1 ?_ (he _) rfl
      refine wpAny_items_cons (hg F P₁ hp₁ loc _ _ _ (O.mono l₁) R₁ hk₁ fun v w P₂ hp₂ h₂ t₂ hk₂ l₂ R₂ r₂ => wpAny_items_nil ?_) (he _)
      obtain ⟨c, e2, hk₂⟩ := lookE_true hk₂
      cases c with
      | lst vs =>
        dsimp only at hk₂
        obtain ⟨s1, hk₂⟩ := andB_true hk₂
        have s1 := shortL_le s1
        rw [updE_eq] at hk₂
        obtain ⟨xs, n, gx, hx, rx⟩ := R₂.lst e2
        have ea' := ea.trans (l₂.2 _ hi).symm
        rw [← ea'] at gx
        have lx := rx.length
        show wpAny _ _ (call (.builtin "list.append") [.ref ax, w]) _ _ _
        refine append_at gx (fun h' hsb ho => ?_) (by rw [sizeLine_eq]; simp; omega)
        have eq1 : xs.toArray.push w = (xs ++ [w]).toArray := by simp
        rw [eq1] at ho
        rw [ea'] at hsb ho
        exact N loc F.m P₂ _ h' t₂ hk₂ (l₁.trans l₂) (R₂.change e2 hsb ho (.lst _ _ (rx.append (.cons r₂ .nil)))) (by rw [← M.c]; exact O.loc.mono (l₁.trans l₂))
      | _ => cases hk₂
    | _ => cases hk₁
  | _ => cases hk₁

/-! ## the defs -/
theorem lookup_zip {names : List Str} : ∀ {ws : List Value} {i : Nat} {x : Str} {w : Value}, names.Nodup → names[i]? = some x → ws[i]? = some w → (names.zip ws).lookup x = some w := by
  induction names with
  | nil => intro ws i x w _ h; simp at h
  | cons y r ih =>
    intro ws i x w hd hx hw
    cases ws with
    | nil => simp at hw
    | cons v ws =>
      rw [List.nodup_cons] at hd
      cases i with
      | zero =>
        simp at hx hw
        subst hx hw
        simp
      | succ i =>
        simp at hx hw
        have hne : (x == y) = false := by
          have : x ∈ r := List.mem_of_getElem? hx
          cases q : x == y with
          | false => rfl
          | true => exact absurd (beq_iff_eq.mp q ▸ this) hd.1
        rw [List.zip_cons_cons, List.lookup_cons, hne]
        exact ih hd.2 hx hw
theorem zip_reverse : ∀ {names : List Str} {ws : List Value}, names.length = ws.length → (names.zip ws).reverse = names.reverse.zip ws.reverse
  | [], [], _ => rfl
  | [], _ :: _, h => by simp at h
  | _ :: _, [], h => by simp at h
  | x :: r, w :: ws, h => by
    have h' : r.length = ws.length := by simpa using h
    rw [List.zip_cons_cons, List.reverse_cons, List.reverse_cons, List.reverse_cons, List.zip_append (by simpa using h'), zip_reverse h']
    rfl
theorem lookup_zip_rev {names : List Str} {ws : List Value} (hl : names.length = ws.length) {i : Nat} {x : Str} {w : Value} (hd : names.Nodup) (hx : names[i]? = some x) (hw : ws[i]? = some w) : (names.zip ws).reverse.lookup x = some w := by
  rw [zip_reverse hl]
  have hi : i < names.length := (List.getElem?_eq_some_iff.mp hx).1
  refine lookup_zip (i := names.length - 1 - i) (List.pairwise_reverse.mpr (hd.imp Ne.symm)) ?_ ?_
  · rw [List.getElem?_reverse (by omega)]
    have : names.length - 1 - (names.length - 1 - i) = i := by omega
    rw [this]; exact hx
  · rw [List.getElem?_reverse (by omega)]
    have : ws.length - 1 - (names.length - 1 - i) = i := by omega
    rw [this]; exact hw
theorem locR_args {P : Ad} {names rest : List Str} {vs : List V} {ws : List Value} {r : Nat} (hl : names.length = vs.length) (hd : names.Nodup) (rv : VRs P vs ws) :
    LocR P (names ++ rest) (vs ++ List.replicate r .undef) (fun y => (names.zip ws).reverse.lookup y) := by
  intro i x v hx hv hn
  by_cases h : i < vs.length
  · rw [List.getElem?_append_left (by omega)] at hx
    rw [List.getElem?_append_left h] at hv
    obtain ⟨w, hw, hr⟩ := rv.get hv
    exact ⟨w, lookup_zip_rev (by rw [hl, rv.length]) hd hx hw, hr⟩
  · rw [List.getElem?_append_right (by omega)] at hv
    have := List.mem_of_getElem? hv
    exact absurd (List.eq_of_mem_replicate this) hn

structure DefAt (G : Gl) (sc : Sc) (f : Addr) (body : List Stmt) (names rest : List Str) : Prop where
  at_ : ∃ (oc : Value) (od : Option Addr) (osl : Array (Option Value)) (name qual : Str) (params : Arguments) (dV kV doc pm : Value) (an : Option Addr) (cdv ct : Value),
    G.K.lookup f = some ⟨oc, od, .func (fnOf name qual params body sc.scope dV kV doc pm an cdv ct), osl⟩ ∧ codeIn G.K cdv qual = true ∧
    ∀ ws : List Value, ws.length = names.length → bindArgs (fnOf name qual params body sc.scope dV kV doc pm an cdv ct) ⟨ws, []⟩ = pure (names.zip ws)
  vars : sc.vars = names ++ rest
  cells : sc.cells = []
  nodup : names.Nodup
  loc : ∀ x ∈ names, sc.scope.names.lookup x = some .local
  kind : sc.scope.kind = .function
  co : sc.scope.isCoroutine = false
  gen : sc.scope.isGenerator = false
  cell : ∀ x ∈ sc.scope.names, x.2 ≠ .cell

theorem zip_mem {names : List Str} {ws : List Value} {y : Str × Value} (h : y ∈ names.zip ws) : y.1 ∈ names := (List.of_mem_zip h).1

noncomputable def fnF (n r : Nat) (b : Sv) : Fn := fun vs hp k => andB (Nat.beq vs.length n) (b (vs ++ List.replicate r .undef) hp (fun _ hp => k .none hp) k)
theorem callS_def {G sc f body names rest n r b} (D : DefAt G sc f body names rest) (hn : names.length = n) (hr : rest.length = r) (hb : SndSS G sc body b) : CallS G (sc.d + 1) (.ref f) (fnF n r b) := fun F P hp s Q k vs ws O R hk rv B => by
  obtain ⟨hl, hk⟩ := andB_true hk
  have hl := beq_true hl
  obtain ⟨oc, od, osl, name, qual, params, dV, kV, doc, pm, an, cdv, ct, ho, hcd, hbind⟩ := D.at_
  obtain ⟨fenv, outer, A₀, base, hB, hA, hf, hke⟩ := O.top
  have hws : ws.length = names.length := by rw [← rv.length, hl, hn]
  refine wpAny_call (code_def hB R.fr O.X R.led O.T hA hf hke ho hcd (by have := O.depth; omega) (BindsTo.of_eq (hbind ws hws)) (fun y hy => D.loc _ (zip_mem hy)) (fun g L' h₁ FG F' N' B' X' T' => ?_) D.co D.gen D.kind D.cell)
  let F₂ : Fm := { A := F.A.deeper (envOf qual sc.scope L' f cdv), h₀ := g, L := L', env := envOf qual sc.scope L' f cdv, m := fun y => (names.zip ws).reverse.lookup y, fix := F.fix, frz := F.frz, cm := fun y => (names.zip ws).reverse.lookup y }
  have O₂ : OK G sc F₂ P (vs ++ List.replicate r .undef) := {
    fr := { top := ⟨envOf qual sc.scope L' f cdv, fenv :: outer, F.A, base, B', Around.frames_deeper hA, rfl, D.kind⟩, hd := O.hd, X := X', T := T', depth := by have := O.depth; show F.A.depth + 1 + sc.d < _; omega, units := by have := O.units; show F.A.units + 3 + _ + _ < _; omega }
    scp := rfl
    gl := rfl
    bi := rfl
    kind := D.kind
    cur := .inl ⟨rfl, rfl⟩
    loc := by rw [D.vars]; exact locR_args (by rw [hn, hl]) D.nodup rv
    cel := fun x k h => by rw [D.cells] at h; simp at h }
  have M₂ : FnM F₂ := ⟨rfl, rfl⟩
  have R₂ : FRel F₂ P hp h₁ := R.move F' N'
  refine wpAny_mono (hb F₂ P hp _ { s with heap := h₁, toks := s.toks + (names.zip ws).length } _ _ k O₂ M₂ R₂ hk (fun loc₃ m₃ P₃ hp₃ h₃ t₃ hk₃ l₃ R₃ L₃ => ?_) fun v w m₃ P₃ hp₃ h₃ t₃ hk₃ l₃ R₃ r₃ => ?_) (fun _ _ x => x) (fun _ _ x => x.elim)
  · exact ⟨L', m₃, F.fix ++ ledOf P₃ h₃, R₃.fr, R₃.led, fun Fr' N'' => B _ _ P₃ hp₃ h₃ t₃ hk₃ l₃ (R₃.move Fr' N'') .none⟩
  · exact ⟨L', m₃, F.fix ++ ledOf P₃ h₃, R₃.fr, R₃.led, fun Fr' N'' => B _ _ P₃ hp₃ h₃ t₃ hk₃ l₃ (R₃.move Fr' N'') r₃⟩

/-! ### a call that hands numbers in and no object out: the callee's heap is forgotten -/
noncomputable def flatE (vs : List V) (k : Bool) : Bool := List.rec (motive := fun _ => Bool) k (fun v _ ih => match v with | .ref _ => false | _ => ih) vs
def Ad.nil : Ad := ⟨fun _ => (0 : Nat), 0⟩
theorem VR.flat {P P' : Ad} {v : V} {w : Value} (h : VR P v w) (hn : ∀ i, v ≠ .ref i) : VR P' v w := by
  cases h with
  | ref => exact absurd rfl (hn _)
  | none => exact .none
  | bool b => exact .bool b
  | int i t => exact .int i t
theorem flatE_true {P : Ad} {k : Bool} : ∀ {vs : List V} {ws : List Value}, flatE vs k = true → VRs P vs ws → k = true ∧ VRs Ad.nil vs ws
  | _, _, h, .nil => ⟨h, .nil⟩
  | v :: vs, _, h, .cons rv rs => by
    cases v with
    | ref i => cases h
    | undef => cases rv
    | none => obtain ⟨a, b⟩ := flatE_true (vs := vs) h rs; exact ⟨a, .cons (rv.flat nofun) b⟩
    | bool => obtain ⟨a, b⟩ := flatE_true (vs := vs) h rs; exact ⟨a, .cons (rv.flat nofun) b⟩
    | int => obtain ⟨a, b⟩ := flatE_true (vs := vs) h rs; exact ⟨a, .cons (rv.flat nofun) b⟩
def nonref (v : V) (k : Bool) : Bool := match v with | .ref _ => false | _ => k
theorem nonref_true {v : V} {k : Bool} (h : nonref v k = true) : (∀ i, v ≠ .ref i) ∧ k = true := by
  cases v with
  | ref => cases h
  | none => exact ⟨nofun, h⟩
  | undef => exact ⟨nofun, h⟩
  | bool => exact ⟨nofun, h⟩
  | int => exact ⟨nofun, h⟩
noncomputable def pureF (n r : Nat) (b : Sv) : Fn := fun vs hp k => andB (Nat.beq vs.length n) (flatE vs (b (vs ++ List.replicate r .undef) [] (fun _ _ => k .none hp) fun v _ => nonref v (k v hp)))
theorem callS_pure {G sc f body names rest n r b} (D : DefAt G sc f body names rest) (hn : names.length = n) (hr : rest.length = r) (hb : SndSS G sc body b) : CallS G (sc.d + 1) (.ref f) (pureF n r b) := fun F P hp s Q k vs ws O R hk rv B => by
  obtain ⟨hl, hk⟩ := andB_true hk
  have hl := beq_true hl
  obtain ⟨hk, rv'⟩ := flatE_true hk rv
  obtain ⟨oc, od, osl, name, qual, params, dV, kV, doc, pm, an, cdv, ct, ho, hcd, hbind⟩ := D.at_
  obtain ⟨fenv, outer, A₀, base, hB, hA, hf, hke⟩ := O.top
  have hws : ws.length = names.length := by rw [← rv.length, hl, hn]
  have X := O.X.keeps R.fr.keep
  have B₁ := pushX hB R.fr hf hke
  refine wpAny_call (codeAny_call_def (fd := fnOf name qual params body sc.scope dV kV doc pm an cdv ct) (body := body) (binds := names.zip ws) (by have := O.depth; omega) (X _ _ ho) rfl (O.T.nolimit.keeps R.fr.keep) (codeRec_of X hcd) rfl (BindsTo.of_eq (hbind ws hws)) D.cell
    (fun y hy => D.loc _ (zip_mem hy)) (fun h₁ hns hk₁ => ?_) D.co D.gen D.kind)
  let env' : Env := envOf qual sc.scope s.heap.objs.size f cdv
  let F₂ : Fm := { A := F.A.deeper env', h₀ := s.heap, L := s.heap.objs.size, env := env', m := fun y => (names.zip ws).reverse.lookup y, fix := [], frz := fun _ => Option.none, cm := fun y => (names.zip ws).reverse.lookup y }
  have O₂ : OK G sc F₂ Ad.nil (vs ++ List.replicate r .undef) := {
    fr := { top := ⟨env', fenv :: outer, F.A, base, ⟨hA, B₁.stays, B₁.frames⟩, Around.frames_deeper hA, rfl, D.kind⟩, hd := O.hd, X := X, T := O.T.keeps R.fr.keep, depth := by have := O.depth; show F.A.depth + 1 + sc.d < _; omega, units := by have := O.units; show F.A.units + 3 + _ + _ < _; omega }
    scp := rfl
    gl := rfl
    bi := rfl
    kind := D.kind
    cur := .inl ⟨rfl, rfl⟩
    loc := by rw [D.vars]; exact locR_args (by rw [hn, hl]) D.nodup rv'
    cel := fun x k h => by rw [D.cells] at h; simp at h }
  have M₂ : FnM F₂ := ⟨rfl, rfl⟩
  have R₂ : FRel F₂ Ad.nil [] h₁ := {
    fr := ⟨hns, hk₁, Nat.le_refl _⟩
    fx := fun _ h => by cases h
    live := fun k h => absurd h (Nat.not_lt_zero _)
    inj := fun i j h => absurd h (Nat.not_lt_zero _)
    own := fun k c h => by cases h
    nx := rfl }
  refine wpAny_mono (hb F₂ Ad.nil [] _ { s with heap := h₁, toks := s.toks + (names.zip ws).length } _ _ _ O₂ M₂ R₂ hk (fun loc₃ m₃ P₃ hp₃ h₃ t₃ hk₃ l₃ R₃ L₃ => ?_) fun v w m₃ P₃ hp₃ h₃ t₃ hk₃ l₃ R₃ r₃ => ?_) (fun _ _ x => x) (fun _ _ x => x.elim)
  · exact B _ _ P hp h₃ t₃ hk₃ (.refl P) (R.keeps R₃.fr.keep) .none
  · obtain ⟨q, hk₃⟩ := nonref_true hk₃
    exact B _ _ P hp h₃ t₃ hk₃ (.refl P) (R.keeps R₃.fr.keep) (r₃.flat q)

section
variable {h₀ h h' : Heap} {L : Addr} {m : Str → Option Value} {fix fix' X : List (Addr × Obj)} {frz : (Nat → Option Obj)} {P : Ad} {hp : Hp} {C : Addr} {oC oC' : Obj}
theorem Rel.sub (R : Rel h₀ L m fix frz P hp h) (hs : ∀ q ∈ fix', q ∈ fix) : Rel h₀ L m fix' frz P hp h where
  fr := R.fr
  fx := fun p q => R.fx p (hs p q)
  live := fun k hk => let ⟨a, b, f, r⟩ := R.live k hk; ⟨a, b, fun q hq => f q (hs q hq), r⟩
  inj := R.inj
  own := R.own
  nx := R.nx
/-- an object beside is changed -/
theorem Rel.refix (R : Rel h₀ L m ((C, oC) :: X) frz P hp h) (hk : ∀ b o, b ≠ C → h.get? b = some o → h'.get? b = some o) (ho : h'.get? C = some oC') (hX : ∀ q ∈ X, q.1 ≠ C) : Rel h₀ L m ((C, oC') :: X) frz P hp h' where
  fr := ⟨R.fr.ns.at' fun o e => hk L o (Ne.symm (R.fx _ (List.mem_cons_self ..)).2.1) e, fun b o e => hk b o (fun q => by rw [q, (R.fx _ (List.mem_cons_self ..)).2.2] at e; cases e) (R.fr.keep b o e), R.fr.above⟩
  fx := fun p hp => by
    rcases List.mem_cons.mp hp with rfl | hp
    · exact ⟨ho, (R.fx _ (List.mem_cons_self ..)).2⟩
    · exact ⟨hk _ _ (hX p hp) (R.fx p (List.mem_cons_of_mem _ hp)).1, (R.fx p (List.mem_cons_of_mem _ hp)).2⟩
  live := fun k hk' => by
    obtain ⟨a, b, f, o, e⟩ := R.live k hk'
    refine ⟨a, b, fun q hq => ?_, o, hk _ o (Ne.symm (f (C, oC) (List.mem_cons_self ..))) e⟩
    rcases List.mem_cons.mp hq with rfl | hq
    · exact f (C, oC) (List.mem_cons_self ..)
    · exact f q (List.mem_cons_of_mem _ hq)
  inj := R.inj
  own := fun k c hc => by
    obtain ⟨a, o, e, r⟩ := R.own k c hc
    exact ⟨a, o, hk _ o (Ne.symm ((R.live k a).2.2.1 (C, oC) (List.mem_cons_self ..))) e, r⟩
  nx := R.nx
/-- an object beside is dropped, whatever became of it -/
theorem Rel.defix (R : Rel h₀ L m ((C, oC) :: X) frz P hp h) (hk : ∀ b o, b ≠ C → h.get? b = some o → h'.get? b = some o) (hX : ∀ q ∈ X, q.1 ≠ C) : Rel h₀ L m X frz P hp h' where
  fr := ⟨R.fr.ns.at' fun o e => hk L o (Ne.symm (R.fx _ (List.mem_cons_self ..)).2.1) e, fun b o e => hk b o (fun q => by rw [q, (R.fx _ (List.mem_cons_self ..)).2.2] at e; cases e) (R.fr.keep b o e), R.fr.above⟩
  fx := fun p hp => ⟨hk _ _ (hX p hp) (R.fx p (List.mem_cons_of_mem _ hp)).1, (R.fx p (List.mem_cons_of_mem _ hp)).2⟩
  live := fun k hk' => by
    obtain ⟨a, b, f, o, e⟩ := R.live k hk'
    exact ⟨a, b, fun q hq => f q (List.mem_cons_of_mem _ hq), o, hk _ o (Ne.symm (f (C, oC) (List.mem_cons_self ..))) e⟩
  inj := R.inj
  own := fun k c hc => by
    obtain ⟨a, o, e, r⟩ := R.own k c hc
    exact ⟨a, o, hk _ o (Ne.symm ((R.live k a).2.2.1 (C, oC) (List.mem_cons_self ..))) e, r⟩
  nx := R.nx
/-- a new object, put beside -/
theorem Rel.pushFix (R : Rel h₀ L m fix frz P hp h) {o : Obj} (hf : o.isFreed = false) : Rel h₀ L m ((h.objs.size, o) :: fix) frz P hp (h.push o) := by
  have up : ∀ b o', h.get? b = some o' → (h.push o).get? b = some o' := fun b o' e => Heap.get?_push_of_some _ e
  exact { fr := R.fr.keeps up
          fx := fun p hp => by
            rcases List.mem_cons.mp hp with rfl | hp
            · exact ⟨Heap.get?_push_size _ hf, Ne.symm (Nat.ne_of_lt R.fr.ns.lt), next_is_new R.fr⟩
            · exact (R.fx.grown up) p hp
          live := fun k hk => by
            obtain ⟨a, b, f, o', e⟩ := R.live k hk
            refine ⟨a, b, fun q hq => ?_, o', up _ _ e⟩
            rcases List.mem_cons.mp hq with rfl | hq
            · exact Ne.symm (Nat.ne_of_lt (Heap.lt_size e))
            · exact f q hq
          inj := R.inj
          own := fun k c hc => let ⟨a, o', e, r⟩ := R.own k c hc; ⟨a, o', up _ _ e, r⟩
          nx := R.nx }
/-- what stood beside is ours now -/
theorem Rel.addKey (R : Rel h₀ L m ((C, oC) :: X) frz P hp h) {c : Mine.C} (hc : OR P c oC) (hX : ∀ q ∈ X, q.1 ≠ C) : Rel h₀ L m X frz (P.ext C) ((P.n, c) :: hp) h := by
  have le := P.le_ext C
  have z := R.fx _ (List.mem_cons_self ..)
  have ne : ∀ k, k < P.n → P.f k ≠ C := fun i hi => Ne.symm ((R.live i hi).2.2.1 (C, oC) (List.mem_cons_self ..))
  refine ⟨R.fr, fun p q => R.fx p (List.mem_cons_of_mem _ q), fun i hi => ?_, fun i j hi hj e => ?_, fun i c' hc' => ?_, rfl⟩
  · rcases Nat.lt_or_eq_of_le (Nat.le_of_lt_succ hi) with q | q
    · rw [le.2 i q]
      obtain ⟨a, b, f, r⟩ := R.live i q
      exact ⟨a, b, fun q hq => f q (List.mem_cons_of_mem _ hq), r⟩
    · subst q; rw [Ad.ext_at]; exact ⟨z.2.1, z.2.2, hX, oC, z.1⟩
  · rcases Nat.lt_or_eq_of_le (Nat.le_of_lt_succ hi) with q | q <;> rcases Nat.lt_or_eq_of_le (Nat.le_of_lt_succ hj) with r | r
    · rw [le.2 i q, le.2 j r] at e; exact R.inj i j q r e
    · subst r; rw [le.2 i q, Ad.ext_at] at e; exact absurd e (ne i q)
    · subst q; rw [le.2 j r, Ad.ext_at] at e; exact absurd e.symm (ne j r)
    · rw [q, r]
  · unfold look at hc'
    by_cases q : P.n = i
    · subst q
      rw [if_pos rfl] at hc'
      cases hc'
      exact ⟨Nat.lt_succ_self _, oC, by rw [Ad.ext_at]; exact z.1, .of (hc.mono le)⟩
    · rw [if_neg q] at hc'
      obtain ⟨a1, o', e, r⟩ := R.own i c' hc'
      exact ⟨Nat.lt_succ_of_lt a1, o', by rw [le.2 i a1]; exact e, r.mono le⟩
end

/-! ## the state of a comprehension -/
def CSt (F : Fm) (vars : List Str) (C D : Addr) (its : List (Addr × Obj)) (P : Ad) (hp : Hp) (loc xs : List V) (h : Heap) : Prop :=
  ∃ oC mC ws, Rel F.h₀ F.L F.m ((C, oC) :: (D, LCg.lst ws) :: (its ++ F.fix)) F.frz P hp h ∧ LCg.NsObj oC mC ∧ LocR P vars loc mC ∧ VRs P xs ws
structure CX (G : Gl) (sc' : Sc) (F : Fm) (scope : Scope) (cl : List (Str × Addr)) (P : Ad) : Prop where
  fr : FrameOK G sc'.d F.A F.h₀ F.L
  scp : relabel scope F.env = sc'.scope
  gl : F.env.globals = mainGlobals
  bi : F.env.builtins = builtinsNs
  kind : sc'.scope.kind = .function
  cel : CellR P sc'.cells cl
theorem CX.mono {G : Gl} {sc' : Sc} {F : Fm} {scope : Scope} {cl : List (Str × Addr)} {P P' : Ad} (l : P.le P') (X : CX G sc' F scope cl P) : CX G sc' F scope cl P' := ⟨X.fr, X.scp, X.gl, X.bi, X.kind, X.cel.mono l⟩
def inC (F : Fm) (scope : Scope) (cl : List (Str × Addr)) (C : Addr) (fix : List (Addr × Obj)) (mC : Str → Option Value) : Fm := { F with env := compEnvC scope cl C F.env, fix := fix, cm := mC }
theorem CX.ok {G : Gl} {sc' : Sc} {F : Fm} {scope : Scope} {cl : List (Str × Addr)} {P : Ad} (X : CX G sc' F scope cl P) {C : Addr} {oC : Obj} {mC : Str → Option Value} {fix : List (Addr × Obj)} {loc : List V} (hm : (C, oC) ∈ fix) (hn : LCg.NsObj oC mC) (hl : LocR P sc'.vars loc mC) :
    OK G sc' (inC F scope cl C fix mC) P loc := ⟨X.fr, X.scp, X.gl, X.bi, X.kind, .inr ⟨oC, hm, hn⟩, hl, X.cel⟩
def Sep (C D : Addr) (X : List (Addr × Obj)) : Prop := C ≠ D ∧ ∀ q ∈ X, q.1 ≠ C ∧ q.1 ≠ D

section
variable {G : Gl} {sc' : Sc} {F : Fm} {scope : Scope} {cl : List (Str × Addr)} {P : Ad} {hp : Hp} {loc xs : List V} {C D : Addr} {its : List (Addr × Obj)} {s : Shared}
theorem CSt.mono_xs {h : Heap} {vars : List Str} (S : CSt F vars C D its P hp loc xs h) : True := trivial
theorem cst_eval {e f Q k} (he : SndE G sc' e f) (X : CX G sc' F scope cl P) (S : CSt F sc'.vars C D its P hp loc xs s.heap) (hk : f loc hp k = true)
    (B : ∀ v w P' hp' h' tk, k v hp' = true → P.le P' → CSt F sc'.vars C D its P' hp' loc xs h' → VR P' v w → Q w { s with heap := h', toks := tk }) :
    wpAny (model G.prog G.w) F.A (eval e (compEnvC scope cl C F.env)) Q Ra s := by
  obtain ⟨oC, mC, ws, R, hn, hl, hx⟩ := S
  exact he (inC F scope cl C _ mC) P hp loc s Q k (X.ok (List.mem_cons_self ..) hn hl) R hk fun v w P' hp' h' tk hk l R' r => B v w P' hp' h' tk hk l ⟨oC, mC, ws, R', hn, hl.mono l, hx.mono l⟩ r
theorem cst_test {e f} {Q : Bool → Shared → Prop} {k} (he : SndT G sc' e f) (X : CX G sc' F scope cl P) (S : CSt F sc'.vars C D its P hp loc xs s.heap) (hk : f loc hp k = true)
    (B : ∀ b P' hp' h' tk, k b hp' = true → P.le P' → CSt F sc'.vars C D its P' hp' loc xs h' → Q b { s with heap := h', toks := tk }) :
    wpAny (model G.prog G.w) F.A (isTrue e (compEnvC scope cl C F.env) (eval e (compEnvC scope cl C F.env))) Q Ra s := by
  obtain ⟨oC, mC, ws, R, hn, hl, hx⟩ := S
  exact he (inC F scope cl C _ mC) P hp loc s Q k (X.ok (List.mem_cons_self ..) hn hl) R hk fun b P' hp' h' tk hk l R' => B b P' hp' h' tk hk l ⟨oC, mC, ws, R', hn, hl.mono l, hx.mono l⟩
theorem cst_store {x : Str} {i : Nat} {v : V} {w : Value} {Q : Unit → Shared → Prop} (hi : VarAt sc'.vars x i) (hk : scope.names.lookup x = some .local) (hkd : scope.kind = .function) (hd : sc'.vars.Nodup) (sp : Sep C D (its ++ F.fix))
    (S : CSt F sc'.vars C D its P hp loc xs s.heap) (r : VR P v w) (B : ∀ h' tk, CSt F sc'.vars C D its P hp (loc.set i v) xs h' → Q () { s with heap := h', toks := tk }) :
    wpAny (model G.prog G.w) F.A (storeName (compEnvC scope cl C F.env) x w) Q Ra s := by
  obtain ⟨oC, mC, ws, R, hn, hl, hx⟩ := S
  refine wpAny_storeName_local (m := mC) (lookup_relabel_local hk) (hn.ns (R.fx _ (List.mem_cons_self ..)).1) (fun h' hn' hs => ?_) (by simp [compEnvC, relabel, hkd])
  obtain ⟨oC', ho', hno'⟩ := LCg.ns_obj hn'
  refine B h' _ ⟨oC', _, ws, R.refix (fun b o hb e => hs.extBut b o hb e) ho' (fun q hq => ?_), hno', hl.set hd hi r, hx⟩
  rcases List.mem_cons.mp hq with rfl | hq
  · exact Ne.symm sp.1
  · exact (sp.2 q hq).1
theorem cst_append {v : V} {w : Value} {Q : Value → Shared → Prop} (sp : Sep C D (its ++ F.fix)) (S : CSt F sc'.vars C D its P hp loc xs s.heap) (r : VR P v w) (hs : shortL xs = true)
    (B : ∀ h' tk, CSt F sc'.vars C D its P hp loc (xs ++ [v]) h' → Q .none { s with heap := h', toks := tk }) :
    wpAny (model G.prog G.w) F.A (call (.builtin "list.append") [.ref D, w]) Q Ra s := by
  obtain ⟨oC, mC, ws, R, hn, hl, hx⟩ := S
  have s1 := shortL_le hs
  have e1 := hx.length
  have R' : Rel F.h₀ F.L F.m ((D, LCg.lst ws) :: (C, oC) :: (its ++ F.fix)) F.frz P hp s.heap := R.sub fun q hq => by
    simp only [List.mem_cons] at hq ⊢
    rcases hq with rfl | rfl | hq
    · exact .inr (.inl rfl)
    · exact .inl rfl
    · exact .inr (.inr hq)
  refine append_at (R'.fx _ (List.mem_cons_self ..)).1 (fun h' hsb ho => ?_) (by rw [sizeLine_eq]; simp; omega)
  rw [LCg.lst_snoc] at ho
  have R₂ := R'.refix (fun b o hb e => hsb.extBut b o hb e) ho fun q hq => by
    rcases List.mem_cons.mp hq with rfl | hq
    · exact sp.1
    · exact (sp.2 q hq).2
  refine B h' _ ⟨oC, mC, ws ++ [w], R₂.sub fun q hq => ?_, hn, hl, hx.append (.cons r .nil)⟩
  simp only [List.mem_cons] at hq ⊢
  rcases hq with rfl | rfl | hq
  · exact .inr (.inl rfl)
  · exact .inl rfl
  · exact .inr (.inr hq)
end

/-! ## targets, tests -/
def SndCA (G : Gl) (sc' : Sc) (scope : Scope) (target : Expr) (g : Av V) : Prop :=
  ∀ (F : Fm) (cl : List (Str × Addr)) (C D : Addr) (its : List (Addr × Obj)) (P : Ad) (hp : Hp) (loc xs : List V) (s : Shared) (Q : Unit → Shared → Prop) (k : List V → Hp → Bool) (v : V) (w : Value),
    CX G sc' F scope cl P → Sep C D (its ++ F.fix) → CSt F sc'.vars C D its P hp loc xs s.heap → g v loc hp k = true → VR P v w → (∀ loc' hp' h' tk, k loc' hp' = true → CSt F sc'.vars C D its P hp' loc' xs h' → Q () { s with heap := h', toks := tk }) →
    wpAny (model G.prog G.w) F.A (assign target (compEnvC scope cl C F.env) w) Q Ra s
theorem snd_cName {G sc' scope x pos i} (hi : VarAt sc'.vars x i) (hk : scope.names.lookup x = some .local) (hkd : scope.kind = .function) (hd : sc'.vars.Nodup) : SndCA G sc' scope (.Name x pos) (stL i) := fun F cl C D its P hp loc xs s Q k v w X sp S hkk r B => by
  have hkk : setE loc i v (fun loc => k loc hp) = true := hkk
  rw [setE_eq] at hkk
  exact wpAny_assign_Name (cst_store hi hk hkd hd sp S r fun h' tk S' => B _ _ h' tk hkk S')
theorem snd_cPair {G sc' scope x y px py kk pos i j} (hi : VarAt sc'.vars x i) (hj : VarAt sc'.vars y j) (hk : scope.names.lookup x = some .local) (hk' : scope.names.lookup y = some .local) (hkd : scope.kind = .function) (hd : sc'.vars.Nodup) :
    SndCA G sc' scope (.Tuple [.Name x px, .Name y py] kk pos) (unpE 2 (asCons (stL i) (asCons (stL j) asNil))) := fun F cl C D its P hp loc xs s Q k v w X sp S hk₁ r B => by
  cases r with
  | @ref n a hn ea =>
    dsimp only [unpE] at hk₁
    obtain ⟨c, e, hk₁⟩ := lookE_true hk₁
    cases c with
    | tup vs =>
      dsimp only at hk₁
      obtain ⟨hb, hk₁⟩ := andB_true hk₁
      have hb := beq_true hb
      have ⟨oC, mC, ws₀, R, hn₀, hl, hx₀⟩ := S
      obtain ⟨ws, hx, rx⟩ := R.tup e
      rw [← ea] at hx
      have lx := rx.length
      cases rx with
      | nil => cases hb
      | @cons v1 w1 vs1 ws1 r1 rx =>
        cases rx with
        | nil => cases hb
        | @cons v2 w2 vs2 ws2 r2 rx =>
          cases rx with
          | cons => simp at hb
          | nil =>
            have hk₁ : setE loc i v1 (fun loc => setE loc j v2 fun loc => k loc hp) = true := hk₁
            rw [setE_eq, setE_eq] at hk₁
            refine assign_Tuple_tuple X.fr.hd hx rfl rfl fun h' he => ?_
            have S' : CSt F sc'.vars C D its P hp loc xs h' := ⟨oC, mC, ws₀, R.keeps (extBut_keeps he), hn₀, hl, hx₀⟩
            refine assignInOrder_cons (wpAny_assign_Name (cst_store (s := { s with heap := h' }) hi hk hkd hd sp S' r1 fun h₂ tk₂ S₂ => ?_))
            refine assignInOrder_cons (wpAny_assign_Name (cst_store (s := { s with heap := h₂, toks := tk₂ }) hj hk' hkd hd sp S₂ r2 fun h₃ tk₃ S₃ => ?_))
            exact assignInOrder_nil (B _ _ h₃ tk₃ hk₁ S₃)
    | _ => cases hk₁
  | _ => cases hk₁
def SndIfs (G : Gl) (sc' : Sc) (ifs : List Expr) (t : Ev Bool) : Prop :=
  ∀ (F : Fm) (scope : Scope) (cl : List (Str × Addr)) (C D : Addr) (its : List (Addr × Obj)) (P : Ad) (hp : Hp) (loc xs : List V) (s : Shared) (Q : Bool → Shared → Prop) (k : Bool → Hp → Bool),
    CX G sc' F scope cl P → CSt F sc'.vars C D its P hp loc xs s.heap → t loc hp k = true → (∀ b P' hp' h' tk, k b hp' = true → P.le P' → CSt F sc'.vars C D its P' hp' loc xs h' → Q b { s with heap := h', toks := tk }) →
    wpAny (model G.prog G.w) F.A (forIn ifs true fun c r => if r = true then do let ok ← isTrue c (compEnvC scope cl C F.env) (eval c (compEnvC scope cl C F.env)); pure (ForInStep.yield ok) else pure (ForInStep.yield r)) Q Ra s
theorem snd_ifs_nil {G sc'} : SndIfs G sc' [] (fun _ hp k => k true hp) := fun F scope cl C D its P hp loc xs s Q k X S hk B => wpAny_tests_nil (B true P hp s.heap s.toks hk (.refl P) S)
theorem snd_ifs_one {G sc' c t} (h : SndT G sc' c t) : SndIfs G sc' [c] t := fun F scope cl C D its P hp loc xs s Q k X S hk B => wpAny_tests_one (cst_test h X S hk B)

/-! ## the closure of a comprehension -/
def cellsIn (env : Env) : List (Str × NameKind) → List (Str × Addr) → List (Str × Addr)
  | [], cs => cs
  | (n, k) :: r, cs => cellsIn env r (if k == NameKind.free then (n, (env.cells.lookup n).getD (0 : Nat)) :: cs else cs)
theorem clos_eq {scope : Scope} {env : Env} (h : ∀ x ∈ scope.names, x.2 = .free → ∃ a, env.cells.lookup x.1 = some a) : closureFor scope env = pure (cellsIn env scope.names []) := by
  simp only [closureFor]
  generalize ([] : List (Str × Addr)) = cs
  generalize hn : scope.names = names at h ⊢
  clear hn
  induction names generalizing cs with
  | nil => rfl
  | cons x r ih =>
    obtain ⟨n, k⟩ := x
    rw [List.forIn_cons]
    unfold cellsIn
    cases hk : k == NameKind.free with
    | false =>
      simp only [Bool.false_eq_true, if_false]
      exact ih _ fun y hy => h y (List.mem_cons_of_mem _ hy)
    | true =>
      obtain ⟨a, ha⟩ := h _ (List.mem_cons_self ..) (by simpa using hk)
      have e : cellOf env n = pure a := by unfold cellOf; rw [ha]
      simp only [if_true]
      rw [e, ha]
      exact ih _ fun y hy => h y (List.mem_cons_of_mem _ hy)
theorem cellsIn_lookup {env : Env} {x : Str} {a : Addr} (ha : env.cells.lookup x = some a) : ∀ (names : List (Str × NameKind)) (cs : List (Str × Addr)), ((x, NameKind.free) ∈ names ∨ cs.lookup x = some a) → (∀ b, cs.lookup x = some b → b = a) → (cellsIn env names cs).lookup x = some a
  | [], cs, h, _ => by
    rcases h with h | h
    · cases h
    · exact h
  | (n, k) :: r, cs, h, hb => by
    unfold cellsIn
    cases hk : k == NameKind.free with
    | false =>
      simp only [Bool.false_eq_true, if_false]
      refine cellsIn_lookup ha r cs ?_ hb
      rcases h with h | h
      · rcases List.mem_cons.mp h with e | h
        · injection e with e1 e2
          subst e2
          cases hk
        · exact .inl h
      · exact .inr h
    | true =>
      simp only [if_true]
      by_cases e : x = n
      · subst e
        refine cellsIn_lookup ha r _ (.inr ?_) fun b hb' => ?_
        · simp [ha]
        · simp [ha] at hb'
          exact hb'.symm
      · have e' : (x == n) = false := by simpa using e
        have lk : ∀ y : Addr, List.lookup x ((n, y) :: cs) = cs.lookup x := fun y => by rw [List.lookup_cons, e']
        refine cellsIn_lookup ha r _ ?_ fun b hb' => ?_
        · rcases h with h | h
          · rcases List.mem_cons.mp h with q | h
            · injection q with e1 e2
              exact absurd e1 e
            · exact .inl h
          · exact .inr ((lk _).trans h)
        · rw [lk] at hb'
          exact hb b hb'

/-- what the scope of a comprehension must be, over the scope around it -/
structure CompSc (sc sc' : Sc) (scope : Scope) : Prop where
  d : sc'.d ≤ sc.d
  rel : ∀ env : Env, env.scope = sc.scope → relabel scope env = sc'.scope
  kind : scope.kind = .function
  kind' : sc'.scope.kind = .function
  cell : ∀ y ∈ scope.names, y.2 ≠ .cell
  names : ∀ y ∈ scope.names, y.2 = .local → scope.names.lookup y.1 = some .local
  free : ∀ y ∈ scope.names, y.2 = .free → ∃ k, sc.cells.lookup y.1 = some k
  cells : ∀ y ∈ sc'.cells, (y.1, NameKind.free) ∈ scope.names ∧ sc.cells.lookup y.1 = some y.2
theorem lookup_mem {α : Type} : ∀ {l : List (Str × α)} {x : Str} {a : α}, l.lookup x = some a → (x, a) ∈ l
  | [], _, _, h => by cases h
  | (y, b) :: r, x, a, h => by
    rw [List.lookup_cons] at h
    cases q : x == y with
    | true =>
      rw [q] at h
      cases h
      rw [beq_iff_eq.mp q]
      exact List.mem_cons_self ..
    | false =>
      rw [q] at h
      exact List.mem_cons_of_mem _ (lookup_mem h)
theorem CompSc.clos {sc sc' : Sc} {scope : Scope} (K : CompSc sc sc' scope) {G : Gl} {F : Fm} {P : Ad} {loc : List V} (O : OK G sc F P loc) : ∃ cl, closureFor scope F.env = pure cl ∧ CX G sc' F scope cl P := by
  have h : ∀ x ∈ scope.names, x.2 = .free → ∃ a, F.env.cells.lookup x.1 = some a := fun x hx hf => by
    obtain ⟨k, hk⟩ := K.free x hx hf
    exact ⟨_, (O.cel _ _ hk).2⟩
  refine ⟨_, clos_eq h, O.fr.less K.d, K.rel _ O.scp, O.gl, O.bi, K.kind', fun x k hx => ?_⟩
  obtain ⟨h1, h2⟩ := K.cells _ (lookup_mem hx)
  obtain ⟨h3, h4⟩ := O.cel _ _ h2
  exact ⟨h3, cellsIn_lookup h4 _ _ (.inl h1) fun b hb => by cases hb⟩

/-! ## sources -/
noncomputable def resE (kc : Option (Nat × C)) (hp : Hp) (κ : Hp → Bool) : Bool := match kc with
  | none => κ hp
  | some p => lookE hp p.1 fun c => match c with | .hid _ => updE hp p.1 p.2 κ | _ => false
structure SrcOK (G : Gl) (F F' : Fm) (P : Ad) (hp : Hp) (I : Addr) (us : List V) (kc : Option (Nat × C)) (h : Heap) : Prop where
  ex : ∃ (oI : Obj) (fp : List Addr) (Pv : Nat → Value → Prop) (St : Nat → Heap → Prop), Walks G.prog G.w F.A I fp [I] us.length Pv St ∧ (∀ i h, St i h → ∃ o, h.get? I = some o) ∧ St 0 h ∧ (∀ i v, i < us.length → Pv i v → ∃ u, us[i]? = some u ∧ VR P u v) ∧
    (∀ ts kk pos i (s : Shared) v Q, St i s.heap → Q () s → wpAny (model G.prog G.w) F.A (letOwnedTupleGo (.Tuple ts kk pos) (.ref I) v) Q Ra s) ∧
    Rel F.h₀ F.L F.m ((I, oI) :: F.fix) F'.frz P hp h ∧ (∀ q ∈ F.fix, q.1 ≠ I) ∧
    (∀ b ∈ fp, ∃ o, h.get? b = some o) ∧
    (∀ m' X' P' hp' h' x, P.le P' → chkE (kc.map (·.1)) hp' x = true → Rel F.h₀ F.L m' X' F'.frz P' hp' h' → x = true ∧ ∀ b ∈ fp, b ≠ I → h'.get? b = h.get? b)
  res : ∀ m' X' P' hp' h' κ, P.le P' → resE kc hp' κ = true → Rel F.h₀ F.L m' X' F'.frz P' hp' h' → ∃ hp'', κ hp'' = true ∧ Rel F.h₀ F.L m' X' F.frz P' hp'' h'
  eq : F' = { F with frz := F'.frz }
abbrev Es := List V → Hp → (List V → Option (Nat × C) → Hp → Bool) → Bool
def SndI (G : Gl) (sc : Sc) (e : Expr) (f : Es) : Prop :=
  ∀ (F : Fm) (P : Ad) (hp : Hp) (loc : List V) (s : Shared) (K : Value → Shared → Prop) (k : List V → Option (Nat × C) → Hp → Bool),
    OK G sc F P loc → FRel F P hp s.heap → f loc hp k = true →
    (∀ us kc P' hp' h' tk I F', k us kc hp' = true → P.le P' → SrcOK G F F' P' hp' I us kc h' → K (.ref I) { s with heap := h', toks := tk }) →
    wpAny (model G.prog G.w) F.A (eval e F.env) (fun x s₁ => wpAny (model G.prog G.w) F.A (pyIter x) K Ra s₁) Ra s

theorem letOwned_other {prog : Program} {w : World} {A : Around} {ts kk pos I l} {i : Nat} {s : Shared} {v : Value} {Q : Unit → Shared → Prop} {E : Value → Shared → Prop} (hit : s.heap.IsListIter I l i) (hQ : Q () s) : wpAny (model prog w) A (letOwnedTupleGo (.Tuple ts kk pos) (.ref I) v) Q E s := by
  cases v with
  | ref T => exact wpAny_letOwnedTupleGo_listiter hit hQ
  | _ => exact wpAny_pure hQ

noncomputable def lstSrc (f : Ev V) : Es := fun loc hp k => f loc hp fun a hp => match a with
  | .ref i => lookE hp i fun c => match c with
    | .lst vs => andB (shortL vs) (updE hp i (.hid (.lst vs)) fun hp => k vs (some (i, .lst vs)) hp)
    | _ => false
  | _ => false
theorem snd_srcL {G sc e f} (h : SndE G sc e f) : SndI G sc e (lstSrc f) := fun F P hp loc s K k O R hk B => by
  refine h F P hp loc s _ _ O R hk fun a w P₁ hp₁ h₁ t₁ hk₁ l₁ R₁ r₁ => ?_
  cases r₁ with
  | @ref i ax hi ea =>
    dsimp only at hk₁
    obtain ⟨c, e1, hk₁⟩ := lookE_true hk₁
    cases c with
    | lst vs =>
      dsimp only at hk₁
      obtain ⟨_, hk₁⟩ := andB_true hk₁
      rw [updE_eq] at hk₁
      obtain ⟨xs, n, gx, hx, rx⟩ := R₁.lst e1
      rw [← ea] at hx
      have hlt : ax < h₁.objs.size := by rw [ea]; exact Heap.lt_size gx
      refine wpAny_pyIter_list hx ?_
      refine B vs _ P₁ _ _ t₁ _ { F with frz := frzPut F.frz i (listOf xs.toArray n) } hk₁ l₁ ?_
      have lx : vs.length = xs.toArray.size := by rw [rx.length]; simp
      refine ⟨⟨{ cls := .type "list_iterator", data := .fields #[.ref ax, .int 0 0] }, [h₁.objs.size, ax], fun i v => xs.toArray[i]? = some v, fun i h => h.IsListIter h₁.objs.size ax i ∧ h.IsList ax xs.toArray, ?_, ?_, ?_, ?_, ?_, ?_, ?_, ?_, ?_⟩, ?_, rfl⟩
      · rw [lx]; exact Walks.list O.fr.hd h₁.objs.size ax (Nat.ne_of_lt hlt) xs.toArray
      · rintro _ h ⟨⟨o, e, _⟩, _⟩
        exact ⟨o, e⟩
      · exact ⟨⟨_, Heap.get?_push_size _ rfl, rfl, rfl⟩, hx.push _⟩
      · intro j v hj hv
        obtain ⟨u, hu⟩ : ∃ u, vs[j]? = some u := ⟨_, List.getElem?_eq_getElem hj⟩
        obtain ⟨w', hw, r⟩ := rx.get hu
        have : xs.toArray[j]? = xs[j]? := by simp
        rw [this, hw] at hv
        cases hv
        exact ⟨u, hu, r⟩
      · intro ts kk pos j s' v Q st q
        exact letOwned_other st.1 q
      · exact (R₁.hide e1 (by intro c' q; cases q) gx).pushFix rfl
      · intro q hq
        exact Nat.ne_of_lt (Heap.lt_size (R₁.fx q hq).1)
      · intro b hb
        rcases List.mem_cons.mp hb with rfl | hb
        · exact ⟨_, Heap.get?_push_size _ rfl⟩
        · rw [List.mem_singleton.mp hb, ea]; exact ⟨_, Heap.get?_push_of_some _ gx⟩
      · intro m' X' P' hp' h' x l hk R
        have hk : lookE hp' i (fun c => match c with | .hid _ => x | _ => false) = true := hk
        obtain ⟨c, e, hk⟩ := lookE_true hk
        cases c with
        | hid =>
          refine ⟨hk, fun b hb hbI => ?_⟩
          rcases List.mem_cons.mp hb with rfl | hb
          · exact absurd rfl hbI
          · rw [List.mem_singleton.mp hb]
            obtain ⟨a, o, eo, r⟩ := R.own i _ e
            cases r with
            | hid hm _ =>
              rw [frzPut_one hm, l.2 i hi, ← ea] at eo
              rw [eo]
              rw [← ea] at gx
              exact (Heap.get?_push_of_some _ gx).symm
            | of h => cases h
        | _ => cases hk
      · intro m' X' P' hp' h' κ l hk R
        dsimp only [resE] at hk
        obtain ⟨c, e, hk⟩ := lookE_true hk
        cases c with
        | hid =>
          dsimp only at hk
          rw [updE_eq] at hk
          exact ⟨_, hk, Rel.unhide R e (.lst _ n (rx.mono l))⟩
        | _ => cases hk
    | _ => cases hk₁
  | _ => cases hk₁

noncomputable def tupSrc (f : Ev V) : Es := fun loc hp k => f loc hp fun a hp => match a with
  | .ref i => lookE hp i fun c => match c with
    | .tup vs => andB (shortL vs) (updE hp i (.hid (.tup vs)) fun hp => k vs (some (i, .tup vs)) hp)
    | _ => false
  | _ => false
def rngVs (a c : Int) (n : Nat) : List V := (List.range n).map fun (i : Nat) => V.int (a + (i : Int) * c)

theorem letOwned_gen {prog : Program} {w : World} {A : Around} {ts kk pos I} {s : Shared} {v : Value} {Q : Unit → Shared → Prop} {E : Value → Shared → Prop} {o : Obj} {T : String} (ho : s.heap.get? I = some o) (hc : o.cls = .type T)
    (hn : (["enumerate", "zip", "dict_itemiterator", "dict_reverseitemiterator", "odict_iterator", "itertools.zip_longest", "itertools.pairwise"].contains T) = false) (hQ : Q () s) : wpAny (model prog w) A (letOwnedTupleGo (.Tuple ts kk pos) (.ref I) v) Q E s := by
  cases v with
  | ref T' =>
    unfold letOwnedTupleGo
    refine wpAny_bind (wpAny_load ho ?_)
    rw [hc]
    cases hd : o.data with
    | fields vs =>
      show wpAny _ A (if (["enumerate", "zip", "dict_itemiterator", "dict_reverseitemiterator", "odict_iterator", "itertools.zip_longest", "itertools.pairwise"].contains T && vs[0]? == some (rawInt T')) = true then _ else _) Q E s
      rw [hn, Bool.false_and]
      exact wpAny_pure hQ
    | _ => exact wpAny_pure hQ
  | _ => exact wpAny_pure hQ

theorem snd_srcT {G sc e f} (h : SndE G sc e f) : SndI G sc e (tupSrc f) := fun F P hp loc s K k O R hk B => by
  refine h F P hp loc s _ _ O R hk fun a w P₁ hp₁ h₁ t₁ hk₁ l₁ R₁ r₁ => ?_
  cases r₁ with
  | @ref i ax hi ea =>
    dsimp only [tupSrc] at hk₁
    obtain ⟨c, e1, hk₁⟩ := lookE_true hk₁
    cases c with
    | tup vs =>
      dsimp only at hk₁
      obtain ⟨_, hk₁⟩ := andB_true hk₁
      rw [updE_eq] at hk₁
      obtain ⟨_, to, gx, hor⟩ := R₁.own i _ e1
      cases hor.out (by intro c' q; cases q) with
      | tup xs n hc hd rx =>
        have hx : h₁.IsTuple ax xs.toArray := ⟨to, by rw [ea]; exact gx, hc, n, hd⟩
        have hlt : ax < h₁.objs.size := by rw [ea]; exact Heap.lt_size gx
        refine wpAny_pyIter_tuple hx ?_
        refine B vs _ P₁ _ _ t₁ _ { F with frz := frzPut F.frz i to } hk₁ l₁ ?_
        have lx : vs.length = xs.toArray.size := by rw [rx.length]; simp
        refine ⟨⟨{ cls := .type "tuple_iterator", data := .fields #[.ref ax, .int 0 0] }, [h₁.objs.size, ax], fun i v => xs.toArray[i]? = some v, fun i h => h.IsTupleIter h₁.objs.size ax i ∧ h.IsTuple ax xs.toArray, ?_, ?_, ?_, ?_, ?_, ?_, ?_, ?_, ?_⟩, ?_, rfl⟩
        · rw [lx]; exact Walks.tuple O.fr.hd h₁.objs.size ax (Nat.ne_of_lt hlt) xs.toArray
        · rintro _ h ⟨⟨o, e, _⟩, _⟩
          exact ⟨o, e⟩
        · exact ⟨⟨_, Heap.get?_push_size _ rfl, rfl, rfl⟩, to, Heap.get?_push_of_some _ (by rw [ea]; exact gx), hc, n, hd⟩
        · intro j v hj hv
          obtain ⟨u, hu⟩ : ∃ u, vs[j]? = some u := ⟨_, List.getElem?_eq_getElem hj⟩
          obtain ⟨w', hw, r⟩ := rx.get hu
          have : xs.toArray[j]? = xs[j]? := by simp
          rw [this, hw] at hv
          cases hv
          exact ⟨u, hu, r⟩
        · intro ts kk pos j s' v Q st q
          obtain ⟨⟨o, ho, hoc, _⟩, _⟩ := st
          exact letOwned_gen ho hoc (by decide) q
        · exact (R₁.hide e1 (by intro c' q; cases q) gx).pushFix rfl
        · intro q hq
          exact Nat.ne_of_lt (Heap.lt_size (R₁.fx q hq).1)
        · intro b hb
          rcases List.mem_cons.mp hb with rfl | hb
          · exact ⟨_, Heap.get?_push_size _ rfl⟩
          · rw [List.mem_singleton.mp hb, ea]; exact ⟨_, Heap.get?_push_of_some _ gx⟩
        · intro m' X' P' hp' h' x l hk R
          have hk : lookE hp' i (fun c => match c with | .hid _ => x | _ => false) = true := hk
          obtain ⟨c, e, hk⟩ := lookE_true hk
          cases c with
          | hid =>
            refine ⟨hk, fun b hb hbI => ?_⟩
            rcases List.mem_cons.mp hb with rfl | hb
            · exact absurd rfl hbI
            · rw [List.mem_singleton.mp hb]
              obtain ⟨a, o, eo, r⟩ := R.own i _ e
              cases r with
              | hid hm _ =>
                rw [frzPut_one hm, l.2 i hi, ← ea] at eo
                rw [eo]
                rw [← ea] at gx
                exact (Heap.get?_push_of_some _ gx).symm
              | of h => cases h
          | _ => cases hk
        · intro m' X' P' hp' h' κ l hk R
          dsimp only [resE] at hk
          obtain ⟨c, e, hk⟩ := lookE_true hk
          cases c with
          | hid =>
            dsimp only at hk
            rw [updE_eq] at hk
            exact ⟨_, hk, Rel.unhide R e (.tup xs n hc hd (rx.mono l))⟩
          | _ => cases hk
    | _ => cases hk₁
  | _ => cases hk₁

noncomputable def rngSrc (fa : Ev (List V)) : Es := fun loc hp k => fa loc hp fun vs hp => rngE vs fun a c n => k (rngVs a c n) none hp
theorem snd_srcR {G sc x p e es cpos fa} (hn : NameV G sc x (.type "range")) (ha : SndL G sc (e :: es) fa)
    (he : ∀ env, starEach (e :: es) env = (false, eval e env) :: starEach es env) (hp' : ∀ env pos, (backTo pos (starEach es env)).any (·.1) = false) : SndI G sc (.Call (.Name x p) (e :: es) [] cpos) (rngSrc fa) := fun F P hp loc s K k O R hk B => by
  refine wpAny_Call_Name_kw (hn F P hp loc s _ p O R ?_)
  show wpAny _ _ (callWith cpos (.type "range") [] (backTo cpos (starEach (e :: es) F.env)) []) _ _ s
  refine PyProof.Rows.callWith_type1 (ha F P hp loc s _ _ cpos O R hk fun vs ws P₁ hp₁ h₁ t₁ hk₁ l₁ R₁ r₁ => ?_) (he _) (hp' _ _)
  refine call_rng (s := { s with heap := h₁, toks := t₁ }) R₁ hk₁ r₁ fun a b c n t u v h' tk hk₂ hle hsm hsz R₂ hr => ?_
  refine wpAny_pyIter_range hr hsm ?_
  refine B _ _ P₁ hp₁ _ tk _ F hk₂ l₁ ?_
  have len : (rngVs a c n).length = n := by simp [rngVs]
  have W : Walks G.prog G.w F.A h'.objs.size [h'.objs.size] [h'.objs.size] n (fun i v => i < n ∧ ∃ t, v = .int (a + i * c) t) (fun i h => IsRangeIter h h'.objs.size (a + (i : Nat) * c) ((n : Int) - (i : Nat)) c) := (Walks.range O.fr.hd h'.objs.size a c n).bound
  have st0 : IsRangeIter (h'.push { cls := .type "range_iterator", data := .fields #[.int a 0, .int (Builtin.Range.rangeSize a b c) 0, .int c 0] }) h'.objs.size (a + ((0 : Nat) : Int) * c) ((n : Int) - ((0 : Nat) : Int)) c := by
    show (Heap.push _ _).get? _ = some { cls := .type "range_iterator", data := .fields #[.int (a + ((0 : Nat) : Int) * c) 0, .int ((n : Int) - ((0 : Nat) : Int)) 0, .int c 0] }
    rw [hsz]
    simpa using Heap.get?_push_size _ rfl
  refine ⟨⟨_, [h'.objs.size], fun i v => i < n ∧ ∃ t, v = .int (a + i * c) t, fun i h => IsRangeIter h h'.objs.size (a + (i : Nat) * c) ((n : Int) - (i : Nat)) c, by rw [len]; exact W, fun i h st => ⟨_, st⟩, st0, ?_, ?_, R₂.pushFix rfl, ?_, ?_, ?_⟩, ?_, rfl⟩
  · rintro i v hi ⟨hi', t, rfl⟩
    exact ⟨_, by simp [rngVs, hi'], .int _ t⟩
  · intro ts kk pos j s' v Q st q
    have st : s'.heap.get? _ = some _ := st
    exact letOwned_gen st rfl (by decide) q
  · intro q hq
    exact Nat.ne_of_lt (Heap.lt_size (R₂.fx q hq).1)
  · intro b hb
    rw [List.mem_singleton.mp hb]
    exact ⟨_, Heap.get?_push_size _ rfl⟩
  · intro m' X' P' hp' h₂ x l hk R
    exact ⟨hk, fun b hb hbI => absurd (List.mem_singleton.mp hb) hbI⟩
  · intro m' X' P' hp' h₂ κ l hk R
    exact ⟨hp', hk, R⟩

/-! ## the loop -/
abbrev Ce := List V → Hp → List V → (List V → Hp → List V → Bool) → Bool
noncomputable def loopC (kc : Option Nat) (g : V → Ce) (us : List V) : Ce :=
  List.rec (motive := fun _ => Ce) (fun loc hp xs k => k loc hp xs) (fun u _ ih loc hp xs k => g u loc hp xs fun loc hp xs => chkE kc hp (ih loc hp xs k)) us

/-- a turn's tail, after the item is drawn -/
def StepC (G : Gl) (sc' : Sc) (scope : Scope) (c : Addr → Addr → Env → Code) (tail : Addr → Addr → Env → Value → Sem Fin) (g : V → Ce) : Prop :=
  ∀ (F : Fm) (cl : List (Str × Addr)) (C D I : Addr) (its : List (Addr × Obj)) (P : Ad) (hp : Hp) (loc xs : List V) (s : Shared) (Q : Fin → Shared → Prop) (k : List V → Hp → List V → Bool) (v : V) (w : Value),
    CX G sc' F scope cl P → Sep C D (its ++ F.fix) → CSt F sc'.vars C D its P hp loc xs s.heap → g v loc hp xs k = true → VR P v w →
    (∀ ts kk pos s' Q, s'.heap = s.heap → Q () s' → wpAny (model G.prog G.w) F.A (letOwnedTupleGo (.Tuple ts kk pos) (.ref I) w) Q Ra s') →
    (∀ P' hp' loc' xs' h' tk, k loc' hp' xs' = true → P.le P' → CSt F sc'.vars C D its P' hp' loc' xs' h' → Q (.again (c I D (compEnvC scope cl C F.env))) { s with heap := h', toks := tk }) →
    wpAny (model G.prog G.w) F.A (tail I D (compEnvC scope cl C F.env) w) Q Ra s

theorem comp_loop {G sc' scope g} {e : Expr} {d : Nat} {elt gens scp pos} (he : e = .ListComp elt gens scp pos) {ip : Pos} {tail : Addr → Addr → Env → Value → Sem Fin}
    (hturn : ∀ I D cenv, compTurn e d (.ref I) (.ref D) cenv = (do standAt ip; match ← pyNext (.ref I) with | none => pure (.done .next) | some v => tail I D cenv v))
    (hstep : StepC G sc' scope (fun I D cenv => .compLoop e d (.ref I) (.ref D) cenv) tail g)
    {F F' : Fm} {cl C D I} {P₀ : Ad} {its : List (Addr × Obj)} {hp : Hp} {loc : List V} {xs us : List V} {kc : Option (Nat × Mine.C)} {s : Shared} {R : Result → Shared → Prop} {k : List V → Hp → List V → Bool}
    {oI : Obj} {fp : List Addr} {Pv : Nat → Value → Prop} {St : Nat → Heap → Prop} {hS : Heap}
    (W : Walks G.prog G.w F.A I fp [I] us.length Pv St) (hIo : ∀ i h, St i h → ∃ o, h.get? I = some o) (hst : St 0 s.heap) (hP : ∀ i v, i < us.length → Pv i v → ∃ u, us[i]? = some u ∧ VR P₀ u v)
    (hlet : ∀ ts kk pos i (s : Shared) v Q, St i s.heap → Q () s → wpAny (model G.prog G.w) F.A (letOwnedTupleGo (.Tuple ts kk pos) (.ref I) v) Q Ra s)
    (hkeep : ∀ m' X' P' hp' h' x, P₀.le P' → chkE (kc.map (·.1)) hp' x = true → Rel F.h₀ F.L m' X' F'.frz P' hp' h' → x = true ∧ ∀ b ∈ fp, b ≠ I → h'.get? b = hS.get? b)
    (hS0 : ∀ b ∈ fp, b ≠ I → s.heap.get? b = hS.get? b) (hS1 : ∀ b ∈ fp, b ≠ I → ∃ o, hS.get? b = some o)
    (hF : F' = { F with frz := F'.frz }) (X : CX G sc' F scope cl P₀) (sp : Sep C D (its ++ F.fix)) (hI : I ≠ C ∧ I ≠ D ∧ ∀ q ∈ its ++ F.fix, q.1 ≠ I)
    (S : CSt F' sc'.vars C D ((I, oI) :: its) P₀ hp loc xs s.heap) (hk : loopC (kc.map (·.1)) g us loc hp xs k = true)
    (fin : ∀ P hp loc xs h tk, P₀.le P → k loc hp xs = true → CSt F' sc'.vars C D its P hp loc xs h → R (.ok .next) { s with heap := h, toks := tk }) :
    codeAny (model G.prog G.w) F.A (.compLoop e d (.ref I) (.ref D) (compEnvC scope cl C F.env)) R s := by
  subst he
  have hfix : F'.fix = F.fix := by rw [hF]
  have hL : F'.L = F.L := by rw [hF]
  have hh : F'.h₀ = F.h₀ := by rw [hF]
  have hm : F'.m = F.m := by rw [hF]
  have hA : F'.A = F.A := by rw [hF]
  have hE : F'.env = F.env := by rw [hF]
  have X' : CX G sc' F' scope cl P₀ := ⟨by rw [hA, hh, hL]; exact X.fr, by rw [hE]; exact X.scp, by rw [hE]; exact X.gl, by rw [hE]; exact X.bi, X.kind, X.cel⟩
  have sp' : Sep C D (((I, oI) :: its) ++ F'.fix) := by
    rw [hfix]
    exact ⟨sp.1, fun q hq => (List.mem_cons.mp hq).elim (fun e => by rw [e]; exact ⟨hI.1, hI.2.1⟩) (sp.2 q)⟩
  let Inv : Nat → Shared → Prop := fun j s' => ∃ P hp loc xs oI h' tk, ∃ i : Nat, s' = { s with heap := h', toks := tk } ∧ i ≤ us.length ∧ j = us.length + 1 - i ∧ St i h' ∧ P₀.le P ∧ CSt F' sc'.vars C D ((I, oI) :: its) P hp loc xs h' ∧
    (∀ b ∈ fp, b ≠ I → h'.get? b = hS.get? b) ∧ loopC (kc.map (·.1)) g (us.drop i) loc hp xs k = true
  refine codeAny_loop rfl Inv (fun j s' hI' => ?_) (us.length + 1) ⟨P₀, hp, loc, xs, oI, s.heap, s.toks, 0, rfl, Nat.zero_le _, rfl, hst, .refl _, S, hS0, hk⟩
  obtain ⟨P, hp, loc, xs, oI, h', tk, i, rfl, hi, rfl, st, l, S, hS', hk⟩ := hI'
  show wpAny _ F.A ((compTurn (.ListComp elt gens scp pos) d (.ref I) (.ref D) (compEnvC scope cl C F.env)).onRaise (fun x => do noteFrame x (compEnvC scope cl C F.env); theTreesLotGoes x)) _ _ _
  refine wpAny_noted ?_
  rw [hturn]
  refine wpAny_bind (wpAny_standAt (wpAny_bind ?_))
  obtain ⟨oC, mC, ws, R₀, hn, hl, hx⟩ := S
  rw [hfix, hL, hh, hm] at R₀
  have Rp : Rel F.h₀ F.L F.m ((I, oI) :: (C, oC) :: (D, LCg.lst ws) :: (its ++ F.fix)) F'.frz P hp h' := R₀.sub fun q hq => by
    simp only [List.mem_cons, List.cons_append] at hq ⊢
    rcases hq with rfl | rfl | rfl | hq
    · exact .inr (.inr (.inl rfl))
    · exact .inl rfl
    · exact .inr (.inl rfl)
    · exact .inr (.inr (.inr hq))
  have off : ∀ q ∈ (C, oC) :: (D, LCg.lst ws) :: (its ++ F.fix), q.1 ≠ I := fun q hq => by
    rcases List.mem_cons.mp hq with rfl | hq
    · exact Ne.symm hI.1
    · rcases List.mem_cons.mp hq with rfl | hq
      · exact Ne.symm hI.2.1
      · exact hI.2.2 q hq
  by_cases hlt : i < us.length
  · refine W.item i _ _ _ hlt st fun v h₂ tk₂ hPv st₂ hk₂ => ?_
    have hk₂' : ∀ b o, b ≠ I → h'.get? b = some o → h₂.get? b = some o := fun b o hb e => hk₂ b o (by simpa using hb) e
    obtain ⟨oI₂, hoI₂⟩ := hIo _ _ st₂
    have R₂ := Rp.refix hk₂' hoI₂ off
    have S₂ : CSt F' sc'.vars C D ((I, oI₂) :: its) P hp loc xs h₂ := by
      refine ⟨oC, mC, ws, ?_, hn, hl, hx⟩
      rw [hfix, hL, hh, hm]
      refine R₂.sub fun q hq => ?_
      simp only [List.mem_cons, List.cons_append] at hq ⊢
      rcases hq with rfl | rfl | rfl | hq
      · exact .inr (.inl rfl)
      · exact .inr (.inr (.inl rfl))
      · exact .inl rfl
      · exact .inr (.inr (.inr hq))
    obtain ⟨u, hu, ru⟩ := hP i v hlt hPv
    have hd : us.drop i = u :: us.drop (i + 1) := by
      rw [List.drop_eq_getElem_cons hlt]
      congr 1
      rw [List.getElem?_eq_getElem hlt] at hu
      exact Option.some.inj hu
    rw [hd] at hk
    have sp₂ : Sep C D (((I, oI₂) :: its) ++ F'.fix) := by
      rw [hfix]
      exact ⟨sp.1, fun q hq => (List.mem_cons.mp hq).elim (fun e => by rw [e]; exact ⟨hI.1, hI.2.1⟩) (sp.2 q)⟩
    have z := hstep F' cl C D I ((I, oI₂) :: its) P hp loc xs { s with heap := h₂, toks := tk₂ } (fun fin s' => match fin with | .done f => R (.ok f) s' | .again c' => c' = .compLoop (.ListComp elt gens scp pos) d (.ref I) (.ref D) (compEnvC scope cl C F.env) ∧ ∃ m, m < us.length + 1 - i ∧ Inv m s')
      _ u v (X'.mono l) sp₂ S₂ hk (ru.mono l) (fun ts kk pos s' Q e q => by rw [hA]; exact hlet ts kk pos (i + 1) s' v Q (by rw [e]; exact st₂) q) fun P₃ hp₃ loc₃ xs₃ h₃ tk₃ hk₃ l₃ S₃ => ?_
    · rw [hA, hE] at z
      exact wpAny_mono z (fun _ _ q => q) fun _ _ q => q.elim
    · rw [hE]
      have ⟨oC₃, mC₃, ws₃, R₃, hn₃, hl₃, hx₃⟩ := S₃
      rw [hfix, hL, hh, hm] at R₃
      obtain ⟨hk₄, hkp⟩ := hkeep _ _ P₃ hp₃ h₃ _ (l.trans l₃) hk₃ R₃
      refine ⟨rfl, us.length + 1 - (i + 1), by omega, P₃, hp₃, loc₃, xs₃, oI₂, h₃, tk₃, i + 1, rfl, hlt, rfl, ?_, l.trans l₃, S₃, hkp, hk₄⟩
      refine W.frame _ _ _ st₂ fun b hb o eo => ?_
      by_cases hbI : b = I
      · subst hbI
        rw [hoI₂] at eo
        cases eo
        exact (R₃.fx (b, oI₂) (by simp)).1
      · obtain ⟨o', ho'⟩ := hS1 b hb hbI
        have e1 : h₂.get? b = some o' := hk₂' b o' hbI ((hS' b hb hbI).trans ho')
        rw [e1] at eo
        cases eo
        exact (hkp b hb hbI).trans ho'
  · obtain rfl : i = us.length := Nat.le_antisymm hi (Nat.not_lt.mp hlt)
    refine W.done _ _ _ st fun h₂ tk₂ hk₂ => wpAny_pure ?_
    rw [List.drop_length] at hk
    refine fin P hp loc xs h₂ tk₂ l hk ⟨oC, mC, ws, ?_, hn, hl, hx⟩
    rw [hfix, hL, hh, hm]
    exact Rp.defix (fun b o hb e => hk₂ b o (by simpa using hb) e) off

noncomputable def snocE {α : Type} (l : List α) (v : α) : (List α → Bool) → Bool :=
  List.rec (motive := fun _ => (List α → Bool) → Bool) (fun κ => κ [v]) (fun x _ ih κ => ih fun r' => κ (x :: r')) l
theorem snocE_eq {α : Type} {v : α} : ∀ {l : List α} {κ : List α → Bool}, snocE l v κ = κ (l ++ [v])
  | [], _ => rfl
  | x :: r, κ => snocE_eq (l := r) (κ := fun r' => κ (x :: r'))

noncomputable def cstepE (g : Av V) (t : Ev Bool) (f : Ev V) : V → Ce := fun v loc hp xs k => g v loc hp fun loc hp => t loc hp fun b hp => iteB b (f loc hp fun v hp => andB (shortL xs) (snocE xs v fun xs => k loc hp xs)) (k loc hp xs)
def tail1 (c : Addr → Addr → Env → Code) (target : Expr) (ifs : List Expr) (elt : Expr) (I D : Addr) (cenv : Env) (v : Value) : Sem Fin := do
  letOwnedTupleGo target (.ref I) v
  assign target cenv v
  let mut ok := true
  for c in ifs do
    if ok then ok ← isTrue c cenv (eval c cenv)
  if ok then
    (do let _ ← call (.builtin "list.append") [.ref D, ← eval elt cenv])
  again (c I D cenv)
def Tgt (target : Expr) : Prop := (∀ I v, letOwnedTupleGo target (.ref I) v = pure ()) ∨ ∃ ts kk pos, target = .Tuple ts kk pos
theorem tgt_name {x pos} : Tgt (.Name x pos) := .inl fun _ _ => rfl
theorem tgt_tuple {ts kk pos} : Tgt (.Tuple ts kk pos) := .inr ⟨_, _, _, rfl⟩
theorem let_tgt {prog : Program} {w : World} {A : Around} {target : Expr} {I : Addr} {v : Value} {s : Shared} {Q : Unit → Shared → Prop} (hT : Tgt target)
    (hl : ∀ ts kk pos s' Q, s'.heap = s.heap → Q () s' → wpAny (model prog w) A (letOwnedTupleGo (.Tuple ts kk pos) (.ref I) v) Q Ra s') (h : Q () s) : wpAny (model prog w) A (letOwnedTupleGo target (.ref I) v) Q Ra s := by
  rcases hT with e | ⟨ts, kk, pos, rfl⟩
  · rw [e]; exact wpAny_pure h
  · exact hl ts kk pos s Q rfl h
theorem step_one {G sc' scope c target ifs elt g t f} (hT : Tgt target) (hg : SndCA G sc' scope target g) (ht : SndIfs G sc' ifs t) (he : SndE G sc' elt f) : StepC G sc' scope c (tail1 c target ifs elt) (cstepE g t f) := fun F cl C D I its P hp loc xs s Q k v w X sp S hk r hl B => by
  unfold tail1
  refine wpAny_bind (let_tgt hT hl (wpAny_bind ?_))
  refine hg F cl C D its P hp loc xs s _ _ v w X sp S hk r fun loc₁ hp₁ h₁ tk₁ hk₁ S₁ => wpAny_bind ?_
  refine ht F scope cl C D its P hp₁ loc₁ xs _ _ _ X S₁ hk₁ fun b P₂ hp₂ h₂ tk₂ hk₂ l₂ S₂ => ?_
  cases b with
  | false => exact wpAny_pure (B P₂ hp₂ loc₁ xs h₂ tk₂ hk₂ l₂ S₂)
  | true =>
    refine wpAny_bind (wpAny_bind (cst_eval he (X.mono l₂) S₂ hk₂ fun y wy P₃ hp₃ h₃ tk₃ hk₃ l₃ S₃ r₃ => wpAny_bind ?_))
    obtain ⟨hs, hk₃⟩ := andB_true hk₃
    rw [snocE_eq] at hk₃
    exact cst_append (s := { s with heap := h₃, toks := tk₃ }) sp S₃ r₃ hs fun h₄ tk₄ S₄ => wpAny_pure (wpAny_pure (B P₃ hp₃ loc₁ _ h₄ tk₄ hk₃ (l₂.trans l₃) S₄))

/-! ## entering -/
theorem comp_enter {G sc sc' scope cl g} {elt target iter ifs rest pos} {tail : Addr → Addr → Env → Value → Sem Fin}
    (hturn : ∀ I D cenv, compTurn (.ListComp elt (⟨target, iter, ifs, 0⟩ :: rest) scope pos) 0 (.ref I) (.ref D) cenv = (do standAt iter.pos; match ← pyNext (.ref I) with | none => pure (.done .next) | some v => tail I D cenv v))
    (hstep : StepC G sc' scope (fun I D cenv => .compLoop (.ListComp elt (⟨target, iter, ifs, 0⟩ :: rest) scope pos) 0 (.ref I) (.ref D) cenv) tail g)
    {F F' : Fm} {P : Ad} {hp : Hp} {us : List V} {kc : Option (Nat × Mine.C)} {I : Addr} {s : Shared} {r : Nat} {RR : Value → Addr → Result → Shared → Prop} {kk : Hp → List V → Bool}
    (K : CompSc sc sc' scope) (X : CX G sc' F scope cl P) (S : SrcOK G F F' P hp I us kc s.heap)
    (hk : loopC (kc.map (·.1)) g us (List.replicate r .undef) hp [] (fun _ hp xs => resE kc hp fun hp => kk hp xs) = true)
    (fin : ∀ C D P' hp' loc' xs h tk, P.le P' → kk hp' xs = true → Sep C D F.fix → CSt F sc'.vars C D [] P' hp' loc' xs h → RR (.ref D) C (.ok .next) { s with heap := h, toks := tk }) :
    wpAny (model G.prog G.w) F.A (newList []) (fun acc s₃ => wpAny (model G.prog G.w) F.A (newFunctionEnv scope F.env.globals cl [] F.env.qual none .none (some F.env)) (fun cenv s₄ =>
      codeAny (model G.prog G.w) F.A (.compStart (.ListComp elt (⟨target, iter, ifs, 0⟩ :: rest) scope pos) 0 (.ref I) acc { cenv with scope := relabel scope F.env }) (RR acc cenv.locals) s₄) Ra s₃) Ra s := by
  obtain ⟨⟨oI, fp, Pv, St, W, hIo, hst, hP, hlet, R, hIf, hfp, hkeep⟩, hres, hF⟩ := S
  refine wpAny_newObj_type (wpAny_newFunctionEnv K.cell (by intro y hy; simp at hy) (fun h₁ hns₁ hsb₁ => ?_) K.kind)
  dsimp only at hns₁ hsb₁ ⊢
  generalize hH2 : s.heap.push { cls := .type "list", dict := none, data := .seq ([] : List Value).toArray } = H2 at hns₁ hsb₁ ⊢
  have hC : H2.objs.size = s.heap.objs.size + 1 := by rw [← hH2, Heap.size_push]
  have hDC : s.heap.objs.size ≠ H2.objs.size := by rw [hC]; exact Nat.ne_of_lt (Nat.lt_succ_self _)
  have below : ∀ b, b < s.heap.objs.size → b ≠ H2.objs.size ∧ b ≠ s.heap.objs.size := fun b hb => ⟨by rw [hC]; exact Nat.ne_of_lt (Nat.lt_succ_of_lt hb), Nat.ne_of_lt hb⟩
  have old : ∀ b o, s.heap.get? b = some o → h₁.get? b = some o := fun b o e => hsb₁.extBut b o (below b (Heap.lt_size e)).1 (Heap.get?_push_of_some _ (hH2 ▸ Heap.get?_push_of_some _ e))
  have R₁ : Rel F.h₀ F.L F.m ((s.heap.objs.size, LCg.lst []) :: ((I, oI) :: F.fix)) F'.frz P hp H2 := by
    rw [← hH2]; exact R.pushFix rfl
  have R₂ := R₁.pushFix (o := { cls := .type "dict", data := .dict #[] }) rfl
  have off : ∀ q ∈ (s.heap.objs.size, LCg.lst []) :: ((I, oI) :: F.fix), q.1 ≠ H2.objs.size := fun q hq => Nat.ne_of_lt (Heap.lt_size (R₁.fx q hq).1)
  obtain ⟨oC, hoC, hnC⟩ := LCg.ns_obj hns₁
  have R₃ : Rel F.h₀ F.L F.m ((H2.objs.size, oC) :: (s.heap.objs.size, LCg.lst []) :: ((I, oI) :: F.fix)) F'.frz P hp h₁ := R₂.refix (fun b o hb e => hsb₁.extBut b o hb e) hoC off
  have hfix : F'.fix = F.fix := by rw [hF]
  have hL : F'.L = F.L := by rw [hF]
  have hh : F'.h₀ = F.h₀ := by rw [hF]
  have hm : F'.m = F.m := by rw [hF]
  have hIlt : I < s.heap.objs.size := Heap.lt_size (R.fx (I, oI) (List.mem_cons_self ..)).1
  have S₁ : CSt F' sc'.vars H2.objs.size s.heap.objs.size ((I, oI) :: []) P hp (List.replicate r .undef) [] h₁ := by
    refine ⟨oC, _, [], ?_, hnC, fun i x v _ hv hn => absurd (List.eq_of_mem_replicate (List.mem_of_getElem? hv)) hn, .nil⟩
    rw [hfix, hL, hh, hm]
    exact R₃
  have sp : Sep H2.objs.size s.heap.objs.size ([] ++ F.fix) := ⟨Ne.symm hDC, fun q hq => ⟨off q (List.mem_cons_of_mem _ (List.mem_cons_of_mem _ hq)), Nat.ne_of_lt (Heap.lt_size (R.fx q (List.mem_cons_of_mem _ hq)).1)⟩⟩
  have hst₁ : St 0 h₁ := W.frame _ _ _ hst fun b _ o e => old b o e
  have loop : ∀ s₃ : Shared, s₃ = { s with heap := h₁, toks := s.toks + ([] : List (Str × Value)).length } →
      codeAny (model G.prog G.w) F.A (.compLoop (.ListComp elt (⟨target, iter, ifs, 0⟩ :: rest) scope pos) 0 (.ref I) (.ref s.heap.objs.size) (compEnvC scope cl H2.objs.size F.env)) (RR (.ref s.heap.objs.size) H2.objs.size) s₃ := by
    rintro s₃ rfl
    have keep' : ∀ b ∈ fp, b ≠ I → h₁.get? b = s.heap.get? b ∧ ∃ o, s.heap.get? b = some o := fun b hb hbI => by
      obtain ⟨o, e⟩ := hfp b hb
      exact ⟨(old b o e).trans e.symm, o, e⟩
    exact comp_loop rfl hturn hstep (F := F) (F' := F') (its := []) (hS := s.heap) W hIo hst₁ hP hlet hkeep (fun b hb hbI => (keep' b hb hbI).1) (fun b hb hbI => (keep' b hb hbI).2) hF X sp
      ⟨(below I hIlt).1, (below I hIlt).2, hIf⟩ S₁ hk fun P' hp' loc' xs h tk l hk' S' => by
        have ⟨oC', mC', ws', R', hn', hl', hx'⟩ := S'
        rw [hfix, hL, hh, hm] at R'
        obtain ⟨hp'', hk'', R''⟩ := hres _ _ P' hp' h _ l hk' R'
        exact fin _ _ P' hp'' loc' xs h tk l hk'' sp ⟨oC', mC', ws', R'', hn', hl', hx'⟩
  exact codeAny_compStart_list (loop _ rfl) (W.self 0 _ _ _ hst₁ (loop _ rfl))

noncomputable def compE (fI : Es) (r : Nat) (g : V → Ce) : Ev V := fun loc hp k => fI loc hp fun us kc hp => loopC (kc.map (·.1)) g us (List.replicate r .undef) hp [] fun _ hp xs => resE kc hp fun hp => newE hp (.lst xs) fun n hp => k (.ref n) hp
theorem snd_comp {G sc sc' scope g fI r} {elt target iter ifs rest pos} {tail : Addr → Addr → Env → Value → Sem Fin}
    (hturn : ∀ I D cenv, compTurn (.ListComp elt (⟨target, iter, ifs, 0⟩ :: rest) scope pos) 0 (.ref I) (.ref D) cenv = (do standAt iter.pos; match ← pyNext (.ref I) with | none => pure (.done .next) | some v => tail I D cenv v))
    (K : CompSc sc sc' scope) (hI : SndI G sc iter fI) (hs : ∀ env x, foldedSetIterable iter env x = pure x)
    (hstep : StepC G sc' scope (fun I D cenv => .compLoop (.ListComp elt (⟨target, iter, ifs, 0⟩ :: rest) scope pos) 0 (.ref I) (.ref D) cenv) tail g) :
    SndE G sc (.ListComp elt (⟨target, iter, ifs, 0⟩ :: rest) scope pos) (compE fI r g) := fun F P hp loc s Q k O R hk B => by
  obtain ⟨cl, hcl, X⟩ := K.clos O
  rw [eval_ListComp]
  refine wpAny_comprehension_free (use := none) rfl (hs _) hcl K.kind K.names (hI F P hp loc s _ _ O R hk fun us kc P₁ hp₁ h₁ t₁ I F' hk₁ l₁ S => ?_)
  refine comp_enter (RR := fun acc C => compPost (model G.prog G.w) F.A Ra none Q acc C) hturn hstep K (X.mono l₁) (s := { s with heap := h₁, toks := t₁ }) S hk₁ fun C D P₂ hp₂ loc₂ xs h₂ t₂ l₂ hk₂ sp S₂ => ?_
  obtain ⟨oC, mC, ws, R₂, hn, hl, hx⟩ := S₂
  rw [newE_eq] at hk₂
  refine ⟨mC, hn.ns (R₂.fx _ (List.mem_cons_self ..)).1, fun h₃ hs₃ => ?_⟩
  have R₃ := R₂.defix (h' := h₃) (fun b o hb e => hs₃.extBut b o hb e) fun q hq => by
    rcases List.mem_cons.mp hq with rfl | hq
    · exact Ne.symm sp.1
    · exact (sp.2 q hq).1
  have R₄ := R₃.addKey (c := .lst xs) (.lst ws _ hx) fun q hq => (sp.2 q hq).2
  rw [R₃.nx] at hk₂
  exact B _ _ (P₂.ext D) _ h₃ t₂ hk₂ ((l₁.trans l₂).trans (P₂.le_ext D)) R₄ (.ref (Nat.lt_succ_self _) (P₂.ext_at D).symm)

theorem snd_assign_comp {G sc sc' scope g fI r y py gst} {elt target iter ifs rest pos spos} {tail : Addr → Addr → Env → Value → Sem Fin}
    (hturn : ∀ I D cenv, compTurn (.ListComp elt (⟨target, iter, ifs, 0⟩ :: rest) scope pos) 0 (.ref I) (.ref D) cenv = (do standAt iter.pos; match ← pyNext (.ref I) with | none => pure (.done .next) | some v => tail I D cenv v))
    (K : CompSc sc sc' scope) (hI : SndI G sc iter fI) (hs : ∀ env x, foldedSetIterable iter env x = pure x)
    (hstep : StepC G sc' scope (fun I D cenv => .compLoop (.ListComp elt (⟨target, iter, ifs, 0⟩ :: rest) scope pos) 0 (.ref I) (.ref D) cenv) tail g)
    (hst : SndSt G sc y gst) (hsw : ∀ env, env.scope = sc.scope → swapsWith (.ListComp elt (⟨target, iter, ifs, 0⟩ :: rest) scope pos) (some (.Name y py)) spos.line env = pure true) :
    SndS G sc (.Assign [.Name y py] (.ListComp elt (⟨target, iter, ifs, 0⟩ :: rest) scope pos) spos) (asgS (compE fI r g) gst) := fun F P hp loc s Q kn kr O M R hk N T => by
  obtain ⟨cl, hcl, X⟩ := K.clos O
  rw [exec_Assign_Name_used _ _ _ _ (hsw _ O.scp)]
  refine wpAny_bind (wpAny_standAt (wpAny_bind ?_))
  show wpAny _ F.A (do let _ ← comprehension (.ListComp elt (⟨target, iter, ifs, 0⟩ :: rest) scope pos) scope F.env _ (newList []) false (eval iter F.env) (some (assign (.Name y py) F.env))) _ _ s
  refine wpAny_bind (wpAny_mono (wpAny_comprehension_free (use := some (assign (.Name y py) F.env)) (Q := fun _ s' => Q .next s') rfl (hs _) hcl K.kind K.names
    (hI F P hp loc s _ _ O R hk fun us kc P₁ hp₁ h₁ t₁ I F' hk₁ l₁ S => ?_)) (fun _ s' hq => wpAny_pure (wpAny_pure hq)) fun _ _ e => e)
  refine comp_enter (RR := fun acc C => compPost (model G.prog G.w) F.A Ra (some (assign (.Name y py) F.env)) (fun _ s' => Q .next s') acc C) hturn hstep K (X.mono l₁) (s := { s with heap := h₁, toks := t₁ }) S hk₁ fun C D P₂ hp₂ loc₂ xs h₂ t₂ l₂ hk₂ sp S₂ => ?_
  obtain ⟨oC, mC, ws, R₂, hn, hl, hx⟩ := S₂
  rw [newE_eq] at hk₂
  have R₃ : Rel F.h₀ F.L F.m ((D, LCg.lst ws) :: (C, oC) :: F.fix) F.frz P₂ hp₂ h₂ := R₂.sub fun q hq => by
    simp only [List.mem_cons, List.nil_append] at hq ⊢
    rcases hq with rfl | rfl | hq
    · exact .inr (.inl rfl)
    · exact .inl rfl
    · exact .inr (.inr hq)
  have R₄ := R₃.addKey (c := .lst xs) (.lst ws _ hx) fun q hq => by
    rcases List.mem_cons.mp hq with rfl | hq
    · exact sp.1
    · exact (sp.2 q hq).2
  rw [R₃.nx] at hk₂
  let F₁ : Fm := { F with fix := (C, oC) :: F.fix }
  have le := (l₁.trans l₂).trans (P₂.le_ext D)
  have O₁ : OK G sc F₁ (P₂.ext D) loc := ⟨O.fr, O.scp, O.gl, O.bi, O.kind, .inl ⟨M.l, M.c⟩, O.loc.mono le, O.cel.mono le⟩
  show wpAny _ F.A (assign (.Name y py) F.env (.ref D)) _ _ _
  refine assign_Name (hst F₁ (P₂.ext D) _ loc { s with heap := h₂, toks := t₂ } _ _ _ _ O₁ ⟨M.l, M.c⟩ R₄ hk₂ (.ref (Nat.lt_succ_self _) (P₂.ext_at D).symm) fun loc₃ m₃ P₃ hp₃ h₃ t₃ hk₃ l₃ R₅ L₃ => ?_)
  refine ⟨mC, hn.ns (R₅.fx (C, oC) (List.mem_cons_self ..)).1, fun h₄ hs₄ => ?_⟩
  exact N loc₃ m₃ P₃ hp₃ h₄ t₃ hk₃ (le.trans l₃) (Rel.defix R₅ (fun b o hb e => hs₄.extBut b o hb e) fun q hq => (sp.2 q hq).1) L₃

/-! ## two clauses -/
section
variable {prog : Program} {w : World} {A : Around} {R : Result → Shared → Prop} {s : Shared}
theorem compStart_two {elt g0 target iter ifs scope pos it acc env}
    (h0 : codeAny (model prog w) A (.compLoop (.ListComp elt [g0, ⟨target, iter, ifs, 0⟩] scope pos) 1 it acc env) R s)
    (h : wpAny (model prog w) A (pyIter it) (fun it' s' => codeAny (model prog w) A (.compLoop (.ListComp elt [g0, ⟨target, iter, ifs, 0⟩] scope pos) 1 it' acc env) R s')
      (notedBy (model prog w) A env fun x s' => R (.error x) s') s) :
    codeAny (model prog w) A (.compStart (.ListComp elt [g0, ⟨target, iter, ifs, 0⟩] scope pos) 1 it acc env) R s := by
  refine codeAny_of_tree ?_
  show wpAny _ _ ((compStart (.ListComp elt [g0, ⟨target, iter, ifs, 0⟩] scope pos) 1 it acc env).onRaise (fun x => do noteFrame x env; standAt theWindowsPlace)) _ _ s
  refine wpAny_notedAt ?_
  unfold compStart
  show wpAny _ _ (ask >>= _) _ _ s
  refine wpAny_bind (wpAny_askSetting (wpAny_ite ?_))
  split
  · first
      | exact wpAny_bind (wpAny_pure (wpAny_pure (And.intro rfl h0)))
      | exact wpAny_pure (And.intro rfl h0)
  · first
      | exact wpAny_bind (wpAny_rule (wpAny_bind (wpAny_standAt (wpAny_bind (wpAny_mono h (fun it' s' h' => wpAny_pure (And.intro rfl h')) fun _ _ x => x)))))
      | (refine wpAny_bind (wpAny_rule ?_); show wpAny _ _ (standAt iter.pos >>= _) _ _ s; exact wpAny_bind (wpAny_standAt (wpAny_bind (wpAny_mono h (fun it' s' h' => wpAny_pure (And.intro rfl h')) fun _ _ x => x))))
end
noncomputable def ctwoE (g : Av V) (fI : Es) (g1 : V → Ce) : V → Ce := fun v loc hp xs k => g v loc hp fun loc hp => fI loc hp fun us kc hp => loopC (kc.map (·.1)) g1 us loc hp xs fun loc hp xs => resE kc hp fun hp => k loc hp xs
def tail2 (e : Expr) (target : Expr) (iter : Expr) (I D : Addr) (cenv : Env) (v : Value) : Sem Fin := do
  letOwnedTupleGo target (.ref I) v
  assign target cenv v
  let x ← eval iter cenv
  standAt iter.pos
  let x ← foldedSetIterable iter cenv x
  let _ ← runOwn (.compStart e 1 (← holding [x] (pyIter x)) (.ref D) cenv) cenv
  again (.compLoop e 0 (.ref I) (.ref D) cenv)

theorem step_two {G sc' scope scope' pos elt g0 target target1 iter1 g fI g1} {tail : Addr → Addr → Env → Value → Sem Fin} (hT : Tgt target) (hg : SndCA G sc' scope target g) (hI : SndI G sc' iter1 fI) (hs : ∀ env x, foldedSetIterable iter1 env x = pure x)
    (hturn : ∀ I D cenv, compTurn (.ListComp elt [g0, ⟨target1, iter1, [], 0⟩] scope' pos) 1 (.ref I) (.ref D) cenv = (do standAt iter1.pos; match ← pyNext (.ref I) with | none => pure (.done .next) | some v => tail I D cenv v))
    (hstep : StepC G sc' scope (fun I D cenv => .compLoop (.ListComp elt [g0, ⟨target1, iter1, [], 0⟩] scope' pos) 1 (.ref I) (.ref D) cenv) tail g1) :
    StepC G sc' scope (fun I D cenv => .compLoop (.ListComp elt [g0, ⟨target1, iter1, [], 0⟩] scope' pos) 0 (.ref I) (.ref D) cenv) (tail2 (.ListComp elt [g0, ⟨target1, iter1, [], 0⟩] scope' pos) target iter1) (ctwoE g fI g1) := fun F cl C D I its P hp loc xs s Q k v w X sp S hk r hl B => by
  unfold tail2
  refine wpAny_bind (let_tgt hT hl (wpAny_bind ?_))
  refine hg F cl C D its P hp loc xs s _ _ v w X sp S hk r fun loc₁ hp₁ h₁ tk₁ hk₁ S₁ => wpAny_bind ?_
  obtain ⟨oC, mC, ws, R₁, hn, hl₁, hx⟩ := S₁
  let Fc : Fm := inC F scope cl C ((C, oC) :: (D, LCg.lst ws) :: (its ++ F.fix)) mC
  have O₀ : OK G sc' Fc P loc₁ := X.ok (List.mem_cons_self ..) hn hl₁
  refine wpAny_mono (hI Fc P hp₁ loc₁ { s with heap := h₁, toks := tk₁ } (k := _) (K := fun it s₂ => wpAny (model G.prog G.w) F.A (runOwn (.compStart (.ListComp elt [g0, ⟨target1, iter1, [], 0⟩] scope' pos) 1 it (.ref D) (compEnvC scope cl C F.env)) (compEnvC scope cl C F.env))
    (fun _ s₃ => Q (.again (.compLoop (.ListComp elt [g0, ⟨target1, iter1, [], 0⟩] scope' pos) 0 (.ref I) (.ref D) (compEnvC scope cl C F.env))) s₃) Ra s₂) O₀ R₁ hk₁ fun us kc P₂ hp₂ h₂ t₂ J Fc' hk₂ l₂ SS => ?_)
    (fun x s₁ hz => wpAny_bind (wpAny_standAt (wpAny_bind (wpAny_of_eq (hs _ x) (wpAny_bind (wpAny_holding (wpAny_mono hz (fun it s₂ hw => wpAny_bind (wpAny_mono hw (fun _ s₃ hq => wpAny_pure hq) fun _ _ e => e)) fun _ _ e => e))))))) fun _ _ e => e
  obtain ⟨⟨oJ, fp, Pv, St, W, hIo, hst, hP, hlet, R, hIf, hfp, hkeep⟩, hres, hF⟩ := SS
  refine wpAny_runOwn ?_
  let F' : Fm := { F with frz := Fc'.frz }
  have offJ : J ≠ C ∧ J ≠ D ∧ ∀ q ∈ its ++ F.fix, q.1 ≠ J := ⟨Ne.symm (hIf (C, oC) (List.mem_cons_self ..)), Ne.symm (hIf (D, LCg.lst ws) (List.mem_cons_of_mem _ (List.mem_cons_self ..))), fun q hq => hIf q (List.mem_cons_of_mem _ (List.mem_cons_of_mem _ hq))⟩
  have S₂ : CSt F' sc'.vars C D ((J, oJ) :: its) P₂ hp₂ loc₁ xs h₂ := by
    refine ⟨oC, mC, ws, Rel.sub R fun q hq => ?_, hn, hl₁.mono l₂, hx.mono l₂⟩
    show q ∈ (J, oJ) :: (C, oC) :: (D, LCg.lst ws) :: (its ++ F.fix)
    have hq : q ∈ (C, oC) :: (D, LCg.lst ws) :: ((J, oJ) :: its ++ F.fix) := hq
    simp only [List.mem_cons, List.cons_append] at hq ⊢
    rcases hq with rfl | rfl | rfl | hq
    · exact .inr (.inl rfl)
    · exact .inr (.inr (.inl rfl))
    · exact .inl rfl
    · exact .inr (.inr (.inr hq))
  have loop : codeAny (model G.prog G.w) (F.A.mark none) (.compLoop (.ListComp elt [g0, ⟨target1, iter1, [], 0⟩] scope' pos) 1 (.ref J) (.ref D) (compEnvC scope cl C F.env)) (fun r s' => match r with | .ok f => Q (.again (.compLoop (.ListComp elt [g0, ⟨target1, iter1, [], 0⟩] scope' pos) 0 (.ref I) (.ref D) (compEnvC scope cl C F.env))) s' | .error e => cameBackBy (model G.prog G.w) F.A (compEnvC scope cl C F.env) Ra e s') { s with heap := h₂, toks := t₂ } := by
    refine comp_loop rfl hturn hstep (F := F) (F' := F') (its := its) (hS := h₂) W hIo hst hP hlet hkeep (fun _ _ _ => rfl) (fun b hb _ => hfp b hb) rfl (X.mono l₂) sp offJ S₂ hk₂ fun P₃ hp₃ loc₃ xs₃ h₃ tk₃ l₃ hk₃ S₃ => ?_
    obtain ⟨oC', mC', ws', R', hn', hl', hx'⟩ := S₃
    obtain ⟨hp'', hk'', R''⟩ := hres _ _ P₃ hp₃ h₃ _ l₃ hk₃ R'
    exact B P₃ hp'' loc₃ xs₃ h₃ tk₃ hk'' (l₂.trans l₃) ⟨oC', mC', ws', R'', hn', hl', hx'⟩
  exact compStart_two loop (W.self 0 _ _ _ hst loop)

/-! ## min of a list of ints -/
noncomputable def minI (vs : List V) : (Int → Bool) → Bool := 
  List.rec (motive := fun _ => (Int → Bool) → Bool) (fun _ => false) (fun v r ih κ => match v with
    | .int x => List.rec (motive := fun _ => Bool) (κ x) (fun _ _ _ => ih fun y => iteB (ltI y x) (κ y) (κ x)) r
    | _ => false) vs
theorem minI_true {P : Ad} : ∀ {vs : List V} {ws : List Value} {κ : Int → Bool}, minI vs κ = true → VRs P vs ws → ∃ ns M, IntsAre ws ns ∧ 0 < ns.length ∧ κ M = true ∧ M ∈ ns ∧ ∀ a ∈ ns, M ≤ a
  | [], _, _, h, _ => by cases h
  | [v], _, κ, h, .cons r .nil => by
    cases r with
    | int x t => exact ⟨[x], x, .cons x t .nil, Nat.zero_lt_one, h, List.mem_singleton.mpr rfl, fun a ha => by rw [List.mem_singleton.mp ha]; exact Int.le_refl _⟩
    | _ => cases h
  | v :: u :: r, _, κ, h, .cons rv rs => by
    cases rv with
    | int x t =>
      have h : minI (u :: r) (fun y => iteB (ltI y x) (κ y) (κ x)) = true := h
      obtain ⟨ns, M, h1, h2, h3, h4, h5⟩ := minI_true h rs
      cases c : ltI M x with
      | true =>
        rw [c] at h3
        refine ⟨x :: ns, M, .cons x t h1, Nat.succ_pos _, h3, List.mem_cons_of_mem _ h4, fun a ha => ?_⟩
        rcases List.mem_cons.mp ha with rfl | ha
        · exact Int.le_of_lt (ltI_lt c)
        · exact h5 a ha
      | false =>
        rw [c] at h3
        have c' : x ≤ M := Int.not_lt.mp fun q => by rw [show ltI M x = true from (Z.ltB_iff M x).mpr q] at c; cases c
        refine ⟨x :: ns, x, .cons x t h1, Nat.succ_pos _, h3, List.mem_cons_self .., fun a ha => ?_⟩
        rcases List.mem_cons.mp ha with rfl | ha
        · exact Int.le_refl _
        · exact Int.le_trans c' (h5 a ha)
    | _ => cases h
noncomputable def minF : Fn := fun vs hp k => match vs with
  | [] => false
  | v :: r => match r with
    | [] => match v with
      | .ref i => lookE hp i fun c => match c with
        | .lst xs => minI xs fun x => forceI x fun x => k (.int x) hp
        | _ => false
      | _ => false
    | _ :: _ => false
theorem call_min {G d} : CallS G d (.builtin "min") minF := fun F P hp s Q k vs ws O R hk r B => by
  cases r with
  | nil => cases hk
  | cons rv r =>
    cases r with
    | cons => cases hk
    | nil =>
      cases rv with
      | @ref i a hi ea =>
        dsimp only [minF] at hk
        obtain ⟨c, e1, hk⟩ := lookE_true hk
        cases c with
        | lst xs =>
          dsimp only at hk
          obtain ⟨ys, _, _, hx, rx⟩ := R.lst e1
          rw [← ea] at hx
          obtain ⟨ns, M, h1, h2, h3, h4, h5⟩ := minI_true hk rx
          rw [forceI_eq] at h3
          refine kso_min R.fr R.led hx h1 h2 O.hd fun h' M' t tk F' N' h6 h7 => ?_
          have e : M' = M := Int.le_antisymm (h7 _ h4) (h5 _ h6)
          subst e
          exact B _ _ P hp h' tk h3 (.refl P) (R.move F' N') (.int _ _)
        | _ => cases hk
      | _ => cases hk

/-! ## sorted, of a list of tuples that part at their first items, ints -/
noncomputable def askE (as : List Int) (i j : Nat) (κ : Bool → Bool) : Bool := getE as i fun p => getE as j fun q => iteB (eqI p q) false (forceB (ltI p q) κ)
noncomputable def runE (as : List Int) (t : KasT (Array Nat)) : (Array Nat → Bool) → Bool :=
  KasT.rec (motive := fun _ => (Array Nat → Bool) → Bool) (fun a κ => κ a) (fun i j _ ih κ => askE as i j fun b => ih b κ) t
theorem runE_true {as : List Int} {cmp : Nat → Nat → (Bool → Shared → Prop) → Shared → Prop} {s : Shared} {G : Array Nat → Shared → Prop}
    (ha : ∀ i j κ C, askE as i j κ = true → (∀ b, κ b = true → C b s) → cmp i j C s) : ∀ (t : KasT (Array Nat)) {κ : Array Nat → Bool}, runE as t κ = true → (∀ p, κ p = true → G p s) → t.kasWp cmp G s
  | .ret a, _, h, hG => hG a h
  | .ask i j k, κ, h, hG => ha i j (fun b => runE as (k b) κ) _ h fun b hb => runE_true ha (k b) hb hG
noncomputable def gatE (xs : List V) (is : List Nat) : (List V → Bool) → Bool :=
  List.rec (motive := fun _ => (List V → Bool) → Bool) (fun κ => κ []) (fun i _ ih κ => getE xs i fun v => ih fun r => κ (v :: r)) is
theorem gatE_true {P : Ad} {xs : List V} {ws : List Value} (rx : VRs P xs ws) : ∀ {is : List Nat} {κ : List V → Bool}, gatE xs is κ = true → ∃ vs, κ vs = true ∧ VRs P vs (is.map fun i => ws.getD i Value.none)
  | [], _, h => ⟨[], h, .nil⟩
  | i :: r, κ, h => by
    obtain ⟨v, e, h⟩ := getE_true h
    obtain ⟨w, hw, rw_⟩ := rx.get e
    obtain ⟨vs, h1, h2⟩ := gatE_true rx (is := r) h
    refine ⟨v :: vs, h1, ?_⟩
    rw [List.map_cons, List.getD_eq_getElem?_getD, hw]
    exact .cons rw_ h2
/-- the first items -/
noncomputable def fstE (hp : Hp) (xs : List V) : (List Int → Bool) → Bool :=
  List.rec (motive := fun _ => (List Int → Bool) → Bool) (fun κ => κ []) (fun v _ ih κ => match v with
    | .ref i => lookE hp i fun c => match c with
      | .tup vs => List.rec (motive := fun _ => Bool) false (fun u _ _ => match u with | .int a => ih fun r => κ (a :: r) | _ => false) vs
      | _ => false
    | _ => false) xs
inductive Fsts (P : Ad) (h : Heap) : List Value → List Int → List Value → Prop
  | nil : Fsts P h [] [] []
  | cons {a : Addr} {o : Obj} {xs : Array Value} {n : Nat} {x : Int} {t : Tok} {vs as fs} (ho : h.get? a = some o) (hc : o.cls = .type "tuple") (hd : o.data = .seq xs n) (hf : xs.toList[0]? = some (.int x t)) (r : Fsts P h vs as fs) : Fsts P h (.ref a :: vs) (x :: as) (.int x t :: fs)
theorem fstE_true {F : Fm} {P : Ad} {hp : Hp} {h : Heap} (R : FRel F P hp h) : ∀ {xs : List V} {ws : List Value} {κ : List Int → Bool}, fstE hp xs κ = true → VRs P xs ws → ∃ as fs, κ as = true ∧ Fsts P h ws as fs
  | _, _, _, hk, .nil => ⟨[], [], hk, .nil⟩
  | v :: vs, _, κ, hk, .cons rv rs => by
    cases rv with
    | @ref i a hi ea =>
      have hk : lookE hp i (fun c => match c with | .tup us => List.rec (motive := fun _ => Bool) false (fun u _ _ => match u with | .int a => fstE hp vs fun r => κ (a :: r) | _ => false) us | _ => false) = true := hk
      obtain ⟨c, e, hk⟩ := lookE_true hk
      cases c with
      | tup us =>
        dsimp only at hk
        obtain ⟨_, o, ho, hor⟩ := R.own i _ e
        cases hor.out (by intro c' q; cases q) with
        | tup ws n hc hd ru =>
          cases ru with
          | nil => cases hk
          | cons r1 r2 =>
            cases r1 with
            | int x t =>
              obtain ⟨as, fs, h1, h2⟩ := fstE_true R (xs := vs) hk rs
              exact ⟨x :: as, .int x t :: fs, h1, .cons (t := t) (by rw [ea]; exact ho) hc hd rfl h2⟩
            | _ => cases hk
      | _ => cases hk
    | _ => cases hk
theorem Fsts.keeps {P P' : Ad} {h h' : Heap} (k : ∀ b o, h.get? b = some o → h'.get? b = some o) : ∀ {vs as fs}, Fsts P h vs as fs → Fsts P' h' vs as fs
  | _, _, _, .nil => .nil
  | _, _, _, .cons ho hc hd hf r => .cons (k _ _ ho) hc hd hf (r.keeps k)
theorem Fsts.tups {P : Ad} {h : Heap} : ∀ {vs as fs}, Fsts P h vs as fs → KatTups h vs fs ∧ (∀ v ∈ fs, ∃ x t, v = .int x t) ∧ vs.length = fs.length ∧ vs.length = as.length
  | _, _, _, .nil => ⟨trivial, (fun _ h => by cases h), rfl, rfl⟩
  | _, _, _, .cons ho hc hd hf r => by
    obtain ⟨h1, h2, h3, h4⟩ := r.tups
    refine ⟨KatTups.cons ho hc hd (by rw [← Array.getElem?_toList]; exact hf) h1, fun v hv => ?_, congrArg (· + 1) h3, congrArg (· + 1) h4⟩
    rcases List.mem_cons.mp hv with rfl | hv
    · exact ⟨_, _, rfl⟩
    · exact h2 v hv
theorem Fsts.get {P : Ad} {h : Heap} : ∀ {vs as fs} {i : Nat} {x : Int}, Fsts P h vs as fs → as[i]? = some x → ∃ a o xs n t, vs.getD i Value.none = .ref a ∧ h.get? a = some o ∧ o.data = .seq xs n ∧ ∃ r, xs.toList = .int x t :: r
  | _, _, _, _, _, .nil, h => by simp at h
  | _, _, _, 0, x, .cons (a := a) (o := o) (xs := xs) (n := n) (t := t) ho hc hd hf r, h => by
    simp at h
    subst h
    refine ⟨a, o, xs, n, t, by simp, ho, hd, ?_⟩
    cases e : xs.toList with
    | nil => rw [e] at hf; cases hf
    | cons y ys =>
      rw [e] at hf
      cases hf
      exact ⟨ys, rfl⟩
  | _, _, _, i + 1, x, .cons ho hc hd hf r, h => by
    simp only [List.getElem?_cons_succ] at h
    obtain ⟨a, o, xs, n, t, h1, h2⟩ := Fsts.get r h
    exact ⟨a, o, xs, n, t, by simpa using h1, h2⟩
theorem ask_true {G : Gl} {A : Around} {P : Ad} {s : Shared} {vs : List Value} {as : List Int} {fs : List Value} (T : Fsts P s.heap vs as fs) {i j : Nat} {κ : Bool → Bool} {C : Bool → Shared → Prop} (h : askE as i j κ = true) (hC : ∀ b, κ b = true → C b s) :
    kas_ask G.prog G.w A (tuples' true) vs i j C s := by
  obtain ⟨p, e1, h⟩ := getE_true h
  obtain ⟨q, e2, h⟩ := getE_true h
  have hne : eqI p q = false := by
    cases c : eqI p q with
    | false => rfl
    | true => rw [c] at h; cases h
  rw [hne] at h
  have h : forceB (ltI p q) κ = true := h
  rw [forceB_eq] at h
  obtain ⟨a, oa, xa, na, ta, ha1, ha2, ha3, ra, ha4⟩ := T.get e1
  obtain ⟨b, ob, xb, nb, tb, hb1, hb2, hb3, rb, hb4⟩ := T.get e2
  unfold kas_ask
  rw [ha1, hb1]
  refine kat_lt ha2 ha3 hb2 hb3 ?_
  rw [ha4, hb4, List.zip_cons_cons]
  refine kat_cons (wpAny_eqBool_int ?_)
  rw [eqI_beq, hne]
  refine kat_no (oneLt_int ?_)
  rw [ltI_dec]
  exact hC _ h
noncomputable def sortF : Fn := fun vs hp k => match vs with
  | [] => false
  | v :: r => match r with
    | [] => match v with
      | .ref i => lookE hp i fun c => match c with
        | .lst xs => andB (Nat.ble 2 xs.length) (andB (Nat.blt xs.length 64) (fstE hp xs fun as => runE as (kas_sort xs.length) fun p => gatE xs p.toList fun ys => newE hp (.lst ys) fun n hp => k (.ref n) hp))
        | _ => false
      | _ => false
    | _ :: _ => false
theorem call_sorted {G d} : CallS G d (.builtin "sorted") sortF := fun F P hp s Q k vs ws O R hk r B => by
  cases r with
  | nil => cases hk
  | cons rv r =>
    cases r with
    | cons => cases hk
    | nil =>
      cases rv with
      | @ref i a hi ea =>
        dsimp only [sortF] at hk
        obtain ⟨c, e1, hk⟩ := lookE_true hk
        cases c with
        | lst xs =>
          dsimp only at hk
          obtain ⟨l1, hk⟩ := andB_true hk
          obtain ⟨l2, hk⟩ := andB_true hk
          have l1 := Nat.le_of_ble_eq_true l1
          have l2 : xs.length < 64 := Nat.le_of_ble_eq_true l2
          obtain ⟨ys, _, _, hx, rx⟩ := R.lst e1
          rw [← ea] at hx
          have lx := rx.length
          refine kat_sorted R.fr R.led hx (by omega) (by omega) fun D e1 h' F' N' hD => ?_
          have R' : FRel F P hp h' := R.move F' fun p hp => N' p (List.mem_cons_of_mem _ hp)
          obtain ⟨as, fs, hk, T⟩ := fstE_true R' hk rx
          rw [lx] at hk
          obtain ⟨t1, t2, t3, t4⟩ := T.tups
          refine kat_kind (s := { s with heap := h' }) (T := .type "int") t1 (by omega) (fun v hv => ?_) rfl ?_
          · obtain ⟨x, t, rfl⟩ := t2 v hv
            exact Looks.of_pure rfl
          · show (kas_sort ys.length).kasWp (kas_ask G.prog G.w _ (tuples' true) ys) _ _
            refine runE_true (fun i j κ C h hC => ask_true (s := { s with heap := h' }) T h hC) _ hk fun p hp' => ?_
            obtain ⟨us, hu, ru⟩ := gatE_true rx hp'
            rw [newE_eq, R.nx] at hu
            refine KasFin.intro F' N' (.head fun q hq => Nat.ne_of_lt (hD q hq)) fun h'' c F'' N'' => ?_
            have R₂ : FRel F P hp h'' := R.move F'' fun p hp => N'' p (List.mem_cons_of_mem _ hp)
            have R₃ : Rel F.h₀ F.L F.m ([(D, PySem.W.listOf (List.toArray (p.toList.map fun i => ys.getD i Value.none)) c)] ++ F.fix) F.frz P hp h'' := R₂.addFix (fun q hq => by rw [List.mem_singleton.mp hq]; exact N'' _ (List.mem_cons_self ..)) fun k hk' q hq => by
              rw [List.mem_singleton.mp hq]
              obtain ⟨_, _, _, o, eo⟩ := R.live k hk'
              exact Nat.ne_of_gt (hD (P.f k, o) (List.mem_append_right _ (mem_ledOf.mpr ⟨k, hk', rfl, eo⟩)))
            have R₄ := Rel.addKey (c := .lst us) R₃ (.lst _ c ru) fun q hq => Nat.ne_of_lt (hD q (List.mem_append_left _ hq))
            exact B _ _ (P.ext D) _ h'' s.toks hu (P.le_ext D) R₄ (.ref (Nat.lt_succ_self _) (P.ext_at D).symm)
        | _ => cases hk
      | _ => cases hk

/-! ## comprehensions, for the walk -/
def relS (scope outer : Scope) : Scope := { scope with names := scope.names.map fun (n, k) => if (k == .free && outer.kind == .function && outer.names.lookup n == some .cell) then (n, .cell) else (n, k) }
def localsOf (l : List (Str × NameKind)) : List Str := l.filterMap fun p => if p.2 == .local then some p.1 else none
def freeCells (cells : List (Str × Nat)) (l : List (Str × NameKind)) : List (Str × Nat) := l.filterMap fun p => if p.2 == .free then (cells.lookup p.1).map fun k => (p.1, k) else none
def scC (sc : Sc) (scope : Scope) : Sc := ⟨sc.d, relS scope sc.scope, localsOf scope.names, freeCells sc.cells scope.names⟩
def nodupB : List Str → Bool
  | [] => true
  | x :: r => !(r.any fun y => y == x) && nodupB r
theorem nodupB_true : ∀ {l : List Str}, nodupB l = true → l.Nodup
  | [], _ => List.nodup_nil
  | x :: r, h => by
    unfold nodupB at h
    rw [Bool.and_eq_true] at h
    refine List.nodup_cons.mpr ⟨fun hm => ?_, nodupB_true h.2⟩
    have : r.any (fun y => y == x) = true := List.any_eq_true.mpr ⟨x, hm, by simp⟩
    rw [this] at h
    cases h.1
def chkSc (sc : Sc) (scope : Scope) : Bool := scope.kind == .function && (scope.names.all fun p => p.2 != .cell) && (scope.names.all fun p => !(p.2 == .local) || scope.names.lookup p.1 == some .local) && (scope.names.all fun p => !(p.2 == .free) || (sc.cells.lookup p.1).isSome) && nodupB (localsOf scope.names)
theorem compSc_of {sc : Sc} {scope : Scope} (h : chkSc sc scope = true) : CompSc sc (scC sc scope) scope := by
  unfold chkSc at h
  simp only [Bool.and_eq_true] at h
  obtain ⟨⟨⟨⟨h1, h2⟩, h3⟩, h4⟩, h5⟩ := h
  have h1 : scope.kind = .function := by simpa using h1
  exact {
    d := Nat.le_refl _
    rel := fun env e => by simp only [relabel, scC, relS, Env.kindOf, e]
    kind := h1
    kind' := h1
    cell := fun y hy => by have := List.all_eq_true.mp h2 y hy; simpa using this
    names := fun y hy e => by have := List.all_eq_true.mp h3 y hy; simpa [e] using this
    free := fun y hy e => by
      have := List.all_eq_true.mp h4 y hy
      simp only [e, beq_self_eq_true, Bool.not_true, Bool.false_or] at this
      exact Option.isSome_iff_exists.mp this
    cells := fun y hy => by
      obtain ⟨p, hp, e⟩ := List.mem_filterMap.mp hy
      by_cases hf : (p.2 == NameKind.free) = true
      · rw [if_pos hf] at e
        cases q : sc.cells.lookup p.1 with
        | none => rw [q] at e; cases e
        | some k =>
          rw [q] at e
          cases e
          refine ⟨?_, q⟩
          have : p.2 = .free := by simpa using hf
          rw [← this]
          exact hp
      · rw [if_neg hf] at e; cases e }
theorem chk_kind {sc : Sc} {scope : Scope} (h : chkSc sc scope = true) : scope.kind = .function ∧ (localsOf scope.names).Nodup := by
  unfold chkSc at h
  simp only [Bool.and_eq_true] at h
  obtain ⟨⟨⟨⟨h1, h2⟩, h3⟩, h4⟩, h5⟩ := h
  exact ⟨by simpa using h1, nodupB_true h5⟩

theorem turn_one {elt target iter ifs scope pos} (I D : Addr) (cenv : Env) : compTurn (.ListComp elt [⟨target, iter, ifs, 0⟩] scope pos) 0 (.ref I) (.ref D) cenv =
    (do standAt iter.pos; match ← pyNext (.ref I) with | none => pure (.done .next) | some v => tail1 (fun I D cenv => .compLoop (.ListComp elt [⟨target, iter, ifs, 0⟩] scope pos) 0 (.ref I) (.ref D) cenv) target ifs elt I D cenv v) := by rfl
theorem turn_two0 {elt target iter target1 iter1 scope pos} (I D : Addr) (cenv : Env) : compTurn (.ListComp elt [⟨target, iter, [], 0⟩, ⟨target1, iter1, [], 0⟩] scope pos) 0 (.ref I) (.ref D) cenv =
    (do standAt iter.pos; match ← pyNext (.ref I) with | none => pure (.done .next) | some v => tail2 (.ListComp elt [⟨target, iter, [], 0⟩, ⟨target1, iter1, [], 0⟩] scope pos) target iter1 I D cenv v) := by rfl
theorem turn_two1 {elt target iter target1 iter1 scope pos} (I D : Addr) (cenv : Env) : compTurn (.ListComp elt [⟨target, iter, [], 0⟩, ⟨target1, iter1, [], 0⟩] scope pos) 1 (.ref I) (.ref D) cenv =
    (do standAt iter1.pos; match ← pyNext (.ref I) with | none => pure (.done .next) | some v => tail1 (fun I D cenv => .compLoop (.ListComp elt [⟨target, iter, [], 0⟩, ⟨target1, iter1, [], 0⟩] scope pos) 1 (.ref I) (.ref D) cenv) target1 [] elt I D cenv v) := by rfl

theorem snd_comp1 {G sc g t f fI} {elt target iter ifs scope pos} (k : chkSc sc scope = true) (hI : SndI G sc iter fI) (hs : ∀ env x, foldedSetIterable iter env x = pure x) (hT : Tgt target) (hg : SndCA G (scC sc scope) scope target g)
    (ht : SndIfs G (scC sc scope) ifs t) (he : SndE G (scC sc scope) elt f) : SndE G sc (.ListComp elt [⟨target, iter, ifs, 0⟩] scope pos) (compE fI 4 (cstepE g t f)) :=
  snd_comp turn_one (compSc_of k) hI hs (step_one hT hg ht he)
theorem snd_asg_comp1 {G sc g t f fI y py gst} {elt target iter ifs scope pos spos} (k : chkSc sc scope = true) (hI : SndI G sc iter fI) (hs : ∀ env x, foldedSetIterable iter env x = pure x) (hT : Tgt target) (hg : SndCA G (scC sc scope) scope target g)
    (ht : SndIfs G (scC sc scope) ifs t) (he : SndE G (scC sc scope) elt f) (hst : SndSt G sc y gst) (hsw : ∀ env, env.scope = sc.scope → swapsWith (.ListComp elt [⟨target, iter, ifs, 0⟩] scope pos) (some (.Name y py)) spos.line env = pure true) :
    SndS G sc (.Assign [.Name y py] (.ListComp elt [⟨target, iter, ifs, 0⟩] scope pos) spos) (asgS (compE fI 4 (cstepE g t f)) gst) :=
  snd_assign_comp turn_one (compSc_of k) hI hs (step_one hT hg ht he) hst hsw
theorem snd_asg_comp2 {G sc g g1 f fI fI1 y py gst} {elt target iter target1 iter1 scope pos spos} (k : chkSc sc scope = true) (hI : SndI G sc iter fI) (hs : ∀ env x, foldedSetIterable iter env x = pure x) (hT : Tgt target) (hg : SndCA G (scC sc scope) scope target g)
    (hI1 : SndI G (scC sc scope) iter1 fI1) (hs1 : ∀ env x, foldedSetIterable iter1 env x = pure x) (hT1 : Tgt target1) (hg1 : SndCA G (scC sc scope) scope target1 g1) (he : SndE G (scC sc scope) elt f) (hst : SndSt G sc y gst)
    (hsw : ∀ env, env.scope = sc.scope → swapsWith (.ListComp elt [⟨target, iter, [], 0⟩, ⟨target1, iter1, [], 0⟩] scope pos) (some (.Name y py)) spos.line env = pure true) :
    SndS G sc (.Assign [.Name y py] (.ListComp elt [⟨target, iter, [], 0⟩, ⟨target1, iter1, [], 0⟩] scope pos) spos) (asgS (compE fI 4 (ctwoE g fI1 (cstepE g1 (fun _ hp k => k true hp) f))) gst) :=
  snd_assign_comp turn_two0 (compSc_of k) hI hs (step_two hT hg hI1 hs1 turn_two1 (step_one hT1 hg1 snd_ifs_nil he)) hst hsw
theorem snd_cNameN {G sc scope x pos i} (k : chkSc sc scope = true) (hi : VarAt (scC sc scope).vars x i) (hk : scope.names.lookup x = some .local) : SndCA G (scC sc scope) scope (.Name x pos) (stL i) := snd_cName hi hk (chk_kind k).1 (chk_kind k).2
theorem snd_cPairN {G sc scope x y px py kk pos i j} (k : chkSc sc scope = true) (hi : VarAt (scC sc scope).vars x i) (hj : VarAt (scC sc scope).vars y j) (hk : scope.names.lookup x = some .local) (hk' : scope.names.lookup y = some .local) :
    SndCA G (scC sc scope) scope (.Tuple [.Name x px, .Name y py] kk pos) (unpE 2 (asCons (stL i) (asCons (stL j) asNil))) := snd_cPair hi hj hk hk' (chk_kind k).1 (chk_kind k).2

/-! ## names, stores, the functions' texts -/
def nameIds : List Expr → List Str
  | [] => []
  | .Name x _ :: r => x :: nameIds r
  | _ :: r => nameIds r
theorem snd_swapN {G sc ts kk tpos value pos f g} {n : Nat} (h : SndE G sc value f) (hst : SndSts G sc (nameIds ts).reverse g) (hn : (nameIds ts).length = n) (hs : ∀ env, swapsWithSole [.Tuple ts kk tpos] value pos.line env = pure false)
    (hw : ∀ env, env.scope = sc.scope → swappedStores [.Tuple ts kk tpos] value env = pure (some (nameIds ts))) : SndS G sc (.Assign [.Tuple ts kk tpos] value pos) (asgS f (swpE n g)) := snd_swap h hst hn hs hw
theorem snd_stN {G sc x i} (hi : VarAt sc.vars x i) (hk : sc.scope.names.lookup x = some .local) (hd : nodupB sc.vars = true) : SndSt G sc x (stL i) := snd_stL hi hk (nodupB_true hd)
theorem snd_aTupleN {G sc ts kk pos g} (h : SndAs G sc ts g) (hn : ∀ env, (assignEach ts env).length = ts.length) (hs : ∀ env, (assignEach ts env).findIdx? (·.1) = Option.none) : SndA G sc (.Tuple ts kk pos) (unpE ts.length g) := snd_aTuple h hn hs
def stmtsOf (o : Option Obj) : List Stmt := match o with
  | some ⟨_, _, .func fd, _⟩ => (match fd.body with | .stmts b => b | _ => [])
  | _ => []
def scopeOf (o : Option Obj) : Scope := match o with
  | some ⟨_, _, .func fd, _⟩ => fd.scope
  | _ => { kind := .module, names := [], isGenerator := false, isCoroutine := false }

noncomputable abbrev GG (w : World) (mean : ExcName → Option Value) (mg mb : Str → Option Value) : Gl := ⟨PySem.Challenge.rw_tk0031_01.row.prog, w, hd.heap_39 w.params, hd.view_39, looseW hd.view_39 [], mean, mg, mb⟩
noncomputable abbrev KK (w : World) (a : Addr) : Option Obj := (hd.heap_39 w.params).lookup a
noncomputable abbrev scF (w : World) (a : Addr) (d : Nat) (vars : List Str) : Sc := ⟨d, scopeOf (KK w a), vars, []⟩

local macro_rules | `(tactic| walk_at "m_var") => `(tactic| first
  | with_reducible exact VarAt.head
  | with_unfolding_all exact VarAt.head
  | (with_unfolding_all refine' VarAt.tail ?a; (case a => walk_at "m_var")))
local macro_rules | `(tactic| walk_at "m_name") => `(tactic| first
  | (refine' snd_local ?a ?b ?c; (case a => walk_at "m_var"); (case b => with_unfolding_all exact rfl); (case c => with_unfolding_all exact rfl))
  | (refine' snd_cell ?a ?b ?c; (case a => with_unfolding_all exact rfl); (case b => with_unfolding_all exact rfl); (case c => with_unfolding_all exact rfl)))
local macro_rules | `(tactic| walk_at "m_op") => `(tactic| with_reducible first
  | exact snd_add
  | exact snd_sub
  | exact snd_mul
  | exact snd_fdiv
  | exact snd_fmod
  | exact snd_pow)
local macro_rules | `(tactic| walk_at "m_cop") => `(tactic| with_reducible first
  | exact snd_eq
  | exact snd_ne
  | exact snd_lt
  | exact snd_le
  | exact snd_gt
  | exact snd_ge
  | exact snd_in
  | exact snd_isnot)
local macro_rules | `(tactic| walk_at "m_fn") => `(tactic| with_reducible first
  | exact call_len
  | exact call_list
  | exact call_max
  | exact call_min
  | exact call_sorted)
local macro_rules | `(tactic| walk_at "m_call") => `(tactic| first
  | (refine' snd_call ?a ?b ?d ?l ?f ?x ?y; (case a => with_unfolding_all exact nameV_fn rfl rfl rfl); (case b => with_unfolding_all exact rfl); (case f => walk_at "m_fn"); (case d => first | exact Nat.le_of_ble_eq_true rfl | with_unfolding_all decide); (case l => walk_at "m_l"); (case x => (intro _; with_unfolding_all exact rfl)); (case y => (intro _ _; with_unfolding_all exact rfl)))
  | (refine' snd_callB ?nb (Nat.zero_le _) ?l ?f ?x ?y; (case nb => with_unfolding_all exact nameV_b rfl rfl (by decide) rfl rfl); (case l => walk_at "m_l"); (case f => walk_at "m_fn"); (case x => (intro _; with_unfolding_all exact rfl)); (case y => (intro _ _; with_unfolding_all exact rfl)))
  | (refine' snd_callT ?nb (Nat.zero_le _) ?l ?f ?x ?y; (case nb => with_unfolding_all exact nameV_b rfl rfl (by decide) rfl rfl); (case l => walk_at "m_l"); (case f => walk_at "m_fn"); (case x => (intro _; with_unfolding_all exact rfl)); (case y => (intro _ _; with_unfolding_all exact rfl))))
local macro_rules | `(tactic| walk_at "m_e") => `(tactic| with_reducible first
  | exact snd_int
  | exact snd_bool
  | exact snd_none
  | walk_at "m_name"
  | (refine' snd_bin ?o ?x ?y; (case o => walk_at "m_op"); (case x => walk_at "m_e"); (case y => walk_at "m_e"))
  | (refine' snd_upto ?x ?y ?z; (case x => walk_at "m_e"); (case y => walk_at "m_e"); (case z => (intro _ _; with_unfolding_all exact rfl)))
  | (refine' snd_sub_ ?x ?y ?z; (case x => walk_at "m_e"); (case y => walk_at "m_e"); (case z => (intro _ _; with_unfolding_all exact rfl)))
  | (refine' snd_tuple ?x; (case x => walk_at "m_l"))
  | (refine' snd_list ?x; (case x => walk_at "m_l"))
  | (refine' snd_neg ?x; (case x => walk_at "m_e"))
  | (refine' snd_if ?x ?y ?z; (case x => walk_at "m_t"); (case y => walk_at "m_e"); (case z => walk_at "m_e"))
  | (refine' snd_cmp ?o ?x ?y ?z; (case o => walk_at "m_cop"); (case x => walk_at "m_e"); (case y => walk_at "m_e"); (case z => with_unfolding_all exact rfl))
  | (refine' snd_and2 ?x ?y; (case x => walk_at "m_e"); (case y => walk_at "m_e"))
  | walk_at "m_call"
  | walk_at "m_comp")
local macro_rules | `(tactic| walk_at "m_l") => `(tactic| with_reducible first
  | exact snd_L_nil
  | (refine' snd_L_cons ?z ?x ?y; (case z => (intro _; with_unfolding_all exact rfl)); (case x => walk_at "m_e"); (case y => walk_at "m_l")))
local macro_rules | `(tactic| walk_at "m_ts") => `(tactic| with_reducible first
  | exact snd_and_nil
  | exact snd_or_nil
  | (refine' snd_and_cons ?x ?y; (case x => walk_at "m_t"); (case y => walk_at "m_ts"))
  | (refine' snd_or_cons ?x ?y; (case x => walk_at "m_t"); (case y => walk_at "m_ts")))
local macro_rules | `(tactic| walk_at "m_t") => `(tactic| with_reducible first
  | (refine' snd_notT ?x; (case x => walk_at "m_t"))
  | (refine' snd_boolT ?x; (case x => walk_at "m_ts"))
  | (refine' snd_cmpT ?o ?x ?y ?z; (case o => walk_at "m_cop"); (case x => walk_at "m_e"); (case y => walk_at "m_e"); (case z => with_unfolding_all exact rfl))
  | (refine' snd_valT ?x ?z; (case x => walk_at "m_e"); (case z => (intro _ _; with_unfolding_all exact rfl))))
local macro_rules | `(tactic| walk_at "m_st") => `(tactic| first
  | (refine' snd_stN ?a ?b ?c; (case a => walk_at "m_var"); (case b => with_unfolding_all exact rfl); (case c => with_unfolding_all exact rfl))
  | (refine' snd_stC ?a ?b; (case a => with_unfolding_all exact rfl); (case b => with_unfolding_all exact rfl)))
local macro_rules | `(tactic| walk_at "m_sts") => `(tactic| first
  | exact snd_sts_nil
  | (refine' snd_sts_cons ?x ?y; (case x => walk_at "m_st"); (case y => walk_at "m_sts")))
local macro_rules | `(tactic| walk_at "m_a") => `(tactic| with_reducible first
  | (refine' snd_aName ?x; (case x => walk_at "m_st"))
  | (refine' snd_aTupleN ?x ?y ?z; (case x => walk_at "m_as"); (case y => (intro _; with_unfolding_all exact rfl)); (case z => (intro _; with_unfolding_all exact rfl))))
local macro_rules | `(tactic| walk_at "m_as") => `(tactic| with_reducible first
  | exact snd_as_nil
  | (refine' snd_as_cons ?x ?y ?z; (case x => walk_at "m_a"); (case y => walk_at "m_as"); (case z => (intro _; with_unfolding_all exact rfl))))
local macro_rules | `(tactic| walk_at "m_comp") => `(tactic| with_reducible first
  | (refine' snd_comp1 ?k ?s ?fo ?tg ?ca ?ifs ?el; (case k => with_unfolding_all exact rfl); (case s => walk_at "m_src"); (case fo => (intro _ _; with_unfolding_all exact rfl)); (case tg => walk_at "m_tgt"); (case ca => walk_at "m_ca"); (case ifs => walk_at "m_ifs"); (case el => walk_at "m_e")))
local macro_rules | `(tactic| walk_at "m_tgt") => `(tactic| with_reducible first
  | exact tgt_name
  | exact tgt_tuple)
local macro_rules | `(tactic| walk_at "m_ifs") => `(tactic| with_reducible first
  | exact snd_ifs_nil
  | (refine' snd_ifs_one ?x; (case x => walk_at "m_t")))
local macro_rules | `(tactic| walk_at "m_ca") => `(tactic| with_reducible first
  | (refine' snd_cNameN ?k ?a ?b; (case k => with_unfolding_all exact rfl); (case a => walk_at "m_var"); (case b => with_unfolding_all exact rfl))
  | (refine' snd_cPairN ?k ?a ?a2 ?b ?b2; (case k => with_unfolding_all exact rfl); (case a => walk_at "m_var"); (case a2 => walk_at "m_var"); (case b => with_unfolding_all exact rfl); (case b2 => with_unfolding_all exact rfl)))
local macro_rules | `(tactic| walk_at "m_src") => `(tactic| with_reducible first
  | (refine' snd_srcR ?nb ?x ?p ?q; (case nb => with_unfolding_all exact nameV_b rfl rfl (by decide) rfl rfl); (case x => walk_at "m_l"); (case p => (intro _; with_unfolding_all exact rfl)); (case q => (intro _ _; with_unfolding_all exact rfl)))
  | (refine' snd_srcT ?x; (case x => walk_at "m_et"))
  | (refine' snd_srcL ?x; (case x => walk_at "m_e")))
local macro_rules | `(tactic| walk_at "m_et") => `(tactic| with_reducible first
  | (refine' snd_tuple ?x; (case x => walk_at "m_l")))
local macro_rules | `(tactic| walk_at "m_s") => `(tactic| with_reducible first
  | (refine' snd_ret ?x; (case x => walk_at "m_e"))
  | (refine' snd_asg_comp1 ?k ?s ?fo ?tg ?ca ?ifs ?el ?st ?sw; (case k => with_unfolding_all exact rfl); (case s => walk_at "m_src"); (case fo => (intro _ _; with_unfolding_all exact rfl)); (case tg => walk_at "m_tgt"); (case ca => walk_at "m_ca"); (case ifs => walk_at "m_ifs"); (case el => walk_at "m_e"); (case st => walk_at "m_st"); (case sw => (intro env h; cases env; cases h; first | with_unfolding_all rfl | with_unfolding_all exact rfl)))
  | (refine' snd_asg_comp2 ?k ?s ?fo ?tg ?ca ?s1 ?fo1 ?tg1 ?ca1 ?el ?st ?sw; (case k => with_unfolding_all exact rfl); (case s => walk_at "m_src"); (case fo => (intro _ _; with_unfolding_all exact rfl)); (case tg => walk_at "m_tgt"); (case ca => walk_at "m_ca"); (case s1 => walk_at "m_src"); (case fo1 => (intro _ _; with_unfolding_all exact rfl)); (case tg1 => walk_at "m_tgt"); (case ca1 => walk_at "m_ca"); (case el => walk_at "m_e"); (case st => walk_at "m_st"); (case sw => (intro env h; cases env; cases h; first | with_unfolding_all rfl | with_unfolding_all exact rfl)))
  | (refine' snd_assign ?x ?y ?z; (case x => walk_at "m_e"); (case y => walk_at "m_st"); (case z => (intro _; with_unfolding_all exact rfl)))
  | (refine' snd_swapN ?x ?y ?n ?z ?w; (case z => (intro _; with_unfolding_all exact rfl)); (case w => (intro env h; cases env; cases h; first | with_unfolding_all rfl | with_unfolding_all exact rfl)); (case n => with_unfolding_all exact rfl); (case x => walk_at "m_e"); (case y => with_unfolding_all walk_at "m_sts"))
  | (refine' snd_assignT ?x ?y ?z ?w; (case x => walk_at "m_e"); (case y => walk_at "m_a"); (case z => (intro _; with_unfolding_all exact rfl)); (case w => (intro env h; cases env; cases h; first | with_unfolding_all rfl | with_unfolding_all exact rfl)))
  | (refine' snd_setItem ?x ?y ?u ?z; (case x => walk_at "m_e"); (case y => walk_at "m_e"); (case u => walk_at "m_e"); (case z => (intro _; with_unfolding_all exact rfl)))
  | (refine' snd_augAdd ?a ?b ?x ?y; (case a => walk_at "m_var"); (case b => with_unfolding_all exact rfl); (case x => walk_at "m_e"); (case y => walk_at "m_st"))
  | (refine' snd_ifS ?x ?y ?z; (case x => walk_at "m_t"); (case y => walk_at "m_ss"); (case z => walk_at "m_ss"))
  | (refine' snd_while ?x ?y; (case x => walk_at "m_t"); (case y => walk_at "m_ss"))
  | (refine' snd_forE ?nb ?x ?y ?z ?p ?q ?u ?v; (case nb => with_unfolding_all exact nameV_b rfl rfl (by decide) rfl rfl); (case x => walk_at "m_e"); (case y => walk_at "m_as"); (case z => walk_at "m_ss"); (case p => (intro _; with_unfolding_all exact rfl)); (case q => (intro _; with_unfolding_all exact rfl)); (case u => (intro _; with_unfolding_all exact rfl)); (case v => (intro _ _; with_unfolding_all exact rfl)))
  | (refine' snd_forR ?nb ?x ?y ?z ?p ?q ?u; (case nb => with_unfolding_all exact nameV_b rfl rfl (by decide) rfl rfl); (case x => walk_at "m_l"); (case y => walk_at "m_a"); (case z => walk_at "m_ss"); (case p => (intro _; with_unfolding_all exact rfl)); (case q => (intro _ _; with_unfolding_all exact rfl)); (case u => (intro _ _; with_unfolding_all exact rfl)))
  | (refine' snd_forL ?x ?y ?z ?p; (case x => walk_at "m_e"); (case y => walk_at "m_a"); (case z => walk_at "m_ss"); (case p => (intro _ _; with_unfolding_all exact rfl)))
  | (refine' snd_append ?x ?y ?p ?q ?u; (case x => walk_at "m_e"); (case y => walk_at "m_e"); (case p => (intro _; with_unfolding_all exact rfl)); (case q => (intro _; exact ⟨_, by with_unfolding_all exact rfl⟩)); (case u => (intro _; with_unfolding_all exact rfl))))
local macro_rules | `(tactic| walk_at "m_ss") => `(tactic| with_reducible first
  | exact snd_ss_nil
  | (refine' snd_ss_cons ?x ?y; (case x => walk_at "m_s"); (case y => walk_at "m_ss")))
local macro_rules | `(tactic| walk_at "m_body") => `(tactic| first
  | (with_unfolding_all refine' snd_ss_cons ?x ?y; (case x => walk_at "m_s"); (case y => walk_at "m_ss")))

def allLoc (l : List (Str × NameKind)) (names : List Str) : Bool := names.all fun x => l.lookup x == some .local
theorem allLoc_of {l : List (Str × NameKind)} {names : List Str} (h : allLoc l names = true) : ∀ x ∈ names, l.lookup x = some .local := fun x hx => by
  have := List.all_eq_true.mp h x hx
  simpa using this
def allNe (l : List (Str × NameKind)) : Bool := l.all fun p => p.2 != .cell
theorem allKind_ne {l : List (Str × NameKind)} (h : allNe l = true) : ∀ x ∈ l, x.2 ≠ .cell := fun x hx => by
  have := List.all_eq_true.mp h x hx
  simpa using this
theorem len_1 {α : Type} : ∀ {l : List α}, l.length = 1 → ∃ a, l = [a]
  | [a], _ => ⟨a, rfl⟩
theorem len_2 {α : Type} : ∀ {l : List α}, l.length = 2 → ∃ a b, l = [a, b]
  | [a, b], _ => ⟨a, b, rfl⟩
theorem len_3 {α : Type} : ∀ {l : List α}, l.length = 3 → ∃ a b c, l = [a, b, c]
  | [a, b, c], _ => ⟨a, b, c, rfl⟩
theorem len_4 {α : Type} : ∀ {l : List α}, l.length = 4 → ∃ a b c d, l = [a, b, c, d]
  | [a, b, c, d], _ => ⟨a, b, c, d, rfl⟩

noncomputable def b_ext : { f : Sv // ∀ w mean mg mb, SndSS (GG w mean mg mb) (scF w 21 0 ["a", "b", "one", "other", "times", "rest"]) (stmtsOf (KK w 21)) f } := by
  refine' ⟨_, ?h⟩
  case h =>
    intro w mean mg mb
    walk_at "m_body"
theorem d_ext (w : World) (mean : ExcName → Option Value) (mg mb : Str → Option Value) : DefAt (GG w mean mg mb) (scF w 21 0 ["a", "b", "one", "other", "times", "rest"]) 21 (stmtsOf (KK w 21)) ["a", "b"] ["one", "other", "times", "rest"] where
  at_ := ⟨_, _, _, _, _, _, _, _, _, _, _, _, _, by with_unfolding_all exact rfl, by with_unfolding_all exact rfl, fun ws h => by
    obtain ⟨x0, x1, rfl⟩ := len_2 h
    with_unfolding_all exact rfl⟩
  vars := rfl
  cells := rfl
  nodup := nodupB_true rfl
  loc := by exact allLoc_of (by with_unfolding_all exact rfl)
  kind := by with_unfolding_all exact rfl
  co := by with_unfolding_all exact rfl
  gen := by with_unfolding_all exact rfl
  cell := allKind_ne (by with_unfolding_all exact rfl)
theorem c_ext (w : World) (mean : ExcName → Option Value) (mg mb : Str → Option Value) : CallS (GG w mean mg mb) 1 (.ref 21) (fnF 2 4 b_ext.1) := callS_def (d_ext w mean mg mb) rfl rfl (b_ext.2 w mean mg mb)
local macro_rules | `(tactic| walk_at "m_fn") => `(tactic| with_reducible exact c_ext _ _ _ _)

noncomputable def b_pow : { f : Sv // ∀ w mean mg mb, SndSS (GG w mean mg mb) (scF w 28 0 ["a", "n", "m", "found", "square"]) (stmtsOf (KK w 28)) f } := by
  refine' ⟨_, ?h⟩
  case h =>
    intro w mean mg mb
    walk_at "m_body"
theorem d_pow (w : World) (mean : ExcName → Option Value) (mg mb : Str → Option Value) : DefAt (GG w mean mg mb) (scF w 28 0 ["a", "n", "m", "found", "square"]) 28 (stmtsOf (KK w 28)) ["a", "n", "m"] ["found", "square"] where
  at_ := ⟨_, _, _, _, _, _, _, _, _, _, _, _, _, by with_unfolding_all exact rfl, by with_unfolding_all exact rfl, fun ws h => by
    obtain ⟨x0, x1, x2, rfl⟩ := len_3 h
    with_unfolding_all exact rfl⟩
  vars := rfl
  cells := rfl
  nodup := nodupB_true rfl
  loc := by exact allLoc_of (by with_unfolding_all exact rfl)
  kind := by with_unfolding_all exact rfl
  co := by with_unfolding_all exact rfl
  gen := by with_unfolding_all exact rfl
  cell := allKind_ne (by with_unfolding_all exact rfl)
theorem c_pow (w : World) (mean : ExcName → Option Value) (mg mb : Str → Option Value) : CallS (GG w mean mg mb) 1 (.ref 28) (pureF 3 2 b_pow.1) := callS_pure (d_pow w mean mg mb) rfl rfl (b_pow.2 w mean mg mb)
local macro_rules | `(tactic| walk_at "m_fn") => `(tactic| with_reducible exact c_pow _ _ _ _)

noncomputable def b_inv : { f : Sv // ∀ w mean mg mb, SndSS (GG w mean mg mb) (scF w 35 1 ["a", "m", "g", "s", "t"]) (stmtsOf (KK w 35)) f } := by
  refine' ⟨_, ?h⟩
  case h =>
    intro w mean mg mb
    walk_at "m_body"
theorem d_inv (w : World) (mean : ExcName → Option Value) (mg mb : Str → Option Value) : DefAt (GG w mean mg mb) (scF w 35 1 ["a", "m", "g", "s", "t"]) 35 (stmtsOf (KK w 35)) ["a", "m"] ["g", "s", "t"] where
  at_ := ⟨_, _, _, _, _, _, _, _, _, _, _, _, _, by with_unfolding_all exact rfl, by with_unfolding_all exact rfl, fun ws h => by
    obtain ⟨x0, x1, rfl⟩ := len_2 h
    with_unfolding_all exact rfl⟩
  vars := rfl
  cells := rfl
  nodup := nodupB_true rfl
  loc := by exact allLoc_of (by with_unfolding_all exact rfl)
  kind := by with_unfolding_all exact rfl
  co := by with_unfolding_all exact rfl
  gen := by with_unfolding_all exact rfl
  cell := allKind_ne (by with_unfolding_all exact rfl)
theorem c_inv (w : World) (mean : ExcName → Option Value) (mg mb : Str → Option Value) : CallS (GG w mean mg mb) 2 (.ref 35) (pureF 2 3 b_inv.1) := callS_pure (d_inv w mean mg mb) rfl rfl (b_inv.2 w mean mg mb)
local macro_rules | `(tactic| walk_at "m_fn") => `(tactic| with_reducible exact c_inv _ _ _ _)

noncomputable def b_least : { f : Sv // ∀ w mean mg mb, SndSS (GG w mean mg mb) (scF w 42 0 ["n", "begin", "found"]) (stmtsOf (KK w 42)) f } := by
  refine' ⟨_, ?h⟩
  case h =>
    intro w mean mg mb
    walk_at "m_body"
theorem d_least (w : World) (mean : ExcName → Option Value) (mg mb : Str → Option Value) : DefAt (GG w mean mg mb) (scF w 42 0 ["n", "begin", "found"]) 42 (stmtsOf (KK w 42)) ["n", "begin"] ["found"] where
  at_ := ⟨_, _, _, _, _, _, _, _, _, _, _, _, _, by with_unfolding_all exact rfl, by with_unfolding_all exact rfl, fun ws h => by
    obtain ⟨x0, x1, rfl⟩ := len_2 h
    with_unfolding_all exact rfl⟩
  vars := rfl
  cells := rfl
  nodup := nodupB_true rfl
  loc := by exact allLoc_of (by with_unfolding_all exact rfl)
  kind := by with_unfolding_all exact rfl
  co := by with_unfolding_all exact rfl
  gen := by with_unfolding_all exact rfl
  cell := allKind_ne (by with_unfolding_all exact rfl)
theorem c_least (w : World) (mean : ExcName → Option Value) (mg mb : Str → Option Value) : CallS (GG w mean mg mb) 1 (.ref 42) (pureF 2 1 b_least.1) := callS_pure (d_least w mean mg mb) rfl rfl (b_least.2 w mean mg mb)
local macro_rules | `(tactic| walk_at "m_fn") => `(tactic| with_reducible exact c_least _ _ _ _)

noncomputable def b_isp : { f : Sv // ∀ w mean mg mb, SndSS (GG w mean mg mb) (scF w 49 1 ["n"]) (stmtsOf (KK w 49)) f } := by
  refine' ⟨_, ?h⟩
  case h =>
    intro w mean mg mb
    walk_at "m_body"
theorem d_isp (w : World) (mean : ExcName → Option Value) (mg mb : Str → Option Value) : DefAt (GG w mean mg mb) (scF w 49 1 ["n"]) 49 (stmtsOf (KK w 49)) ["n"] [] where
  at_ := ⟨_, _, _, _, _, _, _, _, _, _, _, _, _, by with_unfolding_all exact rfl, by with_unfolding_all exact rfl, fun ws h => by
    obtain ⟨x0, rfl⟩ := len_1 h
    with_unfolding_all exact rfl⟩
  vars := rfl
  cells := rfl
  nodup := nodupB_true rfl
  loc := by exact allLoc_of (by with_unfolding_all exact rfl)
  kind := by with_unfolding_all exact rfl
  co := by with_unfolding_all exact rfl
  gen := by with_unfolding_all exact rfl
  cell := allKind_ne (by with_unfolding_all exact rfl)
theorem c_isp (w : World) (mean : ExcName → Option Value) (mg mb : Str → Option Value) : CallS (GG w mean mg mb) 2 (.ref 49) (pureF 1 0 b_isp.1) := callS_pure (d_isp w mean mg mb) rfl rfl (b_isp.2 w mean mg mb)
local macro_rules | `(tactic| walk_at "m_fn") => `(tactic| with_reducible exact c_isp _ _ _ _)

noncomputable def b_pf : { f : Sv // ∀ w mean mg mb, SndSS (GG w mean mg mb) (scF w 56 1 ["n", "found", "prime", "many"]) (stmtsOf (KK w 56)) f } := by
  refine' ⟨_, ?h⟩
  case h =>
    intro w mean mg mb
    walk_at "m_body"
theorem d_pf (w : World) (mean : ExcName → Option Value) (mg mb : Str → Option Value) : DefAt (GG w mean mg mb) (scF w 56 1 ["n", "found", "prime", "many"]) 56 (stmtsOf (KK w 56)) ["n"] ["found", "prime", "many"] where
  at_ := ⟨_, _, _, _, _, _, _, _, _, _, _, _, _, by with_unfolding_all exact rfl, by with_unfolding_all exact rfl, fun ws h => by
    obtain ⟨x0, rfl⟩ := len_1 h
    with_unfolding_all exact rfl⟩
  vars := rfl
  cells := rfl
  nodup := nodupB_true rfl
  loc := by exact allLoc_of (by with_unfolding_all exact rfl)
  kind := by with_unfolding_all exact rfl
  co := by with_unfolding_all exact rfl
  gen := by with_unfolding_all exact rfl
  cell := allKind_ne (by with_unfolding_all exact rfl)
theorem c_pf (w : World) (mean : ExcName → Option Value) (mg mb : Str → Option Value) : CallS (GG w mean mg mb) 2 (.ref 56) (fnF 1 3 b_pf.1) := callS_def (d_pf w mean mg mb) rfl rfl (b_pf.2 w mean mg mb)
local macro_rules | `(tactic| walk_at "m_fn") => `(tactic| with_reducible exact c_pf _ _ _ _)

noncomputable def b_ch2 : { f : Sv // ∀ w mean mg mb, SndSS (GG w mean mg mb) (scF w 63 1 ["one", "other", "g", "s", "t", "joined"]) (stmtsOf (KK w 63)) f } := by
  refine' ⟨_, ?h⟩
  case h =>
    intro w mean mg mb
    walk_at "m_body"
theorem d_ch2 (w : World) (mean : ExcName → Option Value) (mg mb : Str → Option Value) : DefAt (GG w mean mg mb) (scF w 63 1 ["one", "other", "g", "s", "t", "joined"]) 63 (stmtsOf (KK w 63)) ["one", "other"] ["g", "s", "t", "joined"] where
  at_ := ⟨_, _, _, _, _, _, _, _, _, _, _, _, _, by with_unfolding_all exact rfl, by with_unfolding_all exact rfl, fun ws h => by
    obtain ⟨x0, x1, rfl⟩ := len_2 h
    with_unfolding_all exact rfl⟩
  vars := rfl
  cells := rfl
  nodup := nodupB_true rfl
  loc := by exact allLoc_of (by with_unfolding_all exact rfl)
  kind := by with_unfolding_all exact rfl
  co := by with_unfolding_all exact rfl
  gen := by with_unfolding_all exact rfl
  cell := allKind_ne (by with_unfolding_all exact rfl)
theorem c_ch2 (w : World) (mean : ExcName → Option Value) (mg mb : Str → Option Value) : CallS (GG w mean mg mb) 2 (.ref 63) (fnF 2 4 b_ch2.1) := callS_def (d_ch2 w mean mg mb) rfl rfl (b_ch2.2 w mean mg mb)
local macro_rules | `(tactic| walk_at "m_fn") => `(tactic| with_reducible exact c_ch2 _ _ _ _)

noncomputable def b_chi : { f : Sv // ∀ w mean mg mb, SndSS (GG w mean mg mb) (scF w 70 2 ["pairs", "found", "pair"]) (stmtsOf (KK w 70)) f } := by
  refine' ⟨_, ?h⟩
  case h =>
    intro w mean mg mb
    walk_at "m_body"
theorem d_chi (w : World) (mean : ExcName → Option Value) (mg mb : Str → Option Value) : DefAt (GG w mean mg mb) (scF w 70 2 ["pairs", "found", "pair"]) 70 (stmtsOf (KK w 70)) ["pairs"] ["found", "pair"] where
  at_ := ⟨_, _, _, _, _, _, _, _, _, _, _, _, _, by with_unfolding_all exact rfl, by with_unfolding_all exact rfl, fun ws h => by
    obtain ⟨x0, rfl⟩ := len_1 h
    with_unfolding_all exact rfl⟩
  vars := rfl
  cells := rfl
  nodup := nodupB_true rfl
  loc := by exact allLoc_of (by with_unfolding_all exact rfl)
  kind := by with_unfolding_all exact rfl
  co := by with_unfolding_all exact rfl
  gen := by with_unfolding_all exact rfl
  cell := allKind_ne (by with_unfolding_all exact rfl)
theorem c_chi (w : World) (mean : ExcName → Option Value) (mg mb : Str → Option Value) : CallS (GG w mean mg mb) 3 (.ref 70) (fnF 1 2 b_chi.1) := callS_def (d_chi w mean mg mb) rfl rfl (b_chi.2 w mean mg mb)
local macro_rules | `(tactic| walk_at "m_fn") => `(tactic| with_reducible exact c_chi _ _ _ _)

noncomputable def b_mtrim : { f : Sv // ∀ w mean mg mb, SndSS (GG w mean mg mb) (scF w 77 0 ["a", "many"]) (stmtsOf (KK w 77)) f } := by
  refine' ⟨_, ?h⟩
  case h =>
    intro w mean mg mb
    walk_at "m_body"
theorem d_mtrim (w : World) (mean : ExcName → Option Value) (mg mb : Str → Option Value) : DefAt (GG w mean mg mb) (scF w 77 0 ["a", "many"]) 77 (stmtsOf (KK w 77)) ["a"] ["many"] where
  at_ := ⟨_, _, _, _, _, _, _, _, _, _, _, _, _, by with_unfolding_all exact rfl, by with_unfolding_all exact rfl, fun ws h => by
    obtain ⟨x0, rfl⟩ := len_1 h
    with_unfolding_all exact rfl⟩
  vars := rfl
  cells := rfl
  nodup := nodupB_true rfl
  loc := by exact allLoc_of (by with_unfolding_all exact rfl)
  kind := by with_unfolding_all exact rfl
  co := by with_unfolding_all exact rfl
  gen := by with_unfolding_all exact rfl
  cell := allKind_ne (by with_unfolding_all exact rfl)
theorem c_mtrim (w : World) (mean : ExcName → Option Value) (mg mb : Str → Option Value) : CallS (GG w mean mg mb) 1 (.ref 77) (fnF 1 1 b_mtrim.1) := callS_def (d_mtrim w mean mg mb) rfl rfl (b_mtrim.2 w mean mg mb)
local macro_rules | `(tactic| walk_at "m_fn") => `(tactic| with_reducible exact c_mtrim _ _ _ _)

noncomputable def b_mmul : { f : Sv // ∀ w mean mg mb, SndSS (GG w mean mg mb) (scF w 84 1 ["a", "b", "p", "found", "at", "one", "spot", "other"]) (stmtsOf (KK w 84)) f } := by
  refine' ⟨_, ?h⟩
  case h =>
    intro w mean mg mb
    walk_at "m_body"
theorem d_mmul (w : World) (mean : ExcName → Option Value) (mg mb : Str → Option Value) : DefAt (GG w mean mg mb) (scF w 84 1 ["a", "b", "p", "found", "at", "one", "spot", "other"]) 84 (stmtsOf (KK w 84)) ["a", "b", "p"] ["found", "at", "one", "spot", "other"] where
  at_ := ⟨_, _, _, _, _, _, _, _, _, _, _, _, _, by with_unfolding_all exact rfl, by with_unfolding_all exact rfl, fun ws h => by
    obtain ⟨x0, x1, x2, rfl⟩ := len_3 h
    with_unfolding_all exact rfl⟩
  vars := rfl
  cells := rfl
  nodup := nodupB_true rfl
  loc := by exact allLoc_of (by with_unfolding_all exact rfl)
  kind := by with_unfolding_all exact rfl
  co := by with_unfolding_all exact rfl
  gen := by with_unfolding_all exact rfl
  cell := allKind_ne (by with_unfolding_all exact rfl)
theorem c_mmul (w : World) (mean : ExcName → Option Value) (mg mb : Str → Option Value) : CallS (GG w mean mg mb) 2 (.ref 84) (fnF 3 5 b_mmul.1) := callS_def (d_mmul w mean mg mb) rfl rfl (b_mmul.2 w mean mg mb)
local macro_rules | `(tactic| walk_at "m_fn") => `(tactic| with_reducible exact c_mmul _ _ _ _)

noncomputable def b_mdiv : { f : Sv // ∀ w mean mg mb, SndSS (GG w mean mg mb) (scF w 91 2 ["a", "b", "p", "rest", "quotient", "turn", "at", "number", "spot", "other"]) (stmtsOf (KK w 91)) f } := by
  refine' ⟨_, ?h⟩
  case h =>
    intro w mean mg mb
    walk_at "m_body"
theorem d_mdiv (w : World) (mean : ExcName → Option Value) (mg mb : Str → Option Value) : DefAt (GG w mean mg mb) (scF w 91 2 ["a", "b", "p", "rest", "quotient", "turn", "at", "number", "spot", "other"]) 91 (stmtsOf (KK w 91)) ["a", "b", "p"] ["rest", "quotient", "turn", "at", "number", "spot", "other"] where
  at_ := ⟨_, _, _, _, _, _, _, _, _, _, _, _, _, by with_unfolding_all exact rfl, by with_unfolding_all exact rfl, fun ws h => by
    obtain ⟨x0, x1, x2, rfl⟩ := len_3 h
    with_unfolding_all exact rfl⟩
  vars := rfl
  cells := rfl
  nodup := nodupB_true rfl
  loc := by exact allLoc_of (by with_unfolding_all exact rfl)
  kind := by with_unfolding_all exact rfl
  co := by with_unfolding_all exact rfl
  gen := by with_unfolding_all exact rfl
  cell := allKind_ne (by with_unfolding_all exact rfl)
theorem c_mdiv (w : World) (mean : ExcName → Option Value) (mg mb : Str → Option Value) : CallS (GG w mean mg mb) 3 (.ref 91) (fnF 3 7 b_mdiv.1) := callS_def (d_mdiv w mean mg mb) rfl rfl (b_mdiv.2 w mean mg mb)
local macro_rules | `(tactic| walk_at "m_fn") => `(tactic| with_reducible exact c_mdiv _ _ _ _)

noncomputable def b_mrest : { f : Sv // ∀ w mean mg mb, SndSS (GG w mean mg mb) (scF w 98 3 ["a", "b", "p"]) (stmtsOf (KK w 98)) f } := by
  refine' ⟨_, ?h⟩
  case h =>
    intro w mean mg mb
    walk_at "m_body"
theorem d_mrest (w : World) (mean : ExcName → Option Value) (mg mb : Str → Option Value) : DefAt (GG w mean mg mb) (scF w 98 3 ["a", "b", "p"]) 98 (stmtsOf (KK w 98)) ["a", "b", "p"] [] where
  at_ := ⟨_, _, _, _, _, _, _, _, _, _, _, _, _, by with_unfolding_all exact rfl, by with_unfolding_all exact rfl, fun ws h => by
    obtain ⟨x0, x1, x2, rfl⟩ := len_3 h
    with_unfolding_all exact rfl⟩
  vars := rfl
  cells := rfl
  nodup := nodupB_true rfl
  loc := by exact allLoc_of (by with_unfolding_all exact rfl)
  kind := by with_unfolding_all exact rfl
  co := by with_unfolding_all exact rfl
  gen := by with_unfolding_all exact rfl
  cell := allKind_ne (by with_unfolding_all exact rfl)
theorem c_mrest (w : World) (mean : ExcName → Option Value) (mg mb : Str → Option Value) : CallS (GG w mean mg mb) 4 (.ref 98) (fnF 3 0 b_mrest.1) := callS_def (d_mrest w mean mg mb) rfl rfl (b_mrest.2 w mean mg mb)
local macro_rules | `(tactic| walk_at "m_fn") => `(tactic| with_reducible exact c_mrest _ _ _ _)

noncomputable def b_mpow : { f : Sv // ∀ w mean mg mb, SndSS (GG w mean mg mb) (scF w 105 4 ["a", "n", "f", "p", "found", "square"]) (stmtsOf (KK w 105)) f } := by
  refine' ⟨_, ?h⟩
  case h =>
    intro w mean mg mb
    walk_at "m_body"
theorem d_mpow (w : World) (mean : ExcName → Option Value) (mg mb : Str → Option Value) : DefAt (GG w mean mg mb) (scF w 105 4 ["a", "n", "f", "p", "found", "square"]) 105 (stmtsOf (KK w 105)) ["a", "n", "f", "p"] ["found", "square"] where
  at_ := ⟨_, _, _, _, _, _, _, _, _, _, _, _, _, by with_unfolding_all exact rfl, by with_unfolding_all exact rfl, fun ws h => by
    obtain ⟨x0, x1, x2, x3, rfl⟩ := len_4 h
    with_unfolding_all exact rfl⟩
  vars := rfl
  cells := rfl
  nodup := nodupB_true rfl
  loc := by exact allLoc_of (by with_unfolding_all exact rfl)
  kind := by with_unfolding_all exact rfl
  co := by with_unfolding_all exact rfl
  gen := by with_unfolding_all exact rfl
  cell := allKind_ne (by with_unfolding_all exact rfl)
theorem c_mpow (w : World) (mean : ExcName → Option Value) (mg mb : Str → Option Value) : CallS (GG w mean mg mb) 5 (.ref 105) (fnF 4 2 b_mpow.1) := callS_def (d_mpow w mean mg mb) rfl rfl (b_mpow.2 w mean mg mb)
local macro_rules | `(tactic| walk_at "m_fn") => `(tactic| with_reducible exact c_mpow _ _ _ _)

noncomputable def b_common : { f : Sv // ∀ w mean mg mb, SndSS (GG w mean mg mb) (scF w 119 0 ["a", "b"]) (stmtsOf (KK w 119)) f } := by
  refine' ⟨_, ?h⟩
  case h =>
    intro w mean mg mb
    walk_at "m_body"
theorem d_common (w : World) (mean : ExcName → Option Value) (mg mb : Str → Option Value) : DefAt (GG w mean mg mb) (scF w 119 0 ["a", "b"]) 119 (stmtsOf (KK w 119)) ["a", "b"] [] where
  at_ := ⟨_, _, _, _, _, _, _, _, _, _, _, _, _, by with_unfolding_all exact rfl, by with_unfolding_all exact rfl, fun ws h => by
    obtain ⟨x0, x1, rfl⟩ := len_2 h
    with_unfolding_all exact rfl⟩
  vars := rfl
  cells := rfl
  nodup := nodupB_true rfl
  loc := by exact allLoc_of (by with_unfolding_all exact rfl)
  kind := by with_unfolding_all exact rfl
  co := by with_unfolding_all exact rfl
  gen := by with_unfolding_all exact rfl
  cell := allKind_ne (by with_unfolding_all exact rfl)
theorem c_common (w : World) (mean : ExcName → Option Value) (mg mb : Str → Option Value) : CallS (GG w mean mg mb) 1 (.ref 119) (pureF 2 0 b_common.1) := callS_pure (d_common w mean mg mb) rfl rfl (b_common.2 w mean mg mb)
local macro_rules | `(tactic| walk_at "m_fn") => `(tactic| with_reducible exact c_common _ _ _ _)

noncomputable def b_odd : { f : Sv // ∀ w mean mg mb, SndSS (GG w mean mg mb) (scF w 126 0 ["number", "many"]) (stmtsOf (KK w 126)) f } := by
  refine' ⟨_, ?h⟩
  case h =>
    intro w mean mg mb
    walk_at "m_body"
theorem d_odd (w : World) (mean : ExcName → Option Value) (mg mb : Str → Option Value) : DefAt (GG w mean mg mb) (scF w 126 0 ["number", "many"]) 126 (stmtsOf (KK w 126)) ["number"] ["many"] where
  at_ := ⟨_, _, _, _, _, _, _, _, _, _, _, _, _, by with_unfolding_all exact rfl, by with_unfolding_all exact rfl, fun ws h => by
    obtain ⟨x0, rfl⟩ := len_1 h
    with_unfolding_all exact rfl⟩
  vars := rfl
  cells := rfl
  nodup := nodupB_true rfl
  loc := by exact allLoc_of (by with_unfolding_all exact rfl)
  kind := by with_unfolding_all exact rfl
  co := by with_unfolding_all exact rfl
  gen := by with_unfolding_all exact rfl
  cell := allKind_ne (by with_unfolding_all exact rfl)
theorem c_odd (w : World) (mean : ExcName → Option Value) (mg mb : Str → Option Value) : CallS (GG w mean mg mb) 1 (.ref 126) (fnF 1 1 b_odd.1) := callS_def (d_odd w mean mg mb) rfl rfl (b_odd.2 w mean mg mb)
local macro_rules | `(tactic| walk_at "m_fn") => `(tactic| with_reducible exact c_odd _ _ _ _)

noncomputable def b_passes : { f : Sv // ∀ w mean mg mb, SndSS (GG w mean mg mb) (scF w 133 1 ["a", "n", "d", "many", "here", "turn"]) (stmtsOf (KK w 133)) f } := by
  refine' ⟨_, ?h⟩
  case h =>
    intro w mean mg mb
    walk_at "m_body"
theorem d_passes (w : World) (mean : ExcName → Option Value) (mg mb : Str → Option Value) : DefAt (GG w mean mg mb) (scF w 133 1 ["a", "n", "d", "many", "here", "turn"]) 133 (stmtsOf (KK w 133)) ["a", "n", "d", "many"] ["here", "turn"] where
  at_ := ⟨_, _, _, _, _, _, _, _, _, _, _, _, _, by with_unfolding_all exact rfl, by with_unfolding_all exact rfl, fun ws h => by
    obtain ⟨x0, x1, x2, x3, rfl⟩ := len_4 h
    with_unfolding_all exact rfl⟩
  vars := rfl
  cells := rfl
  nodup := nodupB_true rfl
  loc := by exact allLoc_of (by with_unfolding_all exact rfl)
  kind := by with_unfolding_all exact rfl
  co := by with_unfolding_all exact rfl
  gen := by with_unfolding_all exact rfl
  cell := allKind_ne (by with_unfolding_all exact rfl)
theorem c_passes (w : World) (mean : ExcName → Option Value) (mg mb : Str → Option Value) : CallS (GG w mean mg mb) 2 (.ref 133) (pureF 4 2 b_passes.1) := callS_pure (d_passes w mean mg mb) rfl rfl (b_passes.2 w mean mg mb)
local macro_rules | `(tactic| walk_at "m_fn") => `(tactic| with_reducible exact c_passes _ _ _ _)

noncomputable def b_monier : { f : Sv // ∀ w mean mg mb, SndSS (GG w mean mg mb) (scF w 138 1 ["primes", "d", "odds", "least", "size", "found", "odd", "many"]) (stmtsOf (KK w 138)) f } := by
  refine' ⟨_, ?h⟩
  case h =>
    intro w mean mg mb
    walk_at "m_body"
theorem d_monier (w : World) (mean : ExcName → Option Value) (mg mb : Str → Option Value) : DefAt (GG w mean mg mb) (scF w 138 1 ["primes", "d", "odds", "least", "size", "found", "odd", "many"]) 138 (stmtsOf (KK w 138)) ["primes", "d"] ["odds", "least", "size", "found", "odd", "many"] where
  at_ := ⟨_, _, _, _, _, _, _, _, _, _, _, _, _, by with_unfolding_all exact rfl, by with_unfolding_all exact rfl, fun ws h => by
    obtain ⟨x0, x1, rfl⟩ := len_2 h
    with_unfolding_all exact rfl⟩
  vars := rfl
  cells := rfl
  nodup := nodupB_true rfl
  loc := by exact allLoc_of (by with_unfolding_all exact rfl)
  kind := by with_unfolding_all exact rfl
  co := by with_unfolding_all exact rfl
  gen := by with_unfolding_all exact rfl
  cell := allKind_ne (by with_unfolding_all exact rfl)
theorem c_monier (w : World) (mean : ExcName → Option Value) (mg mb : Str → Option Value) : CallS (GG w mean mg mb) 2 (.ref 138) (fnF 2 6 b_monier.1) := callS_def (d_monier w mean mg mb) rfl rfl (b_monier.2 w mean mg mb)

local macro_rules | `(tactic| walk_at "m_fn") => `(tactic| with_reducible exact c_monier _ _ _ _)

noncomputable abbrev scL (w : World) : Sc := ⟨5, scopeOf (KK w 143), ["script", "box", "pairs", "product", "fermat", "apart", "strong", "golden", "rests", "told"], [("n", 0), ("d", 1), ("many", 2), ("p", 3), ("times", 4)]⟩
noncomputable def b_law : { f : Sv // ∀ w mean mg mb, SndSS (GG w mean mg mb) (scL w) ((stmtsOf (KK w 143)).drop 2) f } := by
  refine' ⟨_, ?h⟩
  case h =>
    intro w mean mg mb
    walk_at "m_body"

def isT (v : V) : Bool := match v with | .bool b => b | _ => false
def hp0 (n : Int) : Hp := [(4, .cel .undef), (3, .cel .undef), (2, .cel .undef), (1, .cel .undef), (0, .cel (.int n))]
noncomputable def evL (n : Int) : Bool := b_law.1 (List.replicate 10 .undef) (hp0 n) (fun _ _ => false) (fun v _ => isT v)

def five (c0 c1 c2 c3 c4 : Addr) : Ad := ⟨fun k => match k with | 0 => c0 | 1 => c1 | 2 => c2 | 3 => c3 | _ => c4, 5⟩
theorem five_rel {h₀ h : Heap} {L : Addr} {m : Str → Option Value} {news : List (Addr × Obj)} {c0 c1 c2 c3 c4 : Addr} {o0 o1 o2 o3 o4 : Obj} {n : Int} {t : Tok} (F : Fr h₀ L h m) (N : News h₀ L h news)
    (m0 : (c0, o0) ∈ news) (m1 : (c1, o1) ∈ news) (m2 : (c2, o2) ∈ news) (m3 : (c3, o3) ∈ news) (m4 : (c4, o4) ∈ news)
    (d0 : o0.data = .cell (some (.int n t))) (d1 : o1.data = .cell none) (d2 : o2.data = .cell none) (d3 : o3.data = .cell none) (d4 : o4.data = .cell none)
    (lt : c0 < c1 ∧ c1 < c2 ∧ c2 < c3 ∧ c3 < c4) : Rel h₀ L m [] (fun _ => none) (five c0 c1 c2 c3 c4) (hp0 n) h := by
  obtain ⟨l1, l2, l3, l4⟩ := lt
  have q0 := N _ m0
  have q1 := N _ m1
  have q2 := N _ m2
  have q3 := N _ m3
  have q4 := N _ m4
  refine ⟨F, (fun p hp => nomatch hp), fun k hk => ?_, fun i j hi hj e => ?_, fun k c hc => ?_, rfl⟩
  · have hk : k < 5 := hk
    match k, hk with
    | 0, _ => exact ⟨q0.2.1, q0.2.2, (fun q hq => nomatch hq), _, q0.1⟩
    | 1, _ => exact ⟨q1.2.1, q1.2.2, (fun q hq => nomatch hq), _, q1.1⟩
    | 2, _ => exact ⟨q2.2.1, q2.2.2, (fun q hq => nomatch hq), _, q2.1⟩
    | 3, _ => exact ⟨q3.2.1, q3.2.2, (fun q hq => nomatch hq), _, q3.1⟩
    | 4, _ => exact ⟨q4.2.1, q4.2.2, (fun q hq => nomatch hq), _, q4.1⟩
  · have hi : i < 5 := hi
    have hj : j < 5 := hj
    have mono : ∀ i j : Nat, i < j → j < 5 → (five c0 c1 c2 c3 c4).f i < (five c0 c1 c2 c3 c4).f j := fun i j hij hj => by
      have e1 : Nat.lt c0 c1 := l1
      have e2 : Nat.lt c1 c2 := l2
      have e3 : Nat.lt c2 c3 := l3
      have e4 : Nat.lt c3 c4 := l4
      match i, j, hij, hj with
      | 0, 1, _, _ => exact e1
      | 0, 2, _, _ => exact Nat.lt_trans e1 e2
      | 0, 3, _, _ => exact Nat.lt_trans e1 (Nat.lt_trans e2 e3)
      | 0, 4, _, _ => exact Nat.lt_trans e1 (Nat.lt_trans e2 (Nat.lt_trans e3 e4))
      | 1, 2, _, _ => exact e2
      | 1, 3, _, _ => exact Nat.lt_trans e2 e3
      | 1, 4, _, _ => exact Nat.lt_trans e2 (Nat.lt_trans e3 e4)
      | 2, 3, _, _ => exact e3
      | 2, 4, _, _ => exact Nat.lt_trans e3 e4
      | 3, 4, _, _ => exact e4
      | i + 4, j, h, h' => exact absurd (Nat.lt_of_lt_of_le h (Nat.le_of_lt_succ h')) (by omega)
    rcases Nat.lt_trichotomy i j with h | h | h
    · have := mono i j h hj
      rw [e] at this
      exact absurd this (Nat.lt_irrefl _)
    · exact h
    · have := mono j i h hi
      rw [e] at this
      exact absurd this (Nat.lt_irrefl _)
  · match k with
    | 0 =>
      cases hc
      exact ⟨(by decide : 0 < 5), _, q0.1, .of (.cel _ d0 (.int n t))⟩
    | 1 =>
      cases hc
      exact ⟨(by decide : 1 < 5), _, q1.1, .of (.cel0 d1)⟩
    | 2 =>
      cases hc
      exact ⟨(by decide : 2 < 5), _, q2.1, .of (.cel0 d2)⟩
    | 3 =>
      cases hc
      exact ⟨(by decide : 3 < 5), _, q3.1, .of (.cel0 d3)⟩
    | 4 =>
      cases hc
      exact ⟨(by decide : 4 < 5), _, q4.1, .of (.cel0 d4)⟩
    | k + 5 =>
      simp [hp0, look] at hc

theorem law_tail {w : World} {mean : ExcName → Option Value} {mg mb : Str → Option Value} {A A₀ : Around} {h₀ base : Heap} {outer : List Env} {L : Addr} {env : Env} {rest : List Stmt} {s : Shared} {m : Str → Option Value} {news : List (Addr × Obj)} {Q : Flow → Shared → Prop} {E : Value → Shared → Prop}
    {c0 c1 c2 c3 c4 : Addr} {o0 o1 o2 o3 o4 : Obj} {n : Int} {t : Tok} (hrest : rest = (stmtsOf (KK w 143)).drop 2)
    (F : Fr h₀ L s.heap m) (N : News h₀ L s.heap news)
    (hcl : env.cells = ([(("times" : Str), c4), (("p" : Str), c3), (("many" : Str), c2), (("d" : Str), c1), (("n" : Str), c0)] : List (Str × Addr)))
    (m0 : (c0, o0) ∈ news) (m1 : (c1, o1) ∈ news) (m2 : (c2, o2) ∈ news) (m3 : (c3, o3) ∈ news) (m4 : (c4, o4) ∈ news)
    (d0 : o0.data = .cell (some (.int n t))) (d1 : o1.data = .cell none) (d2 : o2.data = .cell none) (d3 : o3.data = .cell none) (d4 : o4.data = .cell none)
    (lt : c0 < c1 ∧ c1 < c2 ∧ c2 < c3 ∧ c3 < c4)
    (K0 : Below A₀ base outer h₀) (hA : A.frames = some (env :: outer)) (hf : env.frame = some L) (hloc : env.locals = L) (hsc : env.scope = (scL w).scope) (hk : (scL w).scope.kind = .function) (gl : env.globals = mainGlobals) (bi : env.builtins = builtinsNs) (hh : A.handled = none)
    (X : (hd.heap_39 w.params).In h₀) (T : Top hd.view_39 (looseW hd.view_39 []) mean mg mb h₀) (dep : A.depth + 5 < recursionLimit) (un : A.units + 8 * 5 + 100 < cLine)
    (ev : evL n = true) (hQ : ∀ h' tk m', Fr h₀ L h' m' → News h₀ L h' [] → Q (.ret (.bool true)) { s with heap := h', toks := tk }) :
    wpAny (model PySem.Challenge.rw_tk0031_01.row.prog w) A (execs rest env) Q E s := by
  subst hrest
  let G : Gl := GG w mean mg mb
  let P := five c0 c1 c2 c3 c4
  let Fm₀ : Fm := ⟨A, h₀, L, env, m, [], fun _ => none, m⟩
  have R : FRel Fm₀ P (hp0 n) s.heap := five_rel F N m0 m1 m2 m3 m4 d0 d1 d2 d3 d4 lt
  have O : OK G (scL w) Fm₀ P (List.replicate 10 .undef) := {
    fr := { top := ⟨env, outer, A₀, base, K0, hA, hf, by rw [hsc]; exact hk⟩, hd := hh, X := X, T := T, depth := dep, units := un }
    scp := hsc
    gl := gl
    bi := bi
    kind := hk
    cur := .inl ⟨hloc, rfl⟩
    loc := fun i x v _ hv hn => absurd (List.eq_of_mem_replicate (List.mem_of_getElem? hv)) hn
    cel := fun x k hx => by
      show k < 5 ∧ env.cells.lookup x = some ((five c0 c1 c2 c3 c4).f k)
      rw [hcl]
      have hx := lookup_mem hx
      simp only [List.mem_cons, List.not_mem_nil, or_false, Prod.mk.injEq] at hx
      rcases hx with ⟨rfl, rfl⟩ | ⟨rfl, rfl⟩ | ⟨rfl, rfl⟩ | ⟨rfl, rfl⟩ | ⟨rfl, rfl⟩ <;> exact ⟨by decide, rfl⟩ }
  have z := b_law.2 w mean mg mb Fm₀ P (hp0 n) (List.replicate 10 .undef) s Q (fun _ _ => false) (fun v _ => isT v) O ⟨hloc, rfl⟩ R ev (fun _ _ _ _ _ _ h => by cases h) fun v u m' P' hp' h' tk hv l R' r => by
    cases r with
    | bool b =>
      have hv : b = true := hv
      subst hv
      exact hQ h' tk m' R'.fr (fun _ h => by cases h)
    | _ => cases hv
  exact wpAny_mono z (fun _ _ q => q) fun _ _ q => q.elim

theorem law_cut {w : World} {A : Around} {env : Env} {Q : Flow → Shared → Prop} {E : Value → Shared → Prop} {s : Shared} {st1 st2 : Stmt} {r' : List Stmt} (e : r' = (Mine.stmtsOf (Mine.KK w 143)).drop 2)
    (h : ∀ rest, rest = (Mine.stmtsOf (Mine.KK w 143)).drop 2 → wpAny (model PySem.Challenge.rw_tk0031_01.row.prog w) A (execs (st1 :: st2 :: rest) env) Q E s) : wpAny (model PySem.Challenge.rw_tk0031_01.row.prog w) A (execs (st1 :: st2 :: r') env) Q E s := h r' e
theorem ev0 : evL 45 = true := by decide +kernel
theorem ev1 : evL 43 = true := by decide +kernel
theorem ev2 : evL 41 = true := by decide +kernel
theorem ev3 : evL 39 = true := by decide +kernel
theorem ev4 : evL 37 = true := by decide +kernel
theorem ev5 : evL 35 = true := by decide +kernel
theorem ev6 : evL 33 = true := by decide +kernel
theorem ev7 : evL 31 = true := by decide +kernel
theorem ev8 : evL 29 = true := by decide +kernel
theorem ev9 : evL 27 = true := by decide +kernel
theorem ev10 : evL 25 = true := by decide +kernel
theorem ev11 : evL 23 = true := by decide +kernel
theorem ev12 : evL 21 = true := by decide +kernel
theorem ev13 : evL 19 = true := by decide +kernel
theorem ev14 : evL 17 = true := by decide +kernel
theorem ev15 : evL 15 = true := by decide +kernel
theorem ev16 : evL 13 = true := by decide +kernel
theorem ev17 : evL 11 = true := by decide +kernel
theorem ev18 : evL 9 = true := by decide +kernel
theorem ev_nat : ∀ k : Nat, k < 19 → evL (45 - 2 * (k : Int)) = true
  | 0, _ => ev0
  | 1, _ => ev1
  | 2, _ => ev2
  | 3, _ => ev3
  | 4, _ => ev4
  | 5, _ => ev5
  | 6, _ => ev6
  | 7, _ => ev7
  | 8, _ => ev8
  | 9, _ => ev9
  | 10, _ => ev10
  | 11, _ => ev11
  | 12, _ => ev12
  | 13, _ => ev13
  | 14, _ => ev14
  | 15, _ => ev15
  | 16, _ => ev16
  | 17, _ => ev17
  | 18, _ => ev18
  | k + 19, h => absurd h (by omega)
theorem ev_all (x : Int) : evL (45 - 2 * x.fmod 19) = true := by
  have h1 : 0 ≤ x.fmod 19 := Int.fmod_nonneg_of_pos x (by decide)
  have h2 : x.fmod 19 < 19 := Int.fmod_lt_of_pos x (by decide)
  obtain ⟨k, hk⟩ := Int.eq_ofNat_of_zero_le h1
  rw [hk] at h2 ⊢
  exact ev_nat k (by omega)

end Mine

open PySem PySem.W PyProof.Rows
theorem PySem.Challenge.cw_tk0031_01_holds : PySem.Challenge.rw_tk0031_01.Holds := by
  refine hd ?_
  k_go0
  (all_goals try k_fold)
  refine Mine.law_cut (by with_unfolding_all exact rfl) ?_
  intro rest hrest
  k_steps
  all_goals
    refine' Mine.law_tail hrest ?F ?N ?cl ?m0 ?m1 ?m2 ?m3 ?m4 ?d0 ?d1 ?d2 ?d3 ?d4 ?lt ?K0 ?hA ?hf ?hloc ?hsc ?hk ?gl ?bi ?hh ?X ?T ?dep ?un ?ev ?hQ
    case F => k_asm
    case N => k_asm
    case cl => with_unfolding_all exact rfl
    case m0 => k_mem
    case m1 => k_mem
    case m2 => k_mem
    case m3 => k_mem
    case m4 => k_mem
    case d0 => assumption
    case d1 => with_unfolding_all assumption
    case d2 => with_unfolding_all assumption
    case d3 => with_unfolding_all assumption
    case d4 => with_unfolding_all assumption
    case lt => exact ⟨Nat.lt_succ_self _, Nat.lt_succ_self _, Nat.lt_succ_self _, Nat.lt_succ_self _⟩
    case K0 => assumption
    case hA => with_unfolding_all exact rfl
    case hf => exact rfl
    case hloc => exact rfl
    case hsc => with_unfolding_all exact rfl
    case hk => with_unfolding_all exact rfl
    case gl => exact rfl
    case bi => exact rfl
    case hh => exact rfl
    case X => assumption
    case T => assumption
    case dep => exact Nat.le_of_ble_eq_true rfl
    case un => exact Nat.le_of_ble_eq_true rfl
    case ev => exact Mine.ev_all _
    case hQ => 
      intro h' tk m' F' N'
      k_steps
      all_goals (try k_data)
      all_goals w_report
