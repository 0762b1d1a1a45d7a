import PyProof.Rows.All
import Wide.All
import OpenK.AllK
import Wide.FinOn
import PySem.Challenge.RW_xw0116_01
set_option Elab.async false
set_option maxRecDepth 100000
set_option linter.unusedVariables false
-- part M1
section
namespace Mine
open PySem PySem.W PySem.Spec PySem.Calls PyProof.Rows

/-! values and objects of the small machine -/
inductive V where
  | int (i : Int) | bool (b : Bool) | none | ref (k : Nat) | glob (a : Nat) | unb

inductive O where
  | list (xs : List V) | tup (xs : List V) | cell (v : V) | clo (c : Nat) (cs : List Nat) | tab (k : Nat) (c : Option Nat) | code

noncomputable abbrev Hp := List (Nat × O)

noncomputable def VR (n : Nat) (ρ : Nat → Addr) : V → Value → Prop
  | .int i, v => ∃ t, v = .int i t
  | .bool b, v => v = .bool b
  | .none, v => v = .none
  | .ref k, v => k < n ∧ v = .ref (ρ k)
  | .glob a, v => v = .ref a
  | .unb, _ => False

noncomputable def VRs (n : Nat) (ρ : Nat → Addr) : List V → List Value → Prop
  | [], [] => True
  | p :: ps, v :: vs => VR n ρ p v ∧ VRs n ρ ps vs
  | _, _ => False

structure Ext (n : Nat) (ρ : Nat → Addr) (n' : Nat) (ρ' : Nat → Addr) : Prop where
  le : n ≤ n'
  eq : ∀ k, k < n → ρ' k = ρ k
theorem Ext.refl {n : Nat} {ρ : Nat → Addr} : Ext n ρ n ρ := ⟨Nat.le_refl _, fun _ _ => rfl⟩
theorem Ext.trans {n n' n'' : Nat} {ρ ρ' ρ'' : Nat → Addr} (a : Ext n ρ n' ρ') (b : Ext n' ρ' n'' ρ'') : Ext n ρ n'' ρ'' :=
  ⟨Nat.le_trans a.le b.le, fun k h => (b.eq k (Nat.lt_of_lt_of_le h a.le)).trans (a.eq k h)⟩

theorem VR.ext {n n' : Nat} {ρ ρ' : Nat → Addr} (e : Ext n ρ n' ρ') {p : V} {v : Value} (h : VR n ρ p v) : VR n' ρ' p v := by
  cases p with
  | ref k => exact ⟨Nat.lt_of_lt_of_le h.1 e.le, by rw [e.eq k h.1]; exact h.2⟩
  | int i => exact h
  | bool b => exact h
  | none => exact h
  | glob a => exact h
  | unb => exact h
theorem VRs.ext {n n' : Nat} {ρ ρ' : Nat → Addr} (e : Ext n ρ n' ρ') : ∀ {ps : List V} {vs : List Value}, VRs n ρ ps vs → VRs n' ρ' ps vs
  | [], [], _ => trivial
  | _ :: _, _ :: _, h => ⟨h.1.ext e, VRs.ext e h.2⟩
  | [], _ :: _, h => h.elim
  | _ :: _, [], h => h.elim
theorem VRs.length {n : Nat} {ρ : Nat → Addr} : ∀ {ps : List V} {vs : List Value}, VRs n ρ ps vs → vs.length = ps.length
  | [], [], _ => rfl
  | _ :: ps, _ :: vs, h => by rw [List.length_cons, List.length_cons, VRs.length h.2]
  | [], _ :: _, h => h.elim
  | _ :: _, [], h => h.elim
theorem VRs.get {n : Nat} {ρ : Nat → Addr} : ∀ {ps : List V} {vs : List Value}, VRs n ρ ps vs → ∀ {i : Nat} {p : V}, ps[i]? = some p → ∃ v, vs[i]? = some v ∧ VR n ρ p v
  | [], _, _, i, p, e => by cases i <;> cases e
  | _ :: _, [], h, _, _, _ => h.elim
  | q :: ps, v :: vs, h, 0, p, e => by cases e; exact ⟨v, rfl, h.1⟩
  | q :: ps, v :: vs, h, i + 1, p, e => VRs.get h.2 (by simpa using e)
theorem VRs.set {n : Nat} {ρ : Nat → Addr} {p : V} {v : Value} (hv : VR n ρ p v) : ∀ {ps : List V} {vs : List Value}, VRs n ρ ps vs → ∀ i : Nat, VRs n ρ (ps.set i p) (vs.set i v)
  | [], [], _, _ => trivial
  | [], _ :: _, h, _ => h.elim
  | _ :: _, [], h, _ => h.elim
  | _ :: _, _ :: _, h, 0 => ⟨hv, h.2⟩
  | _ :: _, _ :: _, h, i + 1 => ⟨h.1, VRs.set hv h.2 i⟩
theorem VRs.append {n : Nat} {ρ : Nat → Addr} {qs : List V} {us : List Value} (hq : VRs n ρ qs us) : ∀ {ps : List V} {vs : List Value}, VRs n ρ ps vs → VRs n ρ (ps ++ qs) (vs ++ us)
  | [], [], _ => hq
  | [], _ :: _, h => h.elim
  | _ :: _, [], h => h.elim
  | _ :: _, _ :: _, h => ⟨h.1, VRs.append hq h.2⟩
theorem VRs.take {n : Nat} {ρ : Nat → Addr} : ∀ {ps : List V} {vs : List Value}, VRs n ρ ps vs → ∀ i : Nat, VRs n ρ (ps.take i) (vs.take i)
  | [], [], _, _ => by simp [VRs]
  | [], _ :: _, h, _ => h.elim
  | _ :: _, [], h, _ => h.elim
  | _ :: _, _ :: _, _, 0 => trivial
  | _ :: _, _ :: _, h, i + 1 => ⟨h.1, VRs.take h.2 i⟩
theorem VRs.drop {n : Nat} {ρ : Nat → Addr} : ∀ {ps : List V} {vs : List Value}, VRs n ρ ps vs → ∀ i : Nat, VRs n ρ (ps.drop i) (vs.drop i)
  | [], [], _, _ => by simp [VRs]
  | [], _ :: _, h, _ => h.elim
  | _ :: _, [], h, _ => h.elim
  | _ :: _, _ :: _, h, 0 => h
  | _ :: _, _ :: _, h, i + 1 => VRs.drop h.2 i
theorem VRs.reverse {n : Nat} {ρ : Nat → Addr} : ∀ {ps : List V} {vs : List Value}, VRs n ρ ps vs → VRs n ρ ps.reverse vs.reverse
  | [], [], _ => trivial
  | [], _ :: _, h => h.elim
  | _ :: _, [], h => h.elim
  | _ :: _, _ :: _, h => by
    rw [List.reverse_cons, List.reverse_cons]
    exact VRs.append (qs := [_]) (us := [_]) (And.intro h.1 trivial) (VRs.reverse h.2)
theorem VRs.replicate {n : Nat} {ρ : Nat → Addr} {p : V} {v : Value} (h : VR n ρ p v) : ∀ k : Nat, VRs n ρ (List.replicate k p) (List.replicate k v)
  | 0 => trivial
  | k + 1 => ⟨h, VRs.replicate h k⟩


/-- the closure's parts that the machine must know: given by the text -/
structure CloInfo where
  name : Str
  qual : Str
  params : Arguments
  body : List Stmt
  scope : Scope
  names : List Str
  pos : Pos
  tabAt : Addr

noncomputable def OR (I : CloInfo) (n : Nat) (ρ : Nat → Addr) : O → Obj → Prop
  | .list xs, ob => ∃ vs e, ob = W.listOf (List.toArray vs) e ∧ VRs n ρ xs vs
  | .tup xs, ob => ∃ vs e, (ob.cls = .type "tuple" ∧ ob.data = .seq (List.toArray vs) e) ∧ VRs n ρ xs vs
  | .cell v, ob => ∃ val, ob.data = .cell (some val) ∧ VR n ρ v val
  | .clo c cs, ob => c < n ∧ (∀ k ∈ cs, k < n) ∧ ∃ doc pm ctv, ob = fnMade I.name I.qual I.params I.body I.scope (I.names.zip (cs.map ρ)) doc pm (ρ c) ctv
  | .tab k c, ob => (k < n ∧ ρ k = I.tabAt) ∧ match c with
    | none => ob = tabObj #[]
    | some c => c < n ∧ ob = tabObj #[rawInt I.pos.line, rawInt I.pos.col, .ref (ρ c)]
  | .code, ob => ∃ vs t, ob.data = .fields vs ∧ vs[1]? = some (.str I.qual t)

theorem map_eq_of {α β : Type} {f g : α → β} : ∀ {l : List α}, (∀ x ∈ l, f x = g x) → l.map f = l.map g
  | [], _ => rfl
  | x :: l, h => by rw [List.map_cons, List.map_cons, h x (.head _), map_eq_of fun y hy => h y (.tail _ hy)]

theorem OR.ext {I : CloInfo} {n n' : Nat} {ρ ρ' : Nat → Addr} (e : Ext n ρ n' ρ') {o : O} {ob : Obj} (h : OR I n ρ o ob) : OR I n' ρ' o ob := by
  cases o with
  | list xs => obtain ⟨vs, ep, h1, h2⟩ := h; exact ⟨vs, ep, h1, h2.ext e⟩
  | tup xs => obtain ⟨vs, ep, h1, h2⟩ := h; exact ⟨vs, ep, h1, h2.ext e⟩
  | cell v => obtain ⟨val, h1, h2⟩ := h; exact ⟨val, h1, h2.ext e⟩
  | clo c cs =>
    obtain ⟨h1, h2, doc, pm, ctv, h3⟩ := h
    refine ⟨Nat.lt_of_lt_of_le h1 e.le, fun k hk => Nat.lt_of_lt_of_le (h2 k hk) e.le, doc, pm, ctv, ?_⟩
    rw [h3, e.eq c h1, map_eq_of (f := ρ) (g := ρ') (l := cs) fun k hk => (e.eq k (h2 k hk)).symm]
  | tab k c =>
    obtain ⟨⟨h1, h2⟩, h⟩ := h
    refine ⟨⟨Nat.lt_of_lt_of_le h1 e.le, by rw [e.eq k h1]; exact h2⟩, ?_⟩
    cases c with
    | none => exact h
    | some c => exact ⟨Nat.lt_of_lt_of_le h.1 e.le, by rw [e.eq c h.1]; exact h.2⟩
  | code => exact h

/-- the machine's heap and the ledger, entry by entry -/
inductive LL (I : CloInfo) (n : Nat) (ρ : Nat → Addr) : Hp → List (Addr × Obj) → Prop
  | nil : LL I n ρ [] []
  | cons {k : Nat} {o : O} {ob : Obj} {os : Hp} {l : List (Addr × Obj)} : k < n → OR I n ρ o ob → LL I n ρ os l → LL I n ρ ((k, o) :: os) ((ρ k, ob) :: l)

theorem LL.ext {I : CloInfo} {n n' : Nat} {ρ ρ' : Nat → Addr} (e : Ext n ρ n' ρ') {os : Hp} {l : List (Addr × Obj)} (h : LL I n ρ os l) : LL I n' ρ' os l := by
  induction h with
  | nil => exact .nil
  | cons hk ho _ ih => rw [← e.eq _ hk]; exact .cons (Nat.lt_of_lt_of_le hk e.le) (ho.ext e) ih

noncomputable def hLook : Hp → Nat → Option O
  | [], _ => none
  | (i, o) :: r, k => match Nat.beq i k with
    | true => some o
    | false => hLook r k
noncomputable def hPut : Hp → Nat → O → Hp
  | [], _, _ => []
  | (i, o') :: r, k, o => match Nat.beq i k with
    | true => (i, o) :: r
    | false => (i, o') :: hPut r k o

theorem beq_tt {i k : Nat} (h : Nat.beq i k = true) : i = k := Nat.eq_of_beq_eq_true h
theorem beq_ff {i k : Nat} (h : Nat.beq i k = false) : i ≠ k := Nat.ne_of_beq_eq_false h

theorem LL.look {I : CloInfo} {n : Nat} {ρ : Nat → Addr} {os : Hp} {l : List (Addr × Obj)} (h : LL I n ρ os l) {k : Nat} {o : O} (e : hLook os k = some o) : ∃ ob, (ρ k, ob) ∈ l ∧ OR I n ρ o ob ∧ k < n := by
  induction h with
  | nil => cases e
  | @cons i o' ob os l hk ho _ ih =>
    unfold hLook at e
    cases q : Nat.beq i k with
    | true => rw [q] at e; cases e; have := beq_tt q; subst this; exact ⟨ob, .head _, ho, hk⟩
    | false => rw [q] at e; obtain ⟨ob', h1, h2⟩ := ih e; exact ⟨ob', .tail _ h1, h2⟩

noncomputable def setL (d : Addr) (o' : Obj) (l : List (Addr × Obj)) : List (Addr × Obj) := l.map fun p => if p.1 = d then (d, o') else p
theorem setL_fst (d : Addr) (o' : Obj) (l : List (Addr × Obj)) : (setL d o' l).map (·.1) = l.map (·.1) := by
  unfold setL
  rw [List.map_map]
  refine map_eq_of fun p _ => ?_
  show (if p.1 = d then (d, o') else p).1 = p.1
  split
  · rename_i h; exact h.symm
  · rfl
theorem setL_away {d : Addr} {o' : Obj} {l : List (Addr × Obj)} (h : d ∉ l.map (·.1)) : setL d o' l = l := by
  induction l with
  | nil => rfl
  | cons p l ih =>
    rw [List.map_cons, List.mem_cons] at h
    show (if p.1 = d then (d, o') else p) :: setL d o' l = p :: l
    rw [if_neg fun q => h (.inl q.symm), ih fun q => h (.inr q)]
theorem setL_append (d : Addr) (o' : Obj) (l l' : List (Addr × Obj)) : setL d o' (l ++ l') = setL d o' l ++ setL d o' l' := List.map_append

theorem LL.mem {I : CloInfo} {n : Nat} {ρ : Nat → Addr} {os : Hp} {l : List (Addr × Obj)} (h : LL I n ρ os l) : ∀ {k : Nat} {o : O}, (k, o) ∈ os → k < n ∧ ρ k ∈ l.map (·.1) := by
  induction h with
  | nil => intro k o q; cases q
  | cons hk _ _ ih =>
    intro k' o' q
    rcases List.mem_cons.mp q with q | q
    · cases q; exact ⟨hk, .head _⟩
    · exact ⟨(ih q).1, .tail _ (ih q).2⟩

theorem LL.put {I : CloInfo} {n : Nat} {ρ : Nat → Addr} {os : Hp} {l : List (Addr × Obj)} (h : LL I n ρ os l) {k : Nat} {o o' : O} {ob' : Obj} (e : hLook os k = some o) (ho' : OR I n ρ o' ob') (nd : (l.map (·.1)).Nodup) :
    LL I n ρ (hPut os k o') (setL (ρ k) ob' l) := by
  induction h with
  | nil => cases e
  | @cons i o₁ ob os l hk ho hl ih =>
    rw [List.map_cons, List.nodup_cons] at nd
    unfold hLook at e
    unfold hPut
    cases q : Nat.beq i k with
    | true =>
      have := beq_tt q
      subst this
      show LL I n ρ ((i, o') :: os) ((if ρ i = ρ i then (ρ i, ob') else (ρ i, ob)) :: setL (ρ i) ob' l)
      rw [if_pos rfl, setL_away nd.1]
      exact .cons hk ho' hl
    | false =>
      rw [q] at e
      obtain ⟨ob₂, hm, _⟩ := hl.look e
      have ne : ρ i ≠ ρ k := fun z => nd.1 (by show ρ i ∈ _; rw [z]; exact List.mem_map_of_mem (f := (·.1)) hm)
      show LL I n ρ ((i, o₁) :: hPut os k o') ((if ρ i = ρ k then (ρ k, ob') else (ρ i, ob)) :: setL (ρ k) ob' l)
      rw [if_neg ne]
      exact .cons hk ho (ih e nd.2)

/-- the machine's heap stands in the real one -/
structure Led (I : CloInfo) (h₀ : Heap) (L : Addr) (h : Heap) (n : Nat) (ρ : Nat → Addr) (os : Hp) (ex : List (Addr × Obj)) : Prop where
  led : ∃ l, LL I n ρ os l ∧ News h₀ L h (l ++ ex) ∧ ((l ++ ex).map (·.1)).Nodup

section
variable {I : CloInfo} {h₀ h h' : Heap} {L : Addr} {n : Nat} {ρ : Nat → Addr} {os : Hp} {ex : List (Addr × Obj)} {m : Str → Option Value}

theorem Led.keeps (D : Led I h₀ L h n ρ os ex) (hk : ∀ b o, h.get? b = some o → h'.get? b = some o) : Led I h₀ L h' n ρ os ex := by
  obtain ⟨l, h1, h2, h3⟩ := D.led
  exact ⟨l, h1, h2.keepsAll hk, h3⟩

theorem Led.at (D : Led I h₀ L h n ρ os ex) {k : Nat} {o : O} (e : hLook os k = some o) : ∃ ob, h.get? (ρ k) = some ob ∧ OR I n ρ o ob ∧ k < n ∧ ρ k ≠ L ∧ h₀.get? (ρ k) = none := by
  obtain ⟨l, h1, h2, _⟩ := D.led
  obtain ⟨ob, hm, ho, hk⟩ := h1.look e
  have z := h2 _ (List.mem_append_left _ hm)
  exact ⟨ob, z.1, ho, hk, z.2.1, z.2.2⟩

theorem Led.exAt (D : Led I h₀ L h n ρ os ex) {p : Addr × Obj} (hp : p ∈ ex) : h.get? p.1 = some p.2 ∧ p.1 ≠ L ∧ h₀.get? p.1 = none := by
  obtain ⟨l, _, h2, _⟩ := D.led
  exact h2 _ (List.mem_append_right _ hp)

/-- a store into an object of the machine's heap -/
theorem Led.put (D : Led I h₀ L h n ρ os ex) {k : Nat} {o o' : O} {ob' : Obj} (e : hLook os k = some o) (ho : OR I n ρ o' ob') (hs : Heap.SameBut (ρ k) h h') (hg : h'.get? (ρ k) = some ob') :
    Led I h₀ L h' n ρ (hPut os k o') ex := by
  obtain ⟨l, h1, h2, h3⟩ := D.led
  have hl : (l.map (·.1)).Nodup := by rw [List.map_append] at h3; exact (List.nodup_append.mp h3).1
  have hm : ρ k ∈ l.map (·.1) := by
    obtain ⟨ob, hm, _⟩ := h1.look e
    exact List.mem_map_of_mem (f := (·.1)) hm
  have hx : ρ k ∉ ex.map (·.1) := fun q => by
    rw [List.map_append] at h3
    exact (List.nodup_append.mp h3).2.2 _ hm _ q rfl
  refine ⟨setL (ρ k) ob' l, h1.put e ho hl, ?_, ?_⟩
  · have z := h2.replace hs hg
    have y : (l ++ ex).map (fun p => if p.1 = ρ k then (ρ k, ob') else p) = setL (ρ k) ob' l ++ ex := by
      show setL (ρ k) ob' (l ++ ex) = _
      rw [setL_append, setL_away hx]
    rw [y] at z; exact z
  · rw [List.map_append, setL_fst, ← List.map_append]; exact h3

/-- a new object of the machine's heap -/
theorem Led.new (F : Fr h₀ L h m) (D : Led I h₀ L h n ρ os ex) {o : O} {ob : Obj} {a : Addr} (ha : h.objs.size ≤ a) (hk : ∀ b o, h.get? b = some o → h'.get? b = some o) (hg : h'.get? a = some ob)
    (ho : OR I (n + 1) (fun k => if k = n then a else ρ k) o ob) : Led I h₀ L h' (n + 1) (fun k => if k = n then a else ρ k) ((n, o) :: os) ex ∧ Ext n ρ (n + 1) (fun k => if k = n then a else ρ k) := by
  have ee : Ext n ρ (n + 1) (fun k => if k = n then a else ρ k) := ⟨Nat.le_succ _, fun k hk => if_neg (Nat.ne_of_lt hk)⟩
  obtain ⟨l, h1, h2, h3⟩ := D.led
  refine ⟨⟨(a, ob) :: l, ?_, fun p hp => ?_, ?_⟩, ee⟩
  · have z := LL.cons (I := I) (k := n) (Nat.lt_succ_self n) ho (h1.ext ee)
    simp only [if_true] at z
    exact z
  · rcases List.mem_cons.mp hp with rfl | hp
    · exact ⟨hg, Nat.ne_of_gt (Nat.lt_of_lt_of_le F.ns.lt ha), Heap.get?_none_of_le (Nat.le_trans F.above (Nat.le_trans (Nat.le_of_lt F.ns.lt) ha))⟩
    · exact ⟨hk _ _ (h2 p hp).1, (h2 p hp).2⟩
  · rw [List.cons_append, List.map_cons]
    refine List.nodup_cons.mpr ⟨fun q => ?_, h3⟩
    obtain ⟨p, hp, e⟩ := List.mem_map.mp q
    have := Heap.lt_size (h2 p hp).1
    rw [show p.1 = a from e] at this
    exact absurd this (Nat.not_lt.mpr ha)

/-- one more entry aside -/
theorem Led.newEx (F : Fr h₀ L h m) (D : Led I h₀ L h n ρ os ex) {ob : Obj} {a : Addr} (ha : h.objs.size ≤ a) (hk : ∀ b o, h.get? b = some o → h'.get? b = some o) (hg : h'.get? a = some ob) :
    Led I h₀ L h' n ρ os ((a, ob) :: ex) := by
  obtain ⟨l, h1, h2, h3⟩ := D.led
  refine ⟨l, h1, fun p hp => ?_, ?_⟩
  · rcases List.mem_append.mp hp with hp | hp
    · have z := h2 p (List.mem_append_left _ hp); exact ⟨hk _ _ z.1, z.2⟩
    · rcases List.mem_cons.mp hp with rfl | hp
      · exact ⟨hg, Nat.ne_of_gt (Nat.lt_of_lt_of_le F.ns.lt ha), Heap.get?_none_of_le (Nat.le_trans F.above (Nat.le_trans (Nat.le_of_lt F.ns.lt) ha))⟩
      · have z := h2 p (List.mem_append_right _ hp); exact ⟨hk _ _ z.1, z.2⟩
  · have away : ∀ p ∈ l ++ ex, p.1 ≠ a := fun p hp e => by
      have := Heap.lt_size (h2 p hp).1
      rw [e] at this
      exact absurd this (Nat.not_lt.mpr ha)
    rw [List.map_append, List.nodup_append] at h3 ⊢
    rw [List.map_cons, List.nodup_cons]
    refine ⟨h3.1, ⟨fun q => ?_, h3.2.1⟩, fun x hx y hy => ?_⟩
    · obtain ⟨p, hp, e⟩ := List.mem_map.mp q
      exact away p (List.mem_append_right _ hp) e
    · rcases List.mem_cons.mp hy with rfl | hy
      · obtain ⟨p, hp, e⟩ := List.mem_map.mp hx
        rw [← e]; exact away p (List.mem_append_left _ hp)
      · exact h3.2.2 x hx y hy

/-- the head of what stands aside turns -/
theorem Led.turnEx {a : Addr} {ob ob' : Obj} (D : Led I h₀ L h n ρ os ((a, ob) :: ex)) (hs : Heap.SameBut a h h') (hg : h'.get? a = some ob') : Led I h₀ L h' n ρ os ((a, ob') :: ex) := by
  obtain ⟨l, h1, h2, h3⟩ := D.led
  rw [List.map_append, List.nodup_append, List.map_cons, List.nodup_cons] at h3
  have hl : a ∉ l.map (·.1) := fun q => h3.2.2 a q a (.head _) rfl
  refine ⟨l, h1, ?_, ?_⟩
  · have z := h2.replace hs hg
    have y : (l ++ (a, ob) :: ex).map (fun p => if p.1 = a then (a, ob') else p) = l ++ (a, ob') :: ex := by
      show setL a ob' (l ++ (a, ob) :: ex) = _
      rw [setL_append, setL_away hl]
      show l ++ ((if a = a then (a, ob') else (a, ob)) :: setL a ob' ex) = _
      rw [if_pos rfl, setL_away h3.2.1.1]
    rw [y] at z; exact z
  · rw [List.map_append, List.nodup_append, List.map_cons, List.nodup_cons]; exact h3
theorem Led.dropEx {p : Addr × Obj} (D : Led I h₀ L h n ρ os (p :: ex)) : Led I h₀ L h n ρ os ex := by
  obtain ⟨l, h1, h2, h3⟩ := D.led
  refine ⟨l, h1, fun q hq => h2 q ?_, ?_⟩
  · rcases List.mem_append.mp hq with hq | hq
    · exact List.mem_append_left _ hq
    · exact List.mem_append_right _ (.tail _ hq)
  · rw [List.map_append, List.nodup_append, List.map_cons, List.nodup_cons] at h3
    rw [List.map_append, List.nodup_append]
    exact ⟨h3.1, h3.2.1.2, fun x hx y hy => h3.2.2 x hx y (.tail _ hy)⟩
end

section
variable {I : CloInfo} {h₀ h h' : Heap} {L : Addr} {n : Nat} {ρ : Nat → Addr} {os : Hp} {ex : List (Addr × Obj)} {m : Str → Option Value}
/-- a new object by a rule of the library's that hands on the ledger -/
theorem LL.made {l : List (Addr × Obj)} {a : Addr} {o : O} {ob : Obj} (h1 : LL I n ρ os l) (h3 : ((l ++ ex).map (·.1)).Nodup) (N : News h₀ L h' ((a, ob) :: (l ++ ex))) (lt : ∀ p ∈ l ++ ex, p.1 < a) (ho : OR I n ρ o ob) :
    Led I h₀ L h' (n + 1) (fun k => if k = n then a else ρ k) ((n, o) :: os) ex ∧ Ext n ρ (n + 1) (fun k => if k = n then a else ρ k) := by
  have ee : Ext n ρ (n + 1) (fun k => if k = n then a else ρ k) := ⟨Nat.le_succ _, fun k hk => if_neg (Nat.ne_of_lt hk)⟩
  refine ⟨⟨(a, ob) :: l, ?_, N, ?_⟩, ee⟩
  · have z := LL.cons (I := I) (k := n) (Nat.lt_succ_self n) (ho.ext ee) (h1.ext ee)
    simp only [if_true] at z
    exact z
  · rw [List.cons_append, List.map_cons]
    refine List.nodup_cons.mpr ⟨fun q => ?_, h3⟩
    obtain ⟨p, hp, e⟩ := List.mem_map.mp q
    have := lt p hp
    rw [show p.1 = a from e] at this
    exact absurd this (Nat.lt_irrefl _)
theorem Led.list (D : Led I h₀ L h n ρ os ex) {k : Nat} {xs : List V} (e : hLook os k = some (.list xs)) : ∃ vs ep, h.get? (ρ k) = some (W.listOf (List.toArray vs) ep) ∧ h.IsList (ρ k) (List.toArray vs) ∧ VRs n ρ xs vs ∧ k < n := by
  obtain ⟨ob, h1, ⟨vs, ep, rfl, h4⟩, h5, _⟩ := D.at e
  exact ⟨vs, ep, h1, ⟨_, h1, rfl, ep, rfl⟩, h4, h5⟩
theorem Led.tup (D : Led I h₀ L h n ρ os ex) {k : Nat} {xs : List V} (e : hLook os k = some (.tup xs)) : ∃ vs, IsTup h (ρ k) (List.toArray vs) ∧ VRs n ρ xs vs ∧ k < n := by
  obtain ⟨ob, h1, ⟨vs, ep, ⟨h2, h3⟩, h4⟩, h5, _⟩ := D.at e
  exact ⟨vs, ⟨ob, h1, h2, ep, h3⟩, h4, h5⟩
end

/-- what may be dropped of the machine's heap -/
theorem LL.sublist {I : CloInfo} {n : Nat} {ρ : Nat → Addr} {os os' : Hp} (hs : List.Sublist os' os) : ∀ {l : List (Addr × Obj)}, LL I n ρ os l → ∃ l', LL I n ρ os' l' ∧ List.Sublist l' l := by
  induction hs with
  | slnil => intro l h; exact ⟨l, h, List.Sublist.refl _⟩
  | cons a _ ih =>
    intro l h
    cases h with
    | cons hk ho hl =>
      obtain ⟨l', h1, h2⟩ := ih hl
      exact ⟨l', h1, h2.cons _⟩
  | cons_cons a _ ih =>
    intro l h
    cases h with
    | cons hk ho hl =>
      obtain ⟨l', h1, h2⟩ := ih hl
      exact ⟨_, .cons hk ho h1, h2.cons_cons _⟩
theorem Led.sublist {I : CloInfo} {h₀ h : Heap} {L : Addr} {n : Nat} {ρ : Nat → Addr} {os os' : Hp} {ex : List (Addr × Obj)} (hs : List.Sublist os' os) (D : Led I h₀ L h n ρ os ex) : Led I h₀ L h n ρ os' ex := by
  obtain ⟨l, h1, h2, h3⟩ := D.led
  obtain ⟨l', k1, k2⟩ := h1.sublist hs
  refine ⟨l', k1, fun p hp => h2 p ?_, ?_⟩
  · exact ((k2.append (List.Sublist.refl ex)).subset) hp
  · exact ((k2.append (List.Sublist.refl ex)).map (·.1)).nodup h3
section
variable {I : CloInfo} {h₀ h h' : Heap} {L : Addr} {n : Nat} {ρ : Nat → Addr} {os : Hp} {ex : List (Addr × Obj)} {m : Str → Option Value}
/-- the head of what stands aside is lost -/
theorem Led.lostEx {a : Addr} {ob : Obj} (D : Led I h₀ L h n ρ os ((a, ob) :: ex)) (hx : Heap.ExtBut a h h') : Led I h₀ L h' n ρ os ex := by
  obtain ⟨l, h1, h2, h3⟩ := D.led
  rw [List.map_append, List.nodup_append, List.map_cons, List.nodup_cons] at h3
  refine ⟨l, h1, fun p hp => ?_, ?_⟩
  · have ne : p.1 ≠ a := by
      rcases List.mem_append.mp hp with q | q
      · exact h3.2.2 p.1 (List.mem_map_of_mem (f := (·.1)) q) a (.head _)
      · exact fun e => h3.2.1.1 (by show a ∈ _; rw [← e]; exact List.mem_map_of_mem (f := (·.1)) q)
    have z := h2 p (by
      rcases List.mem_append.mp hp with q | q
      · exact List.mem_append_left _ q
      · exact List.mem_append_right _ (.tail _ q))
    exact ⟨hx _ _ ne z.1, z.2⟩
  · rw [List.map_append, List.nodup_append]
    exact ⟨h3.1, h3.2.1.2, fun x hx y hy => h3.2.2 x hx y (.tail _ hy)⟩
theorem Fr.lost {a : Addr} (F : Fr h₀ L h m) (hL : a ≠ L) (hn : h₀.get? a = none) (hx : Heap.ExtBut a h h') : Fr h₀ L h' m :=
  ⟨F.ns.extBut hx (Ne.symm hL), fun b o e => hx b o (fun q => by rw [q, hn] at e; cases e) (F.keep b o e), F.above⟩
end
end Mine
end
-- part M2
section
namespace Mine
open PySem PySem.W PySem.Spec PySem.Calls PyProof.Rows

structure Gd where
  prog : Program
  w : World
  K : Frag
  p : Program
  loose : List Str
  mean : ExcName → Option Value
  mg : Str → Option Value
  mb : Str → Option Value
  I : CloInfo

structure Cx (G : Gd) where
  cn : Str
  cs : Scope
  L : Addr
  a : Addr
  ccd : Value
  cl : List (Str × Addr)
  outer : List Env
  A₀ : Around
  base : Heap
  h₀ : Heap
  B : Below A₀ base outer h₀
  X : G.K.In h₀
  T : Top G.p G.loose G.mean G.mg G.mb h₀
  hk : cs.kind = .function

noncomputable abbrev Cx.env {G : Gd} (c : Cx G) : Env := envX c.cn c.cs c.L c.a c.ccd c.cl

structure AOk {G : Gd} (c : Cx G) (r : Nat) (A : Around) : Prop where
  fr : A.frames = some (c.env :: c.outer)
  dp : A.depth + r < recursionLimit
  un : A.units + 10 * r + 100 < cLine
  hd : A.handled = none
theorem AOk.le {G : Gd} {c : Cx G} {r r' : Nat} {A : Around} (h : AOk c r A) (e : r' ≤ r) : AOk c r' A := ⟨h.fr, by have := h.dp; omega, by have := h.un; omega, h.hd⟩

structure LocR (n : Nat) (ρ : Nat → Addr) (mp : Str → Option Value) (nm : List Str) (loc : List V) : Prop where
  at' : ∀ (i : Nat) (x : Str) (p : V), nm[i]? = some x → loc[i]? = some p → p = .unb ∨ ∃ v, mp x = some v ∧ VR n ρ p v
theorem LocR.ext {n n' : Nat} {ρ ρ' : Nat → Addr} {mp : Str → Option Value} {nm : List Str} {loc : List V} (e : Ext n ρ n' ρ') (h : LocR n ρ mp nm loc) : LocR n' ρ' mp nm loc :=
  ⟨fun i x p h1 h2 => (h.at' i x p h1 h2).imp id fun ⟨v, k1, k2⟩ => ⟨v, k1, k2.ext e⟩⟩

structure St {G : Gd} (c : Cx G) (nm : List Str) (h : Heap) (mp : Str → Option Value) (loc : List V) (n : Nat) (ρ : Nat → Addr) (os : Hp) (ex : List (Addr × Obj)) : Prop where
  F : Fr c.h₀ c.L h mp
  D : Led G.I c.h₀ c.L h n ρ os ex
  l : LocR n ρ mp nm loc

noncomputable abbrev KB := Nat → Hp → Bool
noncomputable abbrev KE := V → Nat → Hp → Bool
noncomputable abbrev EM := List V → Nat → Hp → KE → Bool
noncomputable abbrev ES := List V → Nat → Hp → (List V → Nat → Hp → Bool) → Bool
noncomputable abbrev BM := List V → Nat → Hp → (Bool → Nat → Hp → Bool) → Bool
noncomputable abbrev CM := List V → Nat → Hp → KE → Bool
inductive Fl where
  | nxt | brk | cnt | ret (v : V)
noncomputable abbrev KS := Fl → List V → Nat → Hp → Bool
noncomputable abbrev SM := List V → Nat → Hp → KS → Bool

/-- a tree that leaves the frame's names as they are is followed by the machine -/
noncomputable def Go {G : Gd} (c : Cx G) (A : Around) (nm : List Str) (mp : Str → Option Value) (loc : List V) (ex : List (Addr × Obj)) {α β : Type} (R : Nat → (Nat → Addr) → β → α → Prop)
    (t : Sem α) (m : Nat → Hp → (β → Nat → Hp → Bool) → Bool) : Prop :=
  ∀ (s : Shared) (n : Nat) (ρ : Nat → Addr) (os : Hp) (K : β → Nat → Hp → Bool) (Q : α → Shared → Prop) (E : Value → Shared → Prop),
    St c nm s.heap mp loc n ρ os ex → m n os K = true →
    (∀ p v h' tk n' ρ' os', K p n' os' = true → R n' ρ' p v → St c nm h' mp loc n' ρ' os' ex → Ext n ρ n' ρ' → Q v { s with heap := h', toks := tk }) →
    wpAny (model G.prog G.w) A t Q E s

noncomputable abbrev RB (_ : Nat) (_ : Nat → Addr) (p v : Bool) : Prop := v = p

noncomputable def SimE (G : Gd) (cs : Scope) (nm : List Str) (r : Nat) (e : Expr) (m : EM) : Prop :=
  ∀ (c : Cx G), c.cs = cs → ∀ (A : Around), AOk c r A → ∀ mp loc ex, Go c A nm mp loc ex VR (eval e c.env) (fun n os K => m loc n os K)
noncomputable def SimT (G : Gd) (cs : Scope) (nm : List Str) (r : Nat) (e : Expr) (m : BM) : Prop :=
  ∀ (c : Cx G), c.cs = cs → ∀ (A : Around), AOk c r A → ∀ mp loc ex, Go c A nm mp loc ex RB (isTrue e c.env (eval e c.env)) (fun n os K => m loc n os K)
noncomputable def SimEs (G : Gd) (cs : Scope) (nm : List Str) (r : Nat) (es : List Expr) (m : ES) : Prop :=
  ∀ (c : Cx G), c.cs = cs → ∀ (A : Around), AOk c r A → ∀ pos mp loc ex, Go c A nm mp loc ex VRs (spliced (backTo pos (starEach es c.env))) (fun n os K => m loc n os K)

/-- what a flow of the machine says of the frame's -/
noncomputable def FlR (n : Nat) (ρ : Nat → Addr) : Fl → Flow → Prop
  | .nxt, f => f = .next
  | .brk, f => f = .brk
  | .cnt, f => f = .cont
  | .ret p, f => ∃ v, f = .ret v ∧ VR n ρ p v

noncomputable def GoS {G : Gd} (c : Cx G) (A : Around) (nm : List Str) (ex : List (Addr × Obj)) (t : Sem Flow) (m : SM) : Prop :=
  ∀ (s : Shared) (mp : Str → Option Value) (loc : List V) (n : Nat) (ρ : Nat → Addr) (os : Hp) (K : KS) (Q : Flow → Shared → Prop) (E : Value → Shared → Prop),
    St c nm s.heap mp loc n ρ os ex → m loc n os K = true →
    (∀ fl f h' tk mp' loc' n' ρ' os', K fl loc' n' os' = true → FlR n' ρ' fl f → St c nm h' mp' loc' n' ρ' os' ex → Ext n ρ n' ρ' → Q f { s with heap := h', toks := tk }) →
    wpAny (model G.prog G.w) A t Q E s

noncomputable def SimS (G : Gd) (cs : Scope) (nm : List Str) (r : Nat) (st : Stmt) (m : SM) : Prop :=
  ∀ (c : Cx G), c.cs = cs → ∀ (A : Around), AOk c r A → ∀ ex, GoS c A nm ex (exec st c.env) m
noncomputable def SimSs (G : Gd) (cs : Scope) (nm : List Str) (r : Nat) (sts : List Stmt) (m : SM) : Prop :=
  ∀ (c : Cx G), c.cs = cs → ∀ (A : Around), AOk c r A → ∀ ex, GoS c A nm ex (execs sts c.env) m

/-- a def of the text's own, called by address: one contract for every caller -/
noncomputable def SimC (G : Gd) (r : Nat) (f : Addr) (m : CM) : Prop :=
  ∀ (c : Cx G) (A : Around), AOk c r A → ∀ (mp : Str → Option Value) (ex : List (Addr × Obj)) (s : Shared) (n : Nat) (ρ : Nat → Addr) (os : Hp) (vs : List Value) (ps : List V) (K : KE) (Q : Value → Shared → Prop) (E : Value → Shared → Prop),
    Fr c.h₀ c.L s.heap mp → Led G.I c.h₀ c.L s.heap n ρ os ex → VRs n ρ ps vs → m ps n os K = true →
    (∀ p v h' tk n' ρ' os', K p n' os' = true → VR n' ρ' p v → Fr c.h₀ c.L h' mp → Led G.I c.h₀ c.L h' n' ρ' os' ex → Ext n ρ n' ρ' → Q v { s with heap := h', toks := tk }) →
    wpAny (model G.prog G.w) A (call (.ref f) vs) Q E s

/-! helpers in passing style -/
noncomputable def forceN (n : Nat) (k : Nat → Bool) : Bool := match n with
  | 0 => k 0
  | m + 1 => k (m + 1)
theorem forceN_eq (n : Nat) (k : Nat → Bool) : forceN n k = k n := by cases n <;> rfl
noncomputable def forceI (i : Int) (k : Int → Bool) : Bool := match i with
  | .ofNat m => forceN m fun m => k (.ofNat m)
  | .negSucc m => forceN m fun m => k (.negSucc m)
theorem forceI_eq (i : Int) (k : Int → Bool) : forceI i k = k i := by
  cases i with
  | ofNat m => exact forceN_eq m fun m => k (.ofNat m)
  | negSucc m => exact forceN_eq m fun m => k (.negSucc m)
noncomputable def getV : List V → Nat → (V → Bool) → Bool
  | [], _, _ => false
  | p :: _, 0, k => k p
  | _ :: r, i + 1, k => getV r i k
theorem getV_ok {k : V → Bool} : ∀ {loc : List V} {i : Nat}, getV loc i k = true → ∃ p, loc[i]? = some p ∧ k p = true
  | [], i, h => by cases i <;> cases h
  | p :: _, 0, h => ⟨p, rfl, h⟩
  | _ :: r, i + 1, h => by
    obtain ⟨p, h1, h2⟩ := getV_ok (loc := r) (i := i) h
    exact ⟨p, by simpa using h1, h2⟩
noncomputable def setV : List V → Nat → V → (List V → Bool) → Bool
  | [], _, _, _ => false
  | _ :: r, 0, q, k => k (q :: r)
  | p :: r, i + 1, q, k => setV r i q fun r' => k (p :: r')
theorem setV_ok {q : V} : ∀ {loc : List V} {i : Nat} {k : List V → Bool}, setV loc i q k = true → i < loc.length ∧ k (loc.set i q) = true
  | [], i, _, h => by cases i <;> cases h
  | p :: r, 0, k, h => ⟨Nat.succ_pos _, h⟩
  | p :: r, i + 1, k, h => by
    obtain ⟨h1, h2⟩ := setV_ok (loc := r) (i := i) h
    exact ⟨Nat.succ_lt_succ h1, h2⟩
noncomputable def lookK : Hp → Nat → (O → Bool) → Bool
  | [], _, _ => false
  | p :: r, k, f => match Nat.beq p.1 k with
    | true => f p.2
    | false => lookK r k f
theorem lookK_ok {f : O → Bool} {k : Nat} : ∀ {os : Hp}, lookK os k f = true → ∃ o, hLook os k = some o ∧ f o = true
  | [], h => by cases h
  | (i, o) :: r, h => by
    unfold lookK at h
    unfold hLook
    dsimp only at h ⊢
    cases q : Nat.beq i k with
    | true => rw [q] at h; exact ⟨o, rfl, h⟩
    | false => rw [q] at h; exact lookK_ok h
noncomputable def putK : Hp → Nat → O → (Hp → Bool) → Bool
  | [], _, _, _ => false
  | p :: r, k, o, f => match Nat.beq p.1 k with
    | true => f ((p.1, o) :: r)
    | false => putK r k o fun r' => f (p :: r')
theorem putK_ok {k : Nat} {o : O} : ∀ {os : Hp} {f : Hp → Bool}, putK os k o f = true → f (hPut os k o) = true
  | [], _, h => by cases h
  | (i, o') :: r, f, h => by
    unfold putK at h
    unfold hPut
    dsimp only at h ⊢
    cases q : Nat.beq i k with
    | true => rw [q] at h; exact h
    | false => rw [q] at h; exact putK_ok (f := fun r' => f ((i, o') :: r')) h

/-! steps of the state -/
section
variable {G : Gd} {c : Cx G} {nm : List Str} {h h' : Heap} {mp : Str → Option Value} {loc : List V} {n n' : Nat} {ρ ρ' : Nat → Addr} {os os' : Hp} {ex : List (Addr × Obj)}
theorem St.keeps (S : St c nm h mp loc n ρ os ex) (hk : ∀ b o, h.get? b = some o → h'.get? b = some o) : St c nm h' mp loc n ρ os ex := ⟨S.F.grownK hk, S.D.keeps hk, S.l⟩
theorem St.new (S : St c nm h mp loc n ρ os ex) {o : O} {ob : Obj} {a : Addr} (ha : h.objs.size ≤ a) (hk : ∀ b o, h.get? b = some o → h'.get? b = some o) (hg : h'.get? a = some ob)
    (ho : OR G.I (n + 1) (fun k => if k = n then a else ρ k) o ob) : St c nm h' mp loc (n + 1) (fun k => if k = n then a else ρ k) ((n, o) :: os) ex ∧ Ext n ρ (n + 1) (fun k => if k = n then a else ρ k) := by
  obtain ⟨D', e⟩ := S.D.new S.F ha hk hg ho
  exact ⟨⟨S.F.grownK hk, D', S.l.ext e⟩, e⟩
theorem St.pushed (S : St c nm h mp loc n ρ os ex) {o : O} {ob : Obj} (hf : ob.isFreed = false) (ho : OR G.I n ρ o ob) :
    St c nm (h.push ob) mp loc (n + 1) (fun k => if k = n then h.objs.size else ρ k) ((n, o) :: os) ex ∧ Ext n ρ (n + 1) (fun k => if k = n then h.objs.size else ρ k) ∧
      VR (n + 1) (fun k => if k = n then h.objs.size else ρ k) (.ref n) (.ref h.objs.size) := by
  have ee : Ext n ρ (n + 1) (fun k => if k = n then h.objs.size else ρ k) := ⟨Nat.le_succ _, fun k hk => if_neg (Nat.ne_of_lt hk)⟩
  obtain ⟨S', e⟩ := S.new (Nat.le_refl _) (fun b o e => Heap.get?_push_of_some _ e) (Heap.get?_push_size _ hf) (ho.ext ee)
  exact ⟨S', e, Nat.lt_succ_self n, by show Value.ref _ = Value.ref (if n = n then _ else _); rw [if_pos rfl]⟩
theorem St.put (S : St c nm h mp loc n ρ os ex) {k : Nat} {o o' : O} {ob' : Obj} (e : hLook os k = some o) (ho : OR G.I n ρ o' ob') (hs : Heap.SameBut (ρ k) h h') (hg : h'.get? (ρ k) = some ob') :
    St c nm h' mp loc n ρ (hPut os k o') ex := by
  obtain ⟨_, _, _, _, hL, hn⟩ := S.D.at e
  exact ⟨S.F.change hs hL hn, S.D.put e ho hs hg, S.l⟩
end

/-! expressions -/
section
variable {G : Gd} {cs : Scope} {nm : List Str} {r : Nat}

noncomputable def eInt (i : Int) : EM := fun _ n os K => K (.int i) n os
theorem simInt {i : Int} {k : Nat} {pos : Pos} : SimE G cs nm r (.Constant (.int i) k pos) (eInt i) := fun c _ A _ mp loc ex s n ρ os K Q E S hm hQ =>
  wpAny_Constant_int (hQ (.int i) _ s.heap _ n ρ os hm ⟨_, rfl⟩ S .refl)
noncomputable def eBool (b : Bool) : EM := fun _ n os K => K (.bool b) n os
theorem simBool {b : Bool} {k : Nat} {pos : Pos} : SimE G cs nm r (.Constant (.bool b) k pos) (eBool b) := fun c _ A _ mp loc ex s n ρ os K Q E S hm hQ =>
  wpAny_Constant_bool (hQ (.bool b) _ s.heap s.toks n ρ os hm rfl S .refl)
noncomputable def eNone : EM := fun _ n os K => K .none n os
theorem simNone {k : Nat} {pos : Pos} : SimE G cs nm r (.Constant .none k pos) eNone := fun c _ A _ mp loc ex s n ρ os K Q E S hm hQ =>
  wpAny_Constant_none (hQ .none _ s.heap s.toks n ρ os hm rfl S .refl)

noncomputable def eLoc (i : Nat) : EM := fun loc n os K => getV loc i fun p => match p with
  | .unb => false
  | p => K p n os
theorem simLoc {x : Str} {pos : Pos} {i : Nat} (hi : nm[i]? = some x) (hl : cs.names.lookup x = some .local) (hd : (x == ("__debug__" : Str)) = false) : SimE G cs nm r (.Name x pos) (eLoc i) := by
  intro c hc A hA mp loc ex s n ρ os K Q E S hm hQ
  subst hc
  obtain ⟨p, h1, h2⟩ := getV_ok hm
  rcases S.l.at' i x p hi h1 with rfl | ⟨v, hv, hr⟩
  · cases h2
  · refine nameX_L S.F hv (hQ p v s.heap s.toks n ρ os ?_ hr S .refl) c.hk hl hd
    cases p <;> first | exact h2 | exact hr.elim

noncomputable def eGlob (a : Addr) : EM := fun _ n os K => K (.glob a) n os
theorem simGlob {x : Str} {pos : Pos} {a : Addr} (e : nsIn G.K mainGlobals x = some (some (.ref a))) (hl : cs.names.lookup x = some .globalImplicit) (hd : (x == ("__debug__" : Str)) = false) : SimE G cs nm r (.Name x pos) (eGlob a) := by
  intro c hc A hA mp loc ex s n ρ os K Q E S hm hQ
  subst hc
  exact nameX_K S.F c.X (topRead_of c.T) e (hQ (.glob a) _ s.heap s.toks n ρ os hm rfl S .refl) c.hk hl hd

/-- an operation on two ints -/
noncomputable def OpOk (o : Operator) (op : Int → Int → Option Int) : Prop := ∀ (a b x : Int), op a b = some x → ∀ (prog : Program) (w : World) (A : Around) (E : Value → Shared → Prop) (s : Shared) (t u : Tok) (Q : Value → Shared → Prop),
  Q (.int x s.toks) { s with toks := s.toks + 1 } → wpAny (model prog w) A (binaryOp o (.int a t) (.int b u)) Q E s
noncomputable def IOpOk (o : Operator) (op : Int → Int → Option Int) : Prop := ∀ (a b x : Int), op a b = some x → ∀ (prog : Program) (w : World) (A : Around) (E : Value → Shared → Prop) (s : Shared) (t u : Tok) (Q : Value → Shared → Prop),
  Q (.int x s.toks) { s with toks := s.toks + 1 } → wpAny (model prog w) A (inplaceOp o (.int a t) (.int b u)) Q E s
noncomputable def binK (op : Int → Int → Option Int) (p q : V) (k : V → Bool) : Bool := match p with
  | .int a => match q with
    | .int b => match op a b with
      | some x => forceI x fun x => k (.int x)
      | none => false
    | _ => false
  | _ => false
theorem binK_ok {op : Int → Int → Option Int} {p q : V} {k : V → Bool} (h : binK op p q k = true) : ∃ a b x, p = .int a ∧ q = .int b ∧ op a b = some x ∧ k (.int x) = true := by
  cases p with
  | int a =>
    cases q with
    | int b =>
      unfold binK at h
      dsimp only at h
      split at h
      · rename_i x e; rw [forceI_eq] at h; exact ⟨a, b, x, rfl, rfl, e, h⟩
      · cases h
    | _ => cases h
  | _ => cases h
noncomputable def eBin (op : Int → Int → Option Int) (m₁ m₂ : EM) : EM := fun loc n os K => m₁ loc n os fun p n os => m₂ loc n os fun q n os => binK op p q fun x => K x n os
theorem simBin {o : Operator} {op : Int → Int → Option Int} (hop : OpOk o op) {e₁ e₂ : Expr} {pos : Pos} {m₁ m₂ : EM} (h₁ : SimE G cs nm r e₁ m₁) (h₂ : SimE G cs nm r e₂ m₂) : SimE G cs nm r (.BinOp e₁ o e₂ pos) (eBin op m₁ m₂) := by
  intro c hc A hA mp loc ex s n ρ os K Q E S hm hQ
  refine wpAny_BinOp (h₁ c hc A hA mp loc ex s n ρ os _ _ E S hm fun p v h' tk n' ρ' os' k1 r1 S1 e1 => ?_)
  refine h₂ c hc A hA mp loc ex _ n' ρ' os' _ _ E S1 k1 fun q u h'' tk' n'' ρ'' os'' k2 r2 S2 e2 => ?_
  obtain ⟨a, b, x, rfl, rfl, e, k⟩ := binK_ok k2
  obtain ⟨t, rfl⟩ := r1
  obtain ⟨t', rfl⟩ := r2
  exact hop a b x e _ _ _ _ _ _ _ _ (hQ (.int x) _ h'' _ n'' ρ'' os'' k ⟨_, rfl⟩ S2 (e1.trans e2))

noncomputable def eNeg (m₁ : EM) : EM := fun loc n os K => m₁ loc n os fun p n os => match p with
  | .int a => forceI (-a) fun x => K (.int x) n os
  | _ => false
theorem simNeg {e₁ : Expr} {pos : Pos} {m₁ : EM} (h₁ : SimE G cs nm r e₁ m₁) : SimE G cs nm r (.UnaryOp .USub e₁ pos) (eNeg m₁) := by
  intro c hc A hA mp loc ex s n ρ os K Q E S hm hQ
  refine UnaryOp_ (h₁ c hc A hA mp loc ex s n ρ os _ _ E S hm fun p v h' tk n' ρ' os' k1 r1 S1 e1 => ?_)
  cases p with
  | int a =>
    obtain ⟨t, rfl⟩ := r1
    dsimp only at k1
    rw [forceI_eq] at k1
    exact neg_int (hQ (.int (-a)) _ h' _ n' ρ' os' k1 ⟨_, rfl⟩ S1 e1)
  | _ => cases k1

/-- a comparison of two ints -/
noncomputable def CmpOk (o : CmpOp) (op : Int → Int → Bool) : Prop := (∀ e, behindInMarks o e = false) ∧ ∀ (a b : Int) (prog : Program) (w : World) (A : Around) (E : Value → Shared → Prop) (s : Shared) (t u : Tok) (Q : Value → Shared → Prop),
  Q (.bool (op a b)) s → wpAny (model prog w) A (compareOp o (.int a t) (.int b u)) Q E s
noncomputable def cmpK (op : Int → Int → Bool) (p q : V) (k : Bool → Bool) : Bool := match p with
  | .int a => match q with
    | .int b => match op a b with
      | true => k true
      | false => k false
    | _ => false
  | _ => false
theorem cmpK_ok {op : Int → Int → Bool} {p q : V} {k : Bool → Bool} (h : cmpK op p q k = true) : ∃ a b, p = .int a ∧ q = .int b ∧ k (op a b) = true := by
  cases p with
  | int a =>
    cases q with
    | int b =>
      unfold cmpK at h
      dsimp only at h
      refine ⟨a, b, rfl, rfl, ?_⟩
      cases e : op a b <;> (rw [e] at h; exact h)
    | _ => cases h
  | _ => cases h
noncomputable def eCmp (op : Int → Int → Bool) (m₁ m₂ : EM) : EM := fun loc n os K => m₁ loc n os fun p n os => m₂ loc n os fun q n os => cmpK op p q fun b => K (.bool b) n os
noncomputable def tCmp (op : Int → Int → Bool) (m₁ m₂ : EM) : BM := fun loc n os K => m₁ loc n os fun p n os => m₂ loc n os fun q n os => cmpK op p q fun b => K b n os
theorem simCmp {o : CmpOp} {op : Int → Int → Bool} (hop : CmpOk o op) {e₁ e₂ : Expr} {pos : Pos} {m₁ m₂ : EM} (h₁ : SimE G cs nm r e₁ m₁) (h₂ : SimE G cs nm r e₂ m₂) : SimE G cs nm r (.Compare e₁ [o] [e₂] pos) (eCmp op m₁ m₂) := by
  intro c hc A hA mp loc ex s n ρ os K Q E S hm hQ
  refine wpAny_Compare1 (h₁ c hc A hA mp loc ex s n ρ os _ _ E S hm fun p v h' tk n' ρ' os' k1 r1 S1 e1 => ?_) (hop.1 _)
  refine h₂ c hc A hA mp loc ex _ n' ρ' os' _ _ E S1 k1 fun q u h'' tk' n'' ρ'' os'' k2 r2 S2 e2 => ?_
  obtain ⟨a, b, rfl, rfl, k⟩ := cmpK_ok k2
  obtain ⟨t, rfl⟩ := r1
  obtain ⟨t', rfl⟩ := r2
  exact hop.2 a b _ _ _ _ _ _ _ _ (hQ (.bool (op a b)) _ h'' tk' n'' ρ'' os'' k rfl S2 (e1.trans e2))
theorem simTCmp {o : CmpOp} {op : Int → Int → Bool} (hop : CmpOk o op) {e₁ e₂ : Expr} {pos : Pos} {m₁ m₂ : EM} (h₁ : SimE G cs nm r e₁ m₁) (h₂ : SimE G cs nm r e₂ m₂) : SimT G cs nm r (.Compare e₁ [o] [e₂] pos) (tCmp op m₁ m₂) := by
  intro c hc A hA mp loc ex s n ρ os K Q E S hm hQ
  refine wpAny_isTrue_Compare1 (h₁ c hc A hA mp loc ex s n ρ os _ _ E S hm fun p v h' tk n' ρ' os' k1 r1 S1 e1 => ?_) (hop.1 _)
  refine h₂ c hc A hA mp loc ex _ n' ρ' os' _ _ E S1 k1 fun q u h'' tk' n'' ρ'' os'' k2 r2 S2 e2 => ?_
  obtain ⟨a, b, rfl, rfl, k⟩ := cmpK_ok k2
  obtain ⟨t, rfl⟩ := r1
  obtain ⟨t', rfl⟩ := r2
  exact hop.2 a b _ _ _ _ _ _ _ _ (wpAny_truthy_bool (hQ (op a b) _ h'' tk' n'' ρ'' os'' k rfl S2 (e1.trans e2)))

/-- == and != of two bools -/
noncomputable def eqBK (neg : Bool) (p q : V) (k : Bool → Bool) : Bool := match p with
  | .bool a => match q with
    | .bool b => match (a == b) != neg with
      | true => k true
      | false => k false
    | _ => false
  | _ => false
theorem eqBK_ok {neg : Bool} {p q : V} {k : Bool → Bool} (h : eqBK neg p q k = true) : ∃ a b, p = .bool a ∧ q = .bool b ∧ k ((a == b) != neg) = true := by
  cases p with
  | bool a =>
    cases q with
    | bool b =>
      unfold eqBK at h
      dsimp only at h
      refine ⟨a, b, rfl, rfl, ?_⟩
      cases e : (a == b) != neg <;> (rw [e] at h; exact h)
    | _ => cases h
  | _ => cases h
noncomputable def eEqB (neg : Bool) (m₁ m₂ : EM) : EM := fun loc n os K => m₁ loc n os fun p n os => m₂ loc n os fun q n os => eqBK neg p q fun b => K (.bool b) n os
noncomputable def tEqB (neg : Bool) (m₁ m₂ : EM) : BM := fun loc n os K => m₁ loc n os fun p n os => m₂ loc n os fun q n os => eqBK neg p q fun b => K b n os
end
end Mine
end
-- part M3
section
namespace Mine
open PySem PySem.W PySem.Spec PySem.Calls PyProof.Rows

section
variable {G : Gd} {cs : Scope} {nm : List Str} {r : Nat}

theorem eq_bools {prog : Program} {w : World} {A : Around} {E : Value → Shared → Prop} {s : Shared} (a b : Bool) {Q : Value → Shared → Prop} (h : Q (.bool (a == b)) s) : wpAny (model prog w) A (compareOp .Eq (.bool a) (.bool b)) Q E s := eq_bool h
theorem behindOf {op : CmpOp} (h : (op == .In || op == .NotIn) = false) (e : Expr) : behindInMarks op e = false := by
  unfold behindInMarks
  split
  · rw [h]; simp
  · rfl
theorem behindEq (e : Expr) : behindInMarks .Eq e = false := behindOf (by decide) e
theorem behindNe (e : Expr) : behindInMarks .NotEq e = false := behindOf (by decide) e
theorem simEqB {e₁ e₂ : Expr} {pos : Pos} {m₁ m₂ : EM} (h₁ : SimE G cs nm r e₁ m₁) (h₂ : SimE G cs nm r e₂ m₂) : SimE G cs nm r (.Compare e₁ [.Eq] [e₂] pos) (eEqB false m₁ m₂) := by
  intro c hc A hA mp loc ex s n ρ os K Q E S hm hQ
  refine wpAny_Compare1 (h₁ c hc A hA mp loc ex s n ρ os _ _ E S hm fun p v h' tk n' ρ' os' k1 r1 S1 e1 => ?_) (behindEq _)
  refine h₂ c hc A hA mp loc ex _ n' ρ' os' _ _ E S1 k1 fun q u h'' tk' n'' ρ'' os'' k2 r2 S2 e2 => ?_
  obtain ⟨a, b, rfl, rfl, k⟩ := eqBK_ok k2
  cases r1; cases r2
  refine eq_bool (hQ (.bool (a == b)) _ h'' tk' n'' ρ'' os'' ?_ rfl S2 (e1.trans e2))
  rw [show (a == b) = ((a == b) != false) by cases (a == b) <;> rfl]; exact k
theorem simTEqB {e₁ e₂ : Expr} {pos : Pos} {m₁ m₂ : EM} (h₁ : SimE G cs nm r e₁ m₁) (h₂ : SimE G cs nm r e₂ m₂) : SimT G cs nm r (.Compare e₁ [.Eq] [e₂] pos) (tEqB false m₁ m₂) := by
  intro c hc A hA mp loc ex s n ρ os K Q E S hm hQ
  refine wpAny_isTrue_Compare1 (h₁ c hc A hA mp loc ex s n ρ os _ _ E S hm fun p v h' tk n' ρ' os' k1 r1 S1 e1 => ?_) (behindEq _)
  refine h₂ c hc A hA mp loc ex _ n' ρ' os' _ _ E S1 k1 fun q u h'' tk' n'' ρ'' os'' k2 r2 S2 e2 => ?_
  obtain ⟨a, b, rfl, rfl, k⟩ := eqBK_ok k2
  cases r1; cases r2
  refine eq_bool (wpAny_truthy_bool (hQ (a == b) _ h'' tk' n'' ρ'' os'' ?_ rfl S2 (e1.trans e2)))
  rw [show (a == b) = ((a == b) != false) by cases (a == b) <;> rfl]; exact k
theorem simNeB {e₁ e₂ : Expr} {pos : Pos} {m₁ m₂ : EM} (h₁ : SimE G cs nm r e₁ m₁) (h₂ : SimE G cs nm r e₂ m₂) : SimE G cs nm r (.Compare e₁ [.NotEq] [e₂] pos) (eEqB true m₁ m₂) := by
  intro c hc A hA mp loc ex s n ρ os K Q E S hm hQ
  refine wpAny_Compare1 (h₁ c hc A hA mp loc ex s n ρ os _ _ E S hm fun p v h' tk n' ρ' os' k1 r1 S1 e1 => ?_) (behindNe _)
  refine h₂ c hc A hA mp loc ex _ n' ρ' os' _ _ E S1 k1 fun q u h'' tk' n'' ρ'' os'' k2 r2 S2 e2 => ?_
  obtain ⟨a, b, rfl, rfl, k⟩ := eqBK_ok k2
  cases r1; cases r2
  refine ne_bool (hQ (.bool (a != b)) _ h'' tk' n'' ρ'' os'' ?_ rfl S2 (e1.trans e2))
  rw [show (a != b) = ((a == b) != true) by cases a <;> cases b <;> rfl]; exact k
theorem simTNeB {e₁ e₂ : Expr} {pos : Pos} {m₁ m₂ : EM} (h₁ : SimE G cs nm r e₁ m₁) (h₂ : SimE G cs nm r e₂ m₂) : SimT G cs nm r (.Compare e₁ [.NotEq] [e₂] pos) (tEqB true m₁ m₂) := by
  intro c hc A hA mp loc ex s n ρ os K Q E S hm hQ
  refine wpAny_isTrue_Compare1 (h₁ c hc A hA mp loc ex s n ρ os _ _ E S hm fun p v h' tk n' ρ' os' k1 r1 S1 e1 => ?_) (behindNe _)
  refine h₂ c hc A hA mp loc ex _ n' ρ' os' _ _ E S1 k1 fun q u h'' tk' n'' ρ'' os'' k2 r2 S2 e2 => ?_
  obtain ⟨a, b, rfl, rfl, k⟩ := eqBK_ok k2
  cases r1; cases r2
  refine ne_bool (wpAny_truthy_bool (hQ (a != b) _ h'' tk' n'' ρ'' os'' ?_ rfl S2 (e1.trans e2)))
  rw [show (a != b) = ((a == b) != true) by cases a <;> cases b <;> rfl]; exact k

/-- «e is None» -/
noncomputable def isNoneK (p : V) (k : Bool → Bool) : Bool := match p with
  | .none => k true
  | .unb => false
  | _ => k false
theorem simTIsNone {e₁ : Expr} {pos pos' : Pos} {k : Nat} {m₁ : EM} (h₁ : SimE G cs nm r e₁ m₁) : SimT G cs nm r (.Compare e₁ [.Is] [.Constant .none k pos'] pos) (fun loc n os K => m₁ loc n os fun p n os => isNoneK p fun b => K b n os) := by
  intro c hc A hA mp loc ex s n ρ os K Q E S hm hQ
  refine wpAny_isTrue_Compare1 (h₁ c hc A hA mp loc ex s n ρ os _ _ E S hm fun p v h' tk n' ρ' os' k1 r1 S1 e1 => ?_) (by with_unfolding_all rfl)
  refine wpAny_Constant_none (PySem.is_none (wpAny_truthy_bool ?_))
  have fin : ∀ b : Bool, (v == .none) = b → K b n' os' = true → Q (v == .none) { s with heap := h', toks := tk } := fun b e k => by
    rw [e]; exact hQ b _ h' tk n' ρ' os' k rfl S1 e1
  cases p with
  | none => cases r1; exact fin true (by decide) k1
  | int i => obtain ⟨t, rfl⟩ := r1; exact fin false (by simp) k1
  | bool b => cases r1; exact fin false (by simp) k1
  | ref j => obtain ⟨_, rfl⟩ := r1; exact fin false (by simp) k1
  | glob a => cases r1; exact fin false (by simp) k1
  | unb => exact r1.elim

/-- == of two lists of ints -/
noncomputable def intsOf : List V → Option (List Int)
  | [] => some []
  | .int i :: r => match intsOf r with
    | some l => some (i :: l)
    | none => none
  | _ => none
theorem intsOf_ok {n : Nat} {ρ : Nat → Addr} : ∀ {ps : List V} {vs : List Value} {l : List Int}, VRs n ρ ps vs → intsOf ps = some l → IntsAre vs l
  | [], [], l, _, e => by cases e; exact .nil
  | [], _ :: _, _, h, _ => h.elim
  | .int i :: ps, v :: vs, l, h, e => by
    unfold intsOf at e
    split at e
    · rename_i l' e'
      cases e
      obtain ⟨t, rfl⟩ := h.1
      exact .cons i t (intsOf_ok h.2 e')
    · cases e
  | .int _ :: _, [], _, h, _ => h.elim
  | .bool _ :: _, _, _, _, e => by cases e
  | .none :: _, _, _, _, e => by cases e
  | .ref _ :: _, _, _, _, e => by cases e
  | .glob _ :: _, _, _, _, e => by cases e
  | .unb :: _, _, _, _, e => by cases e
noncomputable def eqInts : List Int → List Int → Bool
  | [], [] => true
  | a :: r, b :: q => match Z.eqB a b with
    | true => eqInts r q
    | false => false
  | _, _ => false
theorem eqInts_ok : ∀ (l k : List Int), eqInts l k = decide (l = k)
  | [], [] => by simp [eqInts]
  | [], _ :: _ => by simp [eqInts]
  | _ :: _, [] => by simp [eqInts]
  | a :: r, b :: q => by
    unfold eqInts
    have e : Z.eqB a b = decide (a = b) := by
      rw [Bool.eq_iff_iff, Z.eqB_iff]; simp
    rw [e]
    by_cases h : a = b
    · subst h; simp [eqInts_ok r q]
    · simp [h]
noncomputable def eqLK (os : Hp) (p q : V) (k : Bool → Bool) : Bool := match p with
  | .ref i => match q with
    | .ref j => lookK os i fun o => match o with
      | .list xs => lookK os j fun o' => match o' with
        | .list ys => match intsOf xs with
          | some l => match intsOf ys with
            | some l' => match eqInts l l' with
              | true => k true
              | false => k false
            | none => false
          | none => false
        | _ => false
      | _ => false
    | _ => false
  | _ => false
theorem eqLK_ok {os : Hp} {p q : V} {k : Bool → Bool} (h : eqLK os p q k = true) : ∃ i j xs ys l l', p = .ref i ∧ q = .ref j ∧ hLook os i = some (.list xs) ∧ hLook os j = some (.list ys) ∧ intsOf xs = some l ∧ intsOf ys = some l' ∧ k (decide (l = l')) = true := by
  unfold eqLK at h
  cases p with
  | ref i =>
    cases q with
    | ref j =>
      dsimp only at h
      obtain ⟨o, h1, h⟩ := lookK_ok h
      cases o with
      | list xs =>
        dsimp only at h
        obtain ⟨o', h2, h⟩ := lookK_ok h
        cases o' with
        | list ys =>
          dsimp only at h
          split at h
          · rename_i l e1
            split at h
            · rename_i l' e2
              refine ⟨i, j, xs, ys, l, l', rfl, rfl, h1, h2, e1, e2, ?_⟩
              rw [← eqInts_ok]
              cases e : eqInts l l' <;> (rw [e] at h; exact h)
            · cases h
          · cases h
        | _ => cases h
      | _ => cases h
    | _ => cases h
  | _ => cases h
noncomputable def eEqL (m₁ m₂ : EM) : EM := fun loc n os K => m₁ loc n os fun p n os => m₂ loc n os fun q n os => eqLK os p q fun b => K (.bool b) n os
noncomputable def tEqL (m₁ m₂ : EM) : BM := fun loc n os K => m₁ loc n os fun p n os => m₂ loc n os fun q n os => eqLK os p q fun b => K b n os
theorem eqL_step {c : Cx G} {A : Around} (hA : AOk c r A) {mp : Str → Option Value} {loc : List V} {ex : List (Addr × Obj)} {s : Shared} {n : Nat} {ρ : Nat → Addr} {os : Hp} (S : St c nm s.heap mp loc n ρ os ex) {p q : V} {v u : Value}
    (r1 : VR n ρ p v) (r2 : VR n ρ q u) {k : Bool → Bool} (h : eqLK os p q k = true) {Q : Value → Shared → Prop} {E : Value → Shared → Prop} (hQ : ∀ b, k b = true → Q (.bool b) s) : wpAny (model G.prog G.w) A (compareOp .Eq v u) Q E s := by
  obtain ⟨i, j, xs, ys, l, l', rfl, rfl, h1, h2, e1, e2, hk⟩ := eqLK_ok h
  obtain ⟨_, rfl⟩ := r1
  obtain ⟨_, rfl⟩ := r2
  obtain ⟨vs, _, _, l1, w1, _⟩ := S.D.list h1
  obtain ⟨us, _, _, l2, w2, _⟩ := S.D.list h2
  exact eq_intsK l1 (intsOf_ok w1 e1) l2 (intsOf_ok w2 e2) (by have := hA.un; omega) (hQ _ hk)
theorem simEqL {e₁ e₂ : Expr} {pos : Pos} {m₁ m₂ : EM} (h₁ : SimE G cs nm r e₁ m₁) (h₂ : SimE G cs nm r e₂ m₂) : SimE G cs nm r (.Compare e₁ [.Eq] [e₂] pos) (eEqL m₁ m₂) := by
  intro c hc A hA mp loc ex s n ρ os K Q E S hm hQ
  refine wpAny_Compare1 (h₁ c hc A hA mp loc ex s n ρ os _ _ E S hm fun p v h' tk n' ρ' os' k1 r1 S1 e1 => ?_) (behindEq _)
  refine h₂ c hc A hA mp loc ex _ n' ρ' os' _ _ E S1 k1 fun q u h'' tk' n'' ρ'' os'' k2 r2 S2 e2 => ?_
  exact eqL_step (s := { s with heap := h'', toks := tk' }) hA S2 (r1.ext e2) r2 k2 fun b k => hQ (.bool b) _ h'' tk' n'' ρ'' os'' k rfl S2 (e1.trans e2)
theorem simTEqL {e₁ e₂ : Expr} {pos : Pos} {m₁ m₂ : EM} (h₁ : SimE G cs nm r e₁ m₁) (h₂ : SimE G cs nm r e₂ m₂) : SimT G cs nm r (.Compare e₁ [.Eq] [e₂] pos) (tEqL m₁ m₂) := by
  intro c hc A hA mp loc ex s n ρ os K Q E S hm hQ
  refine wpAny_isTrue_Compare1 (h₁ c hc A hA mp loc ex s n ρ os _ _ E S hm fun p v h' tk n' ρ' os' k1 r1 S1 e1 => ?_) (behindEq _)
  refine h₂ c hc A hA mp loc ex _ n' ρ' os' _ _ E S1 k1 fun q u h'' tk' n'' ρ'' os'' k2 r2 S2 e2 => ?_
  exact eqL_step (s := { s with heap := h'', toks := tk' }) hA S2 (r1.ext e2) r2 k2 fun b k => wpAny_truthy_bool (hQ b _ h'' tk' n'' ρ'' os'' k rfl S2 (e1.trans e2))

/-! tests -/
noncomputable def tVal (m : EM) : BM := fun loc n os K => m loc n os fun p n os => match p with
  | .bool b => K b n os
  | _ => false
theorem simTVal {e : Expr} {m : EM} (h : SimE G cs nm r e m) (he : ∀ env whole, isTrue e env whole = (do let v ← whole; standAt e.pos; holding [v] (truthy v))) : SimT G cs nm r e (tVal m) := by
  intro c hc A hA mp loc ex s n ρ os K Q E S hm hQ
  refine isTrue_plain (h c hc A hA mp loc ex s n ρ os _ _ E S hm fun p v h' tk n' ρ' os' k1 r1 S1 e1 => ?_) (he _ _)
  cases p with
  | bool b => cases r1; exact wpAny_truthy_bool (hQ b _ h' tk n' ρ' os' k1 rfl S1 e1)
  | _ => cases k1
noncomputable def tNot (m : BM) : BM := fun loc n os K => m loc n os fun b n os => match b with
  | true => K false n os
  | false => K true n os
theorem simTNot {e : Expr} {pos : Pos} {m : BM} (h : SimT G cs nm r e m) : SimT G cs nm r (.UnaryOp .Not e pos) (tNot m) := by
  intro c hc A hA mp loc ex s n ρ os K Q E S hm hQ
  refine isTrue_not (h c hc A hA mp loc ex s n ρ os _ _ E S hm fun p v h' tk n' ρ' os' k1 r1 S1 e1 => ?_)
  cases r1
  cases p with
  | true => exact hQ false _ h' tk n' ρ' os' k1 rfl S1 e1
  | false => exact hQ true _ h' tk n' ρ' os' k1 rfl S1 e1
noncomputable def tAndNil : BM := fun _ n os K => K true n os
noncomputable def tAnd (m₁ m₂ : BM) : BM := fun loc n os K => m₁ loc n os fun b n os => match b with
  | true => m₂ loc n os K
  | false => K false n os
theorem simTAndNil {pos : Pos} : SimT G cs nm r (.BoolOp .And [] pos) tAndNil := fun c hc A hA mp loc ex s n ρ os K Q E S hm hQ =>
  isTrue_and_nil (hQ true _ s.heap s.toks n ρ os hm rfl S .refl)
theorem simTAnd {e : Expr} {es : List Expr} {pos : Pos} {m₁ m₂ : BM} (h₁ : SimT G cs nm r e m₁) (h₂ : SimT G cs nm r (.BoolOp .And es pos) m₂) : SimT G cs nm r (.BoolOp .And (e :: es) pos) (tAnd m₁ m₂) := by
  intro c hc A hA mp loc ex s n ρ os K Q E S hm hQ
  refine isTrue_and (h₁ c hc A hA mp loc ex s n ρ os _ _ E S hm fun p v h' tk n' ρ' os' k1 r1 S1 e1 => ?_)
  cases r1
  cases p with
  | true => exact h₂ c hc A hA mp loc ex _ n' ρ' os' K Q E S1 k1 fun q u h'' tk' n'' ρ'' os'' k2 r2 S2 e2 => hQ q u h'' tk' n'' ρ'' os'' k2 r2 S2 (e1.trans e2)
  | false => exact hQ false _ h' tk n' ρ' os' k1 rfl S1 e1

/-- «a and b» as a value, of two bools -/
noncomputable def eAnd (m₁ m₂ : EM) : EM := fun loc n os K => m₁ loc n os fun p n os => match p with
  | .bool b => match b with
    | true => m₂ loc n os K
    | false => K (.bool false) n os
  | _ => false
theorem simAnd {e₁ e₂ : Expr} {pos : Pos} {m₁ m₂ : EM} (h₁ : SimE G cs nm r e₁ m₁) (h₂ : SimE G cs nm r e₂ m₂) : SimE G cs nm r (.BoolOp .And [e₁, e₂] pos) (eAnd m₁ m₂) := by
  intro c hc A hA mp loc ex s n ρ os K Q E S hm hQ
  refine BoolOp_and (h₁ c hc A hA mp loc ex s n ρ os _ _ E S hm fun p v h' tk n' ρ' os' k1 r1 S1 e1 => ?_)
  cases p with
  | bool b =>
    cases r1
    refine wpAny_truthy_bool ?_
    cases b with
    | true => exact BoolOp_one (h₂ c hc A hA mp loc ex _ n' ρ' os' K Q E S1 k1 fun q u h'' tk' n'' ρ'' os'' k2 r2 S2 e2 => hQ q u h'' tk' n'' ρ'' os'' k2 r2 S2 (e1.trans e2))
    | false => exact hQ (.bool false) _ h' tk n' ρ' os' k1 rfl S1 e1
  | _ => cases k1
noncomputable def eNot (m : EM) : EM := fun loc n os K => m loc n os fun p n os => match p with
  | .bool b => match b with
    | true => K (.bool false) n os
    | false => K (.bool true) n os
  | _ => false
theorem simNot {e₁ : Expr} {pos : Pos} {m₁ : EM} (h₁ : SimE G cs nm r e₁ m₁) : SimE G cs nm r (.UnaryOp .Not e₁ pos) (eNot m₁) := by
  intro c hc A hA mp loc ex s n ρ os K Q E S hm hQ
  refine UnaryOp_ (h₁ c hc A hA mp loc ex s n ρ os _ _ E S hm fun p v h' tk n' ρ' os' k1 r1 S1 e1 => ?_)
  cases p with
  | bool b =>
    cases r1
    refine not_of (wpAny_truthy_bool ?_)
    cases b with
    | true => exact hQ (.bool false) _ h' tk n' ρ' os' k1 rfl S1 e1
    | false => exact hQ (.bool true) _ h' tk n' ρ' os' k1 rfl S1 e1
  | _ => cases k1

noncomputable def eIte (t : BM) (m₁ m₂ : EM) : EM := fun loc n os K => t loc n os fun b n os => match b with
  | true => m₁ loc n os K
  | false => m₂ loc n os K
theorem simIte {t e₁ e₂ : Expr} {pos : Pos} {tm : BM} {m₁ m₂ : EM} (ht : SimT G cs nm r t tm) (h₁ : SimE G cs nm r e₁ m₁) (h₂ : SimE G cs nm r e₂ m₂) : SimE G cs nm r (.IfExp t e₁ e₂ pos) (eIte tm m₁ m₂) := by
  intro c hc A hA mp loc ex s n ρ os K Q E S hm hQ
  refine IfExp_ (ht c hc A hA mp loc ex s n ρ os _ _ E S hm fun p v h' tk n' ρ' os' k1 r1 S1 e1 => ?_)
  cases r1
  cases p with
  | true =>
    rw [if_pos rfl]
    exact h₁ c hc A hA mp loc ex _ n' ρ' os' K Q E S1 k1 fun q u h'' tk' n'' ρ'' os'' k2 r2 S2 e2 => hQ q u h'' tk' n'' ρ'' os'' k2 r2 S2 (e1.trans e2)
  | false =>
    rw [if_neg Bool.false_ne_true]
    exact h₂ c hc A hA mp loc ex _ n' ρ' os' K Q E S1 k1 fun q u h'' tk' n'' ρ'' os'' k2 r2 S2 e2 => hQ q u h'' tk' n'' ρ'' os'' k2 r2 S2 (e1.trans e2)

/-! displays -/
noncomputable def esNil : ES := fun _ n os K => K [] n os
noncomputable def esCons (m : EM) (ms : ES) : ES := fun loc n os K => m loc n os fun p n os => ms loc n os fun ps n os => K (p :: ps) n os
theorem simNil : SimEs G cs nm r [] esNil := fun c hc A hA pos mp loc ex s n ρ os K Q E S hm hQ => spliced_none (hQ [] [] s.heap s.toks n ρ os hm trivial S .refl)
theorem simCons {e : Expr} {es : List Expr} {m : EM} {ms : ES} (h : SimE G cs nm r e m) (hs : SimEs G cs nm r es ms) (he : ∀ env, starEach (e :: es) env = (false, eval e env) :: starEach es env) : SimEs G cs nm r (e :: es) (esCons m ms) := by
  intro c hc A hA pos mp loc ex s n ρ os K Q E S hm hQ
  refine spliced_more (h c hc A hA mp loc ex s n ρ os _ _ E S hm fun p v h' tk n' ρ' os' k1 r1 S1 e1 => ?_) (he _)
  exact hs c hc A hA pos mp loc ex _ n' ρ' os' _ _ E S1 k1 fun ps vs h'' tk' n'' ρ'' os'' k2 r2 S2 e2 => hQ (p :: ps) (v :: vs) h'' tk' n'' ρ'' os'' k2 ⟨r1.ext e2, r2⟩ S2 (e1.trans e2)

/-- an object made -/
noncomputable def mk (o : O) (n : Nat) (os : Hp) (K : KE) : Bool := forceN (n + 1) fun n' => K (.ref n) n' ((n, o) :: os)
theorem mk_ok {o : O} {n : Nat} {os : Hp} {K : KE} (h : mk o n os K = true) : K (.ref n) (n + 1) ((n, o) :: os) = true := by unfold mk at h; rw [forceN_eq] at h; exact h
noncomputable def short (xs : List V) (b : Bool) : Bool := match Nat.ble xs.length 4096 with
  | true => b
  | false => false
theorem short_ok {xs : List V} {b : Bool} (h : short xs b = true) : xs.length ≤ 4096 ∧ b = true := by
  unfold short at h
  split at h
  · rename_i e; exact ⟨Nat.le_of_ble_eq_true e, h⟩
  · cases h
theorem short_line {xs : List V} {vs : List Value} {n : Nat} {ρ : Nat → Addr} (hr : VRs n ρ xs vs) (h : xs.length ≤ 4096) : vs.length ≤ sizeLine := by
  rw [hr.length, sizeLine_eq]; omega
noncomputable def eTup (ms : ES) : EM := fun loc n os K => ms loc n os fun ps n os => short ps (mk (.tup ps) n os K)
noncomputable def eLst (ms : ES) : EM := fun loc n os K => ms loc n os fun ps n os => short ps (mk (.list ps) n os K)
theorem simTup {es : List Expr} {k : Nat} {pos : Pos} {ms : ES} (hs : SimEs G cs nm r es ms) : SimE G cs nm r (.Tuple es k pos) (eTup ms) := by
  intro c hc A hA mp loc ex s n ρ os K Q E S hm hQ
  refine wpAny_Tuple (hs c hc A hA pos mp loc ex s n ρ os _ _ E S hm fun ps vs h' tk n' ρ' os' k1 r1 S1 e1 => ?_)
  obtain ⟨q1, q2⟩ := short_ok k1
  obtain ⟨S', e', v'⟩ := S1.pushed (o := .tup ps) (ob := { cls := .type "tuple", data := .seq vs.toArray }) rfl ⟨vs, 0, ⟨rfl, rfl⟩, r1⟩
  exact ⟨short_line r1 q1, hQ (.ref n') _ _ tk _ _ _ (mk_ok q2) v' S' (e1.trans e')⟩
theorem simLst {es : List Expr} {pos : Pos} {ms : ES} (hs : SimEs G cs nm r es ms) : SimE G cs nm r (.List es pos) (eLst ms) := by
  intro c hc A hA mp loc ex s n ρ os K Q E S hm hQ
  refine wpAny_List (hs c hc A hA pos mp loc ex s n ρ os _ _ E S hm fun ps vs h' tk n' ρ' os' k1 r1 S1 e1 => ?_)
  obtain ⟨q1, q2⟩ := short_ok k1
  obtain ⟨S', e', v'⟩ := S1.pushed (o := .list ps) (ob := { cls := .type "list", data := .seq vs.toArray }) rfl ⟨vs, 0, rfl, r1⟩
  exact ⟨short_line r1 q1, hQ (.ref n') _ _ tk _ _ _ (mk_ok q2) v' S' (e1.trans e')⟩

/-! items -/
noncomputable def lastV : List V → (V → Bool) → Bool
  | [], _ => false
  | [p], k => k p
  | _ :: r, k => lastV r k
theorem lastV_ok {k : V → Bool} : ∀ {xs : List V}, lastV xs k = true → ∃ p, xs[xs.length - 1]? = some p ∧ k p = true ∧ 0 < xs.length
  | [], h => by cases h
  | [p], h => ⟨p, rfl, h, Nat.one_pos⟩
  | _ :: q :: r, h => by
    obtain ⟨p, h1, h2, h3⟩ := lastV_ok (xs := q :: r) h
    exact ⟨p, by simpa using h1, h2, Nat.succ_pos _⟩
noncomputable def subK (os : Hp) (p q : V) (k : V → Bool) : Bool := match p with
  | .ref j => match q with
    | .int i => lookK os j fun o => match o with
      | .list xs => match i with
        | .ofNat i => match Nat.ble i 4096 with
          | true => getV xs i k
          | false => false
        | .negSucc i => match i with
          | 0 => short xs (lastV xs k)
          | _ + 1 => false
      | .tup xs => match i with
        | .ofNat i => match Nat.ble i 4096 with
          | true => getV xs i k
          | false => false
        | .negSucc _ => false
      | _ => false
    | _ => false
  | _ => false
noncomputable def SubOk (slice : Expr) : Prop := ∀ (o : Addr) (k : Int) (u : Tok), subscripted slice false (.ref o) (.int k u) = operate [.ref o, .int k u] (getItem (.ref o) (.int k u))
theorem subK_step {c : Cx G} {A : Around} {mp : Str → Option Value} {loc : List V} {ex : List (Addr × Obj)} {s : Shared} {n : Nat} {ρ : Nat → Addr} {os : Hp} (S : St c nm s.heap mp loc n ρ os ex) {p q : V} {v u : Value}
    (r1 : VR n ρ p v) (r2 : VR n ρ q u) {k : V → Bool} (h : subK os p q k = true) {Q : Value → Shared → Prop} {E : Value → Shared → Prop} {value slice : Expr} (hs : SubOk slice)
    (hQ : ∀ x y, k x = true → VR n ρ x y → Q y s) : wpAny (model G.prog G.w) A (subscriptTail value slice v u) Q E s := by
  unfold subK at h
  cases p with
  | ref j =>
    cases q with
    | int i =>
      obtain ⟨_, rfl⟩ := r1
      obtain ⟨t, rfl⟩ := r2
      dsimp only at h
      obtain ⟨o, h1, h⟩ := lookK_ok h
      cases o with
      | list xs =>
        obtain ⟨vs, _, _, hl, hv, _⟩ := S.D.list h1
        cases i with
        | ofNat i =>
          dsimp only at h
          split at h
          · rename_i hb
            have hb := Nat.le_of_ble_eq_true hb
            obtain ⟨x, hx, hk⟩ := getV_ok h
            obtain ⟨y, hy, hr⟩ := hv.get hx
            exact tail_any hl.typeIs slot_list_getitem.lookup (wpAny_getItem_list hl (Int.natCast_nonneg i) (by show (i : Int) < 2 ^ 63; omega) (by simpa using hy) (hQ x y hk hr)) (hs _ _ _)
          · cases h
        | negSucc i =>
          cases i with
          | zero =>
            dsimp only at h
            obtain ⟨q1, h⟩ := short_ok h
            obtain ⟨x, hx, hk, hp⟩ := lastV_ok h
            obtain ⟨y, hy, hr⟩ := hv.get hx
            have hz : (List.toArray vs).size = xs.length := by rw [List.size_toArray, hv.length]
            refine tail_any hl.typeIs slot_list_getitem.lookup (wpAny_getItem_list_neg hl (by decide) (by rw [hz]; show -(xs.length : Int) ≤ -1; omega) (by decide) ?_ (hQ x y hk hr)) (hs _ _ _)
            rw [hz]
            have e : (Int.negSucc 0 + (xs.length : Int)).toNat = xs.length - 1 := by
              show (-1 + (xs.length : Int)).toNat = _
              omega
            rw [e]
            simpa using hy
          | succ i => cases h
      | tup xs =>
        obtain ⟨vs, hl, hv, _⟩ := S.D.tup h1
        cases i with
        | ofNat i =>
          dsimp only at h
          split at h
          · rename_i hb
            have hb := Nat.le_of_ble_eq_true hb
            obtain ⟨x, hx, hk⟩ := getV_ok h
            obtain ⟨y, hy, hr⟩ := hv.get hx
            have hlt : i < vs.length := (List.getElem?_eq_some_iff.mp hy).1
            refine item_tupleT hl (by show -(2 ^ 63) ≤ (i : Int); omega) (by show (i : Int) < 2 ^ 63; omega) (j := i) ?_ hy (hQ x y hk hr) (hs _ _ _)
            show seqIndex? (i : Int) vs.length = some i
            unfold seqIndex?
            dsimp only
            rw [if_neg (show ¬ ((i : Int) < 0) by omega)]
            first
              | (rw [if_pos (by constructor <;> omega)]; rfl)
              | (rw [if_neg (by omega)]; rfl)
              | (simp; omega)
          · cases h
        | negSucc i => cases h
      | _ => cases h
    | _ => cases h
  | _ => cases h
noncomputable def eSub (m₁ m₂ : EM) : EM := fun loc n os K => m₁ loc n os fun p n os => m₂ loc n os fun q n os => subK os p q fun x => K x n os
theorem simSub {e₁ e₂ : Expr} {pos : Pos} {m₁ m₂ : EM} (hs : SubOk e₂) (h₁ : SimE G cs nm r e₁ m₁) (h₂ : SimE G cs nm r e₂ m₂) : SimE G cs nm r (.Subscript e₁ e₂ pos) (eSub m₁ m₂) := by
  intro c hc A hA mp loc ex s n ρ os K Q E S hm hQ
  refine Subscript_ (h₁ c hc A hA mp loc ex s n ρ os _ _ E S hm fun p v h' tk n' ρ' os' k1 r1 S1 e1 => ?_)
  refine h₂ c hc A hA mp loc ex _ n' ρ' os' _ _ E S1 k1 fun q u h'' tk' n'' ρ'' os'' k2 r2 S2 e2 => ?_
  exact subK_step (s := { s with heap := h'', toks := tk' }) S2 (r1.ext e2) r2 k2 hs fun x y hk hr => hQ x y h'' tk' n'' ρ'' os'' hk hr S2 (e1.trans e2)
end
end Mine
end
-- part M4
section
namespace Mine
open PySem PySem.W PySem.Spec PySem.Calls PyProof.Rows

/-! operations on ints -/
noncomputable def oAdd (a b : Int) : Option Int := some (Int.add a b)
theorem okAdd : OpOk .Add oAdd := fun a b x e _ _ _ _ _ _ _ _ h => by cases e; exact PyProof.Rows.add_int h
theorem okIAdd : IOpOk .Add oAdd := fun a b x e _ _ _ _ _ _ _ _ h => by cases e; exact PyProof.Rows.iadd_int h
noncomputable def oSub (a b : Int) : Option Int := some (Int.sub a b)
theorem okSub : OpOk .Sub oSub := fun a b x e _ _ _ _ _ _ _ _ h => by cases e; exact PyProof.Rows.sub_int h
theorem okISub : IOpOk .Sub oSub := fun a b x e _ _ _ _ _ _ _ _ h => by cases e; exact P.isub_int h
noncomputable def oMul (a b : Int) : Option Int := match Nat.blt a.natAbs 18446744073709551616 with
  | true => some (Int.mul a b)
  | false => none
theorem bits64 {a : Int} (h : a.natAbs < 18446744073709551616) : Builtin.Int.intBits a ≤ 64 := PySem.intBits_le_64 (by omega) (by omega)
theorem okMul : OpOk .Mult oMul := fun a b x e _ _ _ _ _ _ _ _ h => by
  unfold oMul at e
  split at e
  · rename_i hb
    cases e
    exact P.mul_int h (IntMulOk.of_left (bits64 (Nat.le_of_ble_eq_true hb)))
  · cases e
noncomputable def oMod (a b : Int) : Option Int := match b with
  | .ofNat (m + 1) => some (Int.fmod a (.ofNat (m + 1)))
  | _ => none
theorem oMod_ok {a b x : Int} (e : oMod a b = some x) : b ≠ 0 ∧ x = a.fmod b := by
  unfold oMod at e
  split at e
  · rename_i m; cases e; exact ⟨by show ((m + 1 : Nat) : Int) ≠ 0; omega, rfl⟩
  · cases e
theorem okMod : OpOk .Mod oMod := fun a b x e _ _ _ _ _ _ _ _ h => by obtain ⟨h1, rfl⟩ := oMod_ok e; exact mod_int' h1 h
theorem okIMod : IOpOk .Mod oMod := fun a b x e _ _ _ _ _ _ _ _ h => by obtain ⟨h1, rfl⟩ := oMod_ok e; exact imod_int h1 h
noncomputable def oDiv (a b : Int) : Option Int := match b with
  | .ofNat (m + 1) => match Nat.blt (m + 1) 1073741824 with
    | true => some (Int.fdiv a (.ofNat (m + 1)))
    | false => none
  | _ => none
theorem okDiv : OpOk .FloorDiv oDiv := fun a b x e _ _ _ _ _ _ _ _ h => by
  unfold oDiv at e
  split at e
  · rename_i m
    split at e
    · rename_i hb
      cases e
      have hb : m + 1 < 1073741824 := Nat.le_of_ble_eq_true hb
      exact floordiv_int (by show ((m + 1 : Nat) : Int) ≠ 0; omega) h (.inl (PyProof.noPylong_small (by show Int.natAbs ((m + 1 : Nat) : Int) < _; omega)))
    · cases e
  · cases e
noncomputable def oShl (a b : Int) : Option Int := match b with
  | .ofNat k => match Nat.ble k 1000 with
    | true => match Nat.blt a.natAbs 18446744073709551616 with
      | true => some (Int.mul a (.ofNat (Nat.pow 2 k)))
      | false => none
    | false => none
  | _ => none
theorem okShl : OpOk .LShift oShl := fun a b x e _ _ _ _ _ _ _ _ h => by
  unfold oShl at e
  split at e
  · rename_i k
    split at e
    · rename_i hk
      split at e
      · rename_i hb
        cases e
        have hk := Nat.le_of_ble_eq_true hk
        refine lshift_int_small (Int.natCast_nonneg k) (by show (k : Int) ≤ _; omega) (by have := Nat.le_of_ble_eq_true hb; omega) ?_
        have e2 : (2 : Int) ^ (Int.ofNat k).toNat = ((2 ^ k : Nat) : Int) := by
          show (2 : Int) ^ k = _
          rw [Int.natCast_pow]; rfl
        rw [e2]; exact h
      · cases e
    · cases e
  · cases e
noncomputable def oShr (a b : Int) : Option Int := match a with
  | .ofNat x => match b with
    | .ofNat k => match Nat.ble k 1000 with
      | true => some (.ofNat (Nat.div x (Nat.pow 2 k)))
      | false => none
    | _ => none
  | _ => none
theorem oShr_ok {a b x : Int} (e : oShr a b = some x) : 0 ≤ b ∧ x = a.fdiv (2 ^ b.toNat) := by
  unfold oShr at e
  split at e
  · rename_i y
    split at e
    · rename_i k
      split at e
      · cases e
        refine ⟨Int.natCast_nonneg k, ?_⟩
        have e2 : (2 : Int) ^ (Int.ofNat k).toNat = ((2 ^ k : Nat) : Int) := by
          show (2 : Int) ^ k = _
          rw [Int.natCast_pow]; rfl
        rw [e2, Int.fdiv_eq_ediv_of_nonneg _ (Int.natCast_nonneg _)]
        show ((y / 2 ^ k : Nat) : Int) = (y : Int) / ((2 ^ k : Nat) : Int)
        exact Int.natCast_ediv ..
      · cases e
    · cases e
  · cases e
theorem okShr : OpOk .RShift oShr := fun a b x e _ _ _ _ _ _ _ _ h => by obtain ⟨h1, rfl⟩ := oShr_ok e; exact rshift_int h1 h
theorem okIShr : IOpOk .RShift oShr := fun a b x e _ _ _ _ _ _ _ _ h => by obtain ⟨h1, rfl⟩ := oShr_ok e; exact irshift_int h1 h
noncomputable def oPow (a b : Int) : Option Int := match a with
  | .ofNat x => match b with
    | .ofNat k => match Nat.ble k 1000 with
      | true => match Nat.blt x 18446744073709551616 with
        | true => some (.ofNat (Nat.pow x k))
        | false => none
      | false => none
    | _ => none
  | _ => none
theorem okPow : OpOk .Pow oPow := fun a b x e _ _ _ _ _ _ _ _ h => by
  unfold oPow at e
  split at e
  · rename_i y
    split at e
    · rename_i k
      split at e
      · rename_i hk
        split at e
        · rename_i hb
          cases e
          have hk := Nat.le_of_ble_eq_true hk
          have hb : y < 18446744073709551616 := Nat.le_of_ble_eq_true hb
          refine pow_int_small (Int.natCast_nonneg k) (by show (k : Int) ≤ _; omega) (by show Int.natAbs (y : Int) < _; omega) ?_
          have e2 : (Int.ofNat y) ^ (Int.ofNat k).toNat = ((y ^ k : Nat) : Int) := by
            show (y : Int) ^ k = _
            rw [Int.natCast_pow]
          rw [e2]; exact h
        · cases e
      · cases e
    · cases e
  · cases e
noncomputable def oAnd (a b : Int) : Option Int := match a with
  | .ofNat x => match b with
    | .ofNat y => some (.ofNat (Nat.land x y))
    | _ => none
  | _ => none
theorem bitAnd_nat (x y : Nat) : Builtin.bitAnd (x : Int) (y : Int) = ((x &&& y : Nat) : Int) := by
  unfold Builtin.bitAnd
  have h1 : decide ((0 : Int) ≤ (x : Int)) = true := decide_eq_true (Int.natCast_nonneg x)
  have h2 : decide ((0 : Int) ≤ (y : Int)) = true := decide_eq_true (Int.natCast_nonneg y)
  rw [h1, h2]
  rfl
theorem bitOr_nat (x y : Nat) : Builtin.bitOr (x : Int) (y : Int) = ((x ||| y : Nat) : Int) := by
  unfold Builtin.bitOr Builtin.bitAnd
  have n1 : ∀ z : Nat, Builtin.bitNot (z : Int) = Int.negSucc z := fun z => by unfold Builtin.bitNot; omega
  have n2 : ∀ z : Nat, Builtin.bitNot (Int.negSucc z) = (z : Int) := fun z => by unfold Builtin.bitNot; omega
  rw [n1, n1]
  have h1 : decide ((0 : Int) ≤ Int.negSucc x) = false := decide_eq_false (by omega)
  have h2 : decide ((0 : Int) ≤ Int.negSucc y) = false := decide_eq_false (by omega)
  rw [h1, h2]
  dsimp only
  rw [n2, n2, n1, n2]
  rfl
theorem okAnd : OpOk .BitAnd oAnd := fun a b x e _ _ _ _ _ _ _ _ h => by
  unfold oAnd at e
  split at e
  · rename_i y
    split at e
    · rename_i z
      cases e
      refine and_int ?_
      rw [show Builtin.bitAnd (Int.ofNat y) (Int.ofNat z) = _ from bitAnd_nat y z]; exact h
    · cases e
  · cases e
noncomputable def oOr (a b : Int) : Option Int := match a with
  | .ofNat x => match b with
    | .ofNat y => some (.ofNat (Nat.lor x y))
    | _ => none
  | _ => none
theorem okOr : OpOk .BitOr oOr := fun a b x e _ _ _ _ _ _ _ _ h => by
  unfold oOr at e
  split at e
  · rename_i y
    split at e
    · rename_i z
      cases e
      refine or_int ?_
      rw [show Builtin.bitOr (Int.ofNat y) (Int.ofNat z) = _ from bitOr_nat y z]; exact h
    · cases e
  · cases e

/-! comparisons of ints -/
theorem okLt : CmpOk .Lt Z.ltB := ⟨behindOf (by decide), fun a b _ _ _ _ _ _ _ _ h => P.lt_int (by rw [show decide (a < b) = Z.ltB a b by rw [Bool.eq_iff_iff, Z.ltB_iff]; simp]; exact h)⟩
theorem okGt : CmpOk .Gt (fun a b => Z.ltB b a) := ⟨behindOf (by decide), fun a b _ _ _ _ _ _ _ _ h => P.gt_int (by rw [show decide (a > b) = Z.ltB b a by rw [Bool.eq_iff_iff, Z.ltB_iff]; simp]; exact h)⟩
theorem okLe : CmpOk .LtE Z.leB := ⟨behindOf (by decide), fun a b _ _ _ _ _ _ _ _ h => P.le_int (by rw [show decide (a ≤ b) = Z.leB a b by rw [Bool.eq_iff_iff, Z.leB_iff]; simp]; exact h)⟩
theorem okGe : CmpOk .GtE (fun a b => Z.leB b a) := ⟨behindOf (by decide), fun a b _ _ _ _ _ _ _ _ h => P.ge_int (by rw [show decide (a ≥ b) = Z.leB b a by rw [Bool.eq_iff_iff, Z.leB_iff]; simp]; exact h)⟩
theorem eqB_beq (a b : Int) : (a == b) = Z.eqB a b := by rw [Bool.eq_iff_iff, Z.eqB_iff]; simp
theorem okEq : CmpOk .Eq Z.eqB := ⟨behindOf (by decide), fun a b _ _ _ _ _ _ _ _ h => P.eq_int (by rw [eqB_beq]; exact h)⟩
noncomputable def cNe (a b : Int) : Bool := match Z.eqB a b with
  | true => false
  | false => true
theorem okNe : CmpOk .NotEq cNe := ⟨behindOf (by decide), fun a b _ _ _ _ _ _ _ _ h => P.ne_int (by
  rw [show (a != b) = cNe a b by unfold bne cNe; rw [eqB_beq]; cases Z.eqB a b <;> rfl]; exact h)⟩
end Mine
end
-- part M5
section
namespace Mine
open PySem PySem.W PySem.Spec PySem.Calls PyProof.Rows

section
variable {G : Gd} {cs : Scope} {nm : List Str} {r : Nat}

/-! statements -/
noncomputable def ssNil : SM := fun loc n os K => K .nxt loc n os
noncomputable def ssCons (a b : SM) : SM := fun loc n os K => a loc n os fun fl loc n os => match fl with
  | .nxt => b loc n os K
  | .brk => K .brk loc n os
  | .cnt => K .cnt loc n os
  | .ret v => K (.ret v) loc n os
theorem simSsNil : SimSs G cs nm r [] ssNil := fun c hc A hA ex s mp loc n ρ os K Q E S hm hQ =>
  wpAny_execs_nil (hQ .nxt _ s.heap s.toks mp loc n ρ os hm rfl S .refl)
theorem simSsCons {st : Stmt} {sts : List Stmt} {a b : SM} (h₁ : SimS G cs nm r st a) (h₂ : SimSs G cs nm r sts b) : SimSs G cs nm r (st :: sts) (ssCons a b) := by
  intro c hc A hA ex s mp loc n ρ os K Q E S hm hQ
  refine wpAny_execs_cons (h₁ c hc A hA ex s mp loc n ρ os _ _ E S hm fun fl f h' tk mp' loc' n' ρ' os' k1 r1 S1 e1 => ?_)
  cases fl with
  | nxt =>
    cases r1
    exact h₂ c hc A hA ex _ mp' loc' n' ρ' os' K Q E S1 k1 fun fl f h'' tk' mp'' loc'' n'' ρ'' os'' k2 r2 S2 e2 => hQ fl f h'' tk' mp'' loc'' n'' ρ'' os'' k2 r2 S2 (e1.trans e2)
  | brk => cases r1; exact hQ .brk _ h' tk mp' loc' n' ρ' os' k1 rfl S1 e1
  | cnt => cases r1; exact hQ .cnt _ h' tk mp' loc' n' ρ' os' k1 rfl S1 e1
  | ret v => obtain ⟨w, rfl, hw⟩ := r1; exact hQ (.ret v) _ h' tk mp' loc' n' ρ' os' k1 ⟨w, rfl, hw⟩ S1 e1

/-- a local name is set -/
theorem St.store {c : Cx G} {h h' : Heap} {mp : Str → Option Value} {loc : List V} {n : Nat} {ρ : Nat → Addr} {os : Hp} {ex : List (Addr × Obj)} (S : St c nm h mp loc n ρ os ex) {x : Str} {i : Nat} {p : V} {v : Value}
    (hi : nm[i]? = some x) (nd : nm.Nodup) (hr : VR n ρ p v) (hn : h'.Ns c.L (fun y => if y = x then some v else mp y)) (hs : Heap.SameBut c.L h h') : St c nm h' (fun y => if y = x then some v else mp y) (loc.set i p) n ρ os ex := by
  refine ⟨S.F.set hn hs, ?_, ⟨fun j y q h1 h2 => ?_⟩⟩
  · obtain ⟨l, k1, k2, k3⟩ := S.D.led
    exact ⟨l, k1, k2.set hs, k3⟩
  · by_cases hj : i = j
    · subst hj
      have : y = x := Option.some.inj (h1.symm.trans hi)
      subst this
      rw [List.getElem?_set_self' ] at h2
      cases hl : loc[i]? with
      | none => rw [hl] at h2; cases h2
      | some q' => rw [hl] at h2; cases h2; exact .inr ⟨v, if_pos rfl, hr⟩
    · have ne : y ≠ x := fun e => by
        subst e
        obtain ⟨l1, e1⟩ := List.getElem?_eq_some_iff.mp h1
        obtain ⟨l2, e2⟩ := List.getElem?_eq_some_iff.mp hi
        exact hj ((List.getElem_inj nd).mp (e2.trans e1.symm))
      rw [List.getElem?_set_ne hj] at h2
      rcases S.l.at' j y q h1 h2 with h | ⟨u, hu, hr'⟩
      · exact .inl h
      · exact .inr ⟨u, (if_neg ne).trans hu, hr'⟩
/-- storeName of a local -/
theorem store_step {c : Cx G} (hc : c.cs = cs) {A : Around} {s : Shared} {mp : Str → Option Value} {loc : List V} {n : Nat} {ρ : Nat → Addr} {os : Hp} {ex : List (Addr × Obj)} (S : St c nm s.heap mp loc n ρ os ex) {x : Str} {i : Nat} {p : V} {v : Value}
    (hi : nm[i]? = some x) (nd : nm.Nodup) (hl : cs.names.lookup x = some .local) (hr : VR n ρ p v) {Q : Unit → Shared → Prop} {E : Value → Shared → Prop}
    (hQ : ∀ h', St c nm h' (fun y => if y = x then some v else mp y) (loc.set i p) n ρ os ex → Q () { s with heap := h', toks := s.toks + 1 }) : wpAny (model G.prog G.w) A (storeName c.env x v) Q E s := by
  subst hc
  exact wpAny_storeName_local (env := c.env) hl S.F.ns (fun h' hn hs => hQ h' (S.store hi nd hr hn hs)) (by show (c.cs.kind == .class || (c.cs.kind == .module && c.L != mainGlobals)) = false; rw [c.hk]; rfl)

noncomputable def sAsg (i : Nat) (m : EM) : SM := fun loc n os K => m loc n os fun p n os => setV loc i p fun loc => K .nxt loc n os
theorem simAsg {x : Str} {pos' pos : Pos} {e : Expr} {i : Nat} {m : EM} (hi : nm[i]? = some x) (nd : nm.Nodup) (hl : cs.names.lookup x = some .local)
    (hs : ∀ env, swapsWith e (some (.Name x pos')) pos.line env = pure false) (h : SimE G cs nm r e m) : SimS G cs nm r (.Assign [.Name x pos'] e pos) (sAsg i m) := by
  intro c hc A hA ex s mp loc n ρ os K Q E S hm hQ
  refine wpAny_Assign_Name (h c hc A hA mp loc ex s n ρ os _ _ E S hm fun p v h' tk n' ρ' os' k1 r1 S1 e1 => ?_) (hs _)
  obtain ⟨_, k2⟩ := setV_ok k1
  exact store_step (s := { s with heap := h', toks := tk }) hc S1 hi nd hl r1 fun h'' S2 => hQ .nxt _ h'' _ _ _ n' ρ' os' k2 rfl S2 e1

noncomputable def sAug (i : Nat) (op : Int → Int → Option Int) (m : EM) : SM := fun loc n os K => getV loc i fun p => match p with
  | .int a => m loc n os fun q n os => binK op (.int a) q fun x => setV loc i x fun loc => K .nxt loc n os
  | _ => false
theorem simAug {x : Str} {pos' pos : Pos} {e : Expr} {i : Nat} {m : EM} {o : Operator} {op : Int → Int → Option Int} (hop : IOpOk o op) (hi : nm[i]? = some x) (nd : nm.Nodup) (hl : cs.names.lookup x = some .local)
    (h : SimE G cs nm r e m) : SimS G cs nm r (.AugAssign (.Name x pos') o e pos) (sAug i op m) := by
  intro c hc A hA ex s mp loc n ρ os K Q E S hm hQ
  obtain ⟨p, hp, k0⟩ := getV_ok hm
  cases p with
  | int a =>
    rcases S.l.at' i x _ hi hp with h0 | ⟨v, hv, t, rfl⟩
    · cases h0
    · refine wpAny_AugAssign_Name (wpAny_loadName_local (env := c.env) c.hk (by subst hc; exact hl) S.F.ns hv ?_)
      refine h c hc A hA mp loc ex s n ρ os _ _ E S k0 fun q u h' tk n' ρ' os' k1 r1 S1 e1 => ?_
      obtain ⟨a', b, y, e0, rfl, e, k⟩ := binK_ok k1
      cases e0
      obtain ⟨t', rfl⟩ := r1
      obtain ⟨_, k2⟩ := setV_ok k
      refine hop a b y e _ _ _ _ _ _ _ _ ?_
      exact store_step (s := { s with heap := h', toks := tk + 1 }) (p := .int y) hc S1 hi nd hl ⟨_, rfl⟩ fun h'' S2 => hQ .nxt _ h'' _ _ _ n' ρ' os' k2 rfl S2 e1
  | _ => cases k0

noncomputable def sIf (t : BM) (a b : SM) : SM := fun loc n os K => t loc n os fun c n os => match c with
  | true => a loc n os K
  | false => b loc n os K
theorem simIf {t : Expr} {b₁ b₂ : List Stmt} {pos : Pos} {tm : BM} {m₁ m₂ : SM} (ht : SimT G cs nm r t tm) (h₁ : SimSs G cs nm r b₁ m₁) (h₂ : SimSs G cs nm r b₂ m₂) : SimS G cs nm r (.If t b₁ b₂ pos) (sIf tm m₁ m₂) := by
  intro c hc A hA ex s mp loc n ρ os K Q E S hm hQ
  refine wpAny_If (ht c hc A hA mp loc ex s n ρ os _ _ E S hm fun p v h' tk n' ρ' os' k1 r1 S1 e1 => ?_)
  cases r1
  cases p with
  | true =>
    rw [if_pos rfl]
    exact h₁ c hc A hA ex _ mp loc n' ρ' os' K Q E S1 k1 fun fl f h'' tk' mp'' loc'' n'' ρ'' os'' k2 r2 S2 e2 => hQ fl f h'' tk' mp'' loc'' n'' ρ'' os'' k2 r2 S2 (e1.trans e2)
  | false =>
    rw [if_neg Bool.false_ne_true]
    exact h₂ c hc A hA ex _ mp loc n' ρ' os' K Q E S1 k1 fun fl f h'' tk' mp'' loc'' n'' ρ'' os'' k2 r2 S2 e2 => hQ fl f h'' tk' mp'' loc'' n'' ρ'' os'' k2 r2 S2 (e1.trans e2)

noncomputable def sRet (m : EM) : SM := fun loc n os K => m loc n os fun p n os => K (.ret p) loc n os
theorem simRet {e : Expr} {pos : Pos} {m : EM} (h : SimE G cs nm r e m) : SimS G cs nm r (.Return (some e) pos) (sRet m) := by
  intro c hc A hA ex s mp loc n ρ os K Q E S hm hQ
  exact wpAny_Return_some (h c hc A hA mp loc ex s n ρ os _ _ E S hm fun p v h' tk n' ρ' os' k1 r1 S1 e1 => hQ (.ret p) _ h' tk mp loc n' ρ' os' k1 ⟨v, rfl, r1⟩ S1 e1)
noncomputable def sCnt : SM := fun loc n os K => K .cnt loc n os
theorem simCnt {pos : Pos} : SimS G cs nm r (.Continue pos) sCnt := fun c hc A hA ex s mp loc n ρ os K Q E S hm hQ => wpAny_Continue (hQ .cnt _ s.heap s.toks mp loc n ρ os hm rfl S .refl)
/-- a raise is never come to -/
noncomputable def sNever : SM := fun _ _ _ _ => false
theorem simNever {st : Stmt} : SimS G cs nm r st sNever := fun c hc A hA ex s mp loc n ρ os K Q E S hm hQ => by cases hm
noncomputable def sExp (m : EM) : SM := fun loc n os K => m loc n os fun _ n os => K .nxt loc n os
theorem simExp {e : Expr} {pos : Pos} {m : EM} (h : SimE G cs nm r e m) (hi : ∀ c : Cx G, c.cs = cs → interactive c.env = false) (hs : ∀ env, swapsWith e none pos.line env = pure false) : SimS G cs nm r (.Expr e pos) (sExp m) := by
  intro c hc A hA ex s mp loc n ρ os K Q E S hm hQ
  exact wpAny_Expr_any (h c hc A hA mp loc ex s n ρ os _ _ E S hm fun p v h' tk n' ρ' os' k1 r1 S1 e1 => hQ .nxt _ h' tk mp loc n' ρ' os' k1 rfl S1 e1) (hi c hc) (hs _)

/-! while -/
noncomputable def loopW (t : BM) (b : SM) : Nat → SM
  | 0 => fun _ _ _ _ => false
  | f + 1 => fun loc n os K => t loc n os fun c n os => match c with
    | true => b loc n os fun fl loc n os => match fl with
      | .nxt => loopW t b f loc n os K
      | .cnt => loopW t b f loc n os K
      | .brk => K .nxt loc n os
      | .ret v => K (.ret v) loc n os
    | false => K .nxt loc n os
theorem simWhile (fuel : Nat) {t : Expr} {body : List Stmt} {pos : Pos} {tm : BM} {m : SM} (ht : SimT G cs nm r t tm) (h : SimSs G cs nm r body m) : SimS G cs nm r (.While t body [] pos) (loopW tm m fuel) := by
  intro c hc A hA ex s mp loc n ρ os K Q E S hm hQ
  refine wpAny_While ?_
  refine codeAny_whileLoop (fun f s' => ∃ h' tk mp' loc' n' ρ' os', s' = { s with heap := h', toks := tk } ∧ loopW tm m f loc' n' os' K = true ∧ St c nm h' mp' loc' n' ρ' os' ex ∧ Ext n ρ n' ρ') ?_ fuel
    ⟨s.heap, s.toks, mp, loc, n, ρ, os, rfl, hm, S, .refl⟩
  rintro f s' ⟨h', tk, mp', loc', n', ρ', os', rfl, k, S', e'⟩
  cases f with
  | zero => cases k
  | succ f =>
    unfold loopW at k
    refine ht c hc A hA mp' loc' ex _ n' ρ' os' _ _ _ S' k fun p v h'' tk' n'' ρ'' os'' k1 r1 S1 e1 => ?_
    cases r1
    cases p with
    | false =>
      rw [if_neg Bool.false_ne_true]
      exact wpAny_execs_nil (hQ .nxt _ h'' tk' mp' loc' n'' ρ'' os'' k1 rfl S1 (e'.trans e1))
    | true =>
      rw [if_pos rfl]
      refine h c hc A hA ex _ mp' loc' n'' ρ'' os'' _ _ _ S1 k1 fun fl g h₃ tk₃ mp₃ loc₃ n₃ ρ₃ os₃ k3 r3 S3 e3 => ?_
      have ee := e'.trans (e1.trans e3)
      cases fl with
      | nxt => cases r3; exact ⟨f, Nat.lt_succ_self f, h₃, tk₃, mp₃, loc₃, n₃, ρ₃, os₃, rfl, k3, S3, ee⟩
      | cnt => cases r3; exact ⟨f, Nat.lt_succ_self f, h₃, tk₃, mp₃, loc₃, n₃, ρ₃, os₃, rfl, k3, S3, ee⟩
      | brk => cases r3; exact hQ .nxt _ h₃ tk₃ mp₃ loc₃ n₃ ρ₃ os₃ k3 rfl S3 ee
      | ret v => obtain ⟨u, rfl, hu⟩ := r3; exact hQ (.ret v) _ h₃ tk₃ mp₃ loc₃ n₃ ρ₃ os₃ k3 ⟨u, rfl, hu⟩ S3 ee

/-! for over a range -/
noncomputable def loopR (i : Nat) (b : SM) (st : Int) : Nat → Int → SM
  | 0, _ => fun loc n os K => K .nxt loc n os
  | f + 1, x => fun loc n os K => setV loc i (.int x) fun loc => b loc n os fun fl loc n os => match fl with
    | .nxt => forceI (Int.add x st) fun x' => loopR i b st f x' loc n os K
    | .cnt => forceI (Int.add x st) fun x' => loopR i b st f x' loc n os K
    | .brk => K .nxt loc n os
    | .ret v => K (.ret v) loc n os
/-- «range(lo, hi, st)», its three values made -/
noncomputable abbrev RM := List V → Nat → Hp → (Int → Int → Int → Nat → Hp → Bool) → Bool
noncomputable def GoR (c : Cx G) (A : Around) (nm : List Str) (iter : Expr) (m : RM) : Prop :=
  ∀ (mp : Str → Option Value) (loc : List V) (ex : List (Addr × Obj)) (s : Shared) (n : Nat) (ρ : Nat → Addr) (os : Hp) (K : Int → Int → Int → Nat → Hp → Bool) (Q E : Value → Shared → Prop),
    St c nm s.heap mp loc n ρ os ex → m loc n os K = true →
    (∀ lo hi st a t u v h' tk n' ρ' os', K lo hi st n' os' = true → IsRange h' a lo hi st t u v → St c nm h' mp loc n' ρ' os' ex → Ext n ρ n' ρ' → Q (.ref a) { s with heap := h', toks := tk }) →
    wpAny (model G.prog G.w) A (eval iter c.env) Q E s
noncomputable def SimR (G : Gd) (cs : Scope) (nm : List Str) (r : Nat) (e : Expr) (m : RM) : Prop := ∀ (c : Cx G), c.cs = cs → ∀ (A : Around), AOk c r A → GoR c A nm e m
noncomputable def sForR (i : Nat) (rm : RM) (b : SM) : SM := fun loc n os K => rm loc n os fun lo hi st n os => match Builtin.Range.small lo hi st with
  | true => loopR i b st (Builtin.Range.rangeSize lo hi st).toNat lo loc n os K
  | false => false
theorem rangeSize_nonneg (a b c : Int) : 0 ≤ Builtin.Range.rangeSize a b c := by
  unfold Builtin.Range.rangeSize
  split <;> split <;> first | omega | (have := Int.ediv_nonneg (a := b - a - 1) (b := c) (by omega) (by omega); omega) | (have := Int.ediv_nonneg (a := a - b - 1) (b := -c) (by omega) (by omega); omega)
theorem simForR {x : Str} {px pos : Pos} {iter : Expr} {body : List Stmt} {i : Nat} {rm : RM} {m : SM} (hi : nm[i]? = some x) (nd : nm.Nodup) (hl : cs.names.lookup x = some .local) (hs : ∀ env v, foldedSetIterable iter env v = pure v)
    (hr : SimR G cs nm r iter rm) (h : SimSs G cs nm r body m) : SimS G cs nm r (.For (.Name x px) iter body [] pos) (sForR i rm m) := by
  intro c hc A hA ex s mp loc n ρ os K Q E S hm hQ
  refine wpAny_For (hr c hc A hA mp loc ex s n ρ os _ _ E S hm fun lo hi' st a t u v h' tk n' ρ' os' k1 r1 S1 e1 => ?_) (hs _)
  split at k1
  case h_2 => cases k1
  rename_i hsm
  refine wpAny_pyIter_range r1 hsm ?_
  have S2 : St c nm (h'.push { cls := .type "range_iterator", data := .fields #[rawInt lo, rawInt (Builtin.Range.rangeSize lo hi' st), rawInt st] }) mp loc n' ρ' os'
      ((h'.objs.size, { cls := .type "range_iterator", data := .fields #[rawInt lo, rawInt (Builtin.Range.rangeSize lo hi' st), rawInt st] }) :: ex) :=
    ⟨S1.F.push _, S1.D.newEx S1.F (Nat.le_refl _) (fun b o e => Heap.get?_push_of_some _ e) (Heap.get?_push_size _ rfl), S1.l⟩
  refine codeAny_forLoop_any (fun f s' => ∃ (h' : Heap) (tk : Nat) (mp' : Str → Option Value) (loc' : List V) (n' : Nat) (ρ' : Nat → Addr) (os' : Hp) (k : Nat) (y : Int), f = k + 1 ∧ s' = { s with heap := h', toks := tk } ∧ loopR i m st k y loc' n' os' K = true ∧
      St c nm h' mp' loc' n' ρ' os' ((_, { cls := .type "range_iterator", data := .fields #[rawInt y, rawInt (k : Nat), rawInt st] }) :: ex) ∧ Ext n ρ n' ρ') ?_ _
    ⟨_, tk, mp, loc, n', ρ', os', (Builtin.Range.rangeSize lo hi' st).toNat, lo, rfl, rfl, k1, by rw [Int.toNat_of_nonneg (rangeSize_nonneg ..)]; exact S2, e1⟩
  generalize h'.objs.size = it
  clear S2 S1 r1 k1 e1
  rintro f s' ⟨h', tk, mp', loc', n', ρ', os', k, y, rfl, rfl, k1, S', e'⟩
  obtain ⟨hit, hiL, hin⟩ := S'.D.exAt (.head _)
  cases k with
  | zero =>
    refine wpAny_pyNext_range_end hA.hd hit (by decide) fun h₁ he => wpAny_execs_nil ?_
    exact hQ .nxt _ h₁ tk mp' loc' n' ρ' os' k1 rfl ⟨Fr.lost S'.F hiL hin he, S'.D.lostEx he, S'.l⟩ e'
  | succ k =>
    unfold loopR at k1
    obtain ⟨_, k2⟩ := setV_ok k1
    refine wpAny_pyNext_range_item hit (by omega) fun h₁ hit₁ hs₁ => ?_
    have hit₂ : h₁.get? it = some { cls := .type "range_iterator", data := .fields #[rawInt (y + st), rawInt (k : Nat), rawInt st] } := by
      have e0 : ((k + 1 : Nat) : Int) - 1 = (k : Nat) := by omega
      rw [← e0]; exact hit₁
    have S3 : St c nm h₁ mp' loc' n' ρ' os' ((it, { cls := .type "range_iterator", data := .fields #[rawInt (y + st), rawInt (k : Nat), rawInt st] }) :: ex) := ⟨S'.F.change hs₁ hiL hin, S'.D.turnEx hs₁ hit₂, S'.l⟩
    show wpAny _ A (pure ()) _ _ _
    refine wpAny_pure (assign_Name ?_)
    refine store_step (s := { s with heap := h₁, toks := tk + 1 }) (p := .int y) hc S3 hi nd hl ⟨_, rfl⟩ fun h₂ S4 => ?_
    refine h c hc A hA _ _ _ _ n' ρ' os' _ _ _ S4 k2 fun fl g h₃ tk₃ mp₃ loc₃ n₃ ρ₃ os₃ k3 r3 S5 e3 => ?_
    cases fl with
    | nxt => cases r3; rw [forceI_eq] at k3; exact ⟨k + 1, Nat.lt_succ_self _, h₃, tk₃, mp₃, loc₃, n₃, ρ₃, os₃, k, y + st, rfl, rfl, k3, S5, e'.trans e3⟩
    | cnt => cases r3; rw [forceI_eq] at k3; exact ⟨k + 1, Nat.lt_succ_self _, h₃, tk₃, mp₃, loc₃, n₃, ρ₃, os₃, k, y + st, rfl, rfl, k3, S5, e'.trans e3⟩
    | brk => cases r3; exact hQ .nxt _ h₃ tk₃ mp₃ loc₃ n₃ ρ₃ os₃ k3 rfl ⟨S5.F, S5.D.dropEx, S5.l⟩ (e'.trans e3)
    | ret v => obtain ⟨u, rfl, hu⟩ := r3; exact hQ (.ret v) _ h₃ tk₃ mp₃ loc₃ n₃ ρ₃ os₃ k3 ⟨u, rfl, hu⟩ ⟨S5.F, S5.D.dropEx, S5.l⟩ (e'.trans e3)
end
end Mine
end
-- part M6
section
namespace Mine
open PySem PySem.W PySem.Spec PySem.Calls PyProof.Rows

section
variable {G : Gd} {cs : Scope} {nm : List Str} {r : Nat}

/-- no star among the arguments -/
noncomputable def Plain (es : List Expr) : Prop := match es with
  | [] => True
  | e :: es => ∀ env, starEach (e :: es) env = (false, eval e env) :: starEach es env
noncomputable def AllPlain : List Expr → Prop
  | [] => True
  | e :: es => Plain (e :: es) ∧ AllPlain es
theorem AllPlain.any {es : List Expr} (h : AllPlain es) (pos : Pos) (env : Env) : (backTo pos (starEach es env)).any (·.1) = false := by
  induction es with
  | nil => rfl
  | cons e es ih =>
    rw [h.1 env]
    show (false || (backTo pos (starEach es env)).any (·.1)) = false
    rw [ih h.2]; rfl

/-- the callee's name is one of the built-ins -/
structure IsBoot (G : Gd) (cs : Scope) (x : Str) (v : Value) : Prop where
  n : nsIn G.K mainGlobals x = some none
  b : bootBuiltins x = some v
  m : x ≠ "__name__"
  k : cs.names.lookup x = some .globalImplicit
  d : (x == ("__debug__" : Str)) = false
theorem IsBoot.name {x : Str} {v : Value} (B : IsBoot G cs x v) {c : Cx G} (hc : c.cs = cs) {A : Around} {pos : Pos} {s : Shared} {mp : Str → Option Value} {loc : List V} {n : Nat} {ρ : Nat → Addr} {os : Hp} {ex : List (Addr × Obj)}
    (S : St c nm s.heap mp loc n ρ os ex) {Q E : Value → Shared → Prop} (h : Q v s) : wpAny (model G.prog G.w) A (eval (.Name x pos) c.env) Q E s := by
  subst hc
  exact nameX_B S.F c.X (topRead_of c.T) B.n B.b B.m h c.hk B.k B.d

/-- a call of a built-in function with the arguments made -/
theorem boot_call {x : Str} {id : String} (B : IsBoot G cs x (.builtin id)) {np pos : Pos} {e : Expr} {es : List Expr} {ms : ES} (hs : SimEs G cs nm r (e :: es) ms) (hp : AllPlain (e :: es)) {c : Cx G} (hc : c.cs = cs) {A : Around} (hA : AOk c r A)
    {mp : Str → Option Value} {loc : List V} {ex : List (Addr × Obj)} {s : Shared} {n : Nat} {ρ : Nat → Addr} {os : Hp} {K : List V → Nat → Hp → Bool} {Q E : Value → Shared → Prop} (S : St c nm s.heap mp loc n ρ os ex) (hm : ms loc n os K = true)
    (hQ : ∀ ps vs h' tk n' ρ' os', K ps n' os' = true → VRs n' ρ' ps vs → St c nm h' mp loc n' ρ' os' ex → Ext n ρ n' ρ' → wpAny (model G.prog G.w) A (call (.builtin id) vs) Q E { s with heap := h', toks := tk }) :
    wpAny (model G.prog G.w) A (eval (.Call (.Name x np) (e :: es) [] pos) c.env) Q E s :=
  Call_ (B.name hc S (PyProof.Rows.callWith_builtin1 (hs c hc A hA pos mp loc ex s n ρ os K _ E S hm hQ) (hp.1 _) (hp.2.any _ _)))
theorem boot_type {x : Str} {T : String} (B : IsBoot G cs x (.type T)) {np pos : Pos} {e : Expr} {es : List Expr} {ms : ES} (hs : SimEs G cs nm r (e :: es) ms) (hp : AllPlain (e :: es)) {c : Cx G} (hc : c.cs = cs) {A : Around} (hA : AOk c r A)
    {mp : Str → Option Value} {loc : List V} {ex : List (Addr × Obj)} {s : Shared} {n : Nat} {ρ : Nat → Addr} {os : Hp} {K : List V → Nat → Hp → Bool} {Q E : Value → Shared → Prop} (S : St c nm s.heap mp loc n ρ os ex) (hm : ms loc n os K = true)
    (hQ : ∀ ps vs h' tk n' ρ' os', K ps n' os' = true → VRs n' ρ' ps vs → St c nm h' mp loc n' ρ' os' ex → Ext n ρ n' ρ' → wpAny (model G.prog G.w) A (call (.type T) vs) Q E { s with heap := h', toks := tk }) :
    wpAny (model G.prog G.w) A (eval (.Call (.Name x np) (e :: es) [] pos) c.env) Q E s :=
  Call_ (B.name hc S (Pv.callWith_type1 (hs c hc A hA pos mp loc ex s n ρ os K _ E S hm hQ) (hp.1 _) (hp.2.any _ _)))

/-! len -/
noncomputable def lenK (os : Hp) (p : V) (k : V → Bool) : Bool := match p with
  | .ref j => lookK os j fun o => match o with
    | .list xs => short xs (forceN xs.length fun l => k (.int (.ofNat l)))
    | _ => false
  | _ => false
noncomputable def eLen (m : EM) : EM := fun loc n os K => m loc n os fun p n os => lenK os p fun x => K x n os
theorem simLen {e : Expr} {np pos : Pos} {m : EM} (B : IsBoot G cs (Str.ofString "len") (.builtin "len")) (he : AllPlain [e]) (h : SimE G cs nm r e m) : SimE G cs nm r (.Call (.Name (Str.ofString "len") np) [e] [] pos) (eLen m) := by
  intro c hc A hA mp loc ex s n ρ os K Q E S hm hQ
  refine boot_call B (simCons h simNil he.1) he hc hA S (K := fun ps n os => match ps with | [p] => lenK os p fun x => K x n os | _ => false) hm fun ps vs h' tk n' ρ' os' k1 r1 S1 e1 => ?_
  cases ps with
  | nil => cases k1
  | cons p ps =>
    cases ps with
    | cons _ _ => cases k1
    | nil =>
      cases vs with
      | nil => exact r1.elim
      | cons v vs =>
        cases vs with
        | cons _ _ => exact r1.2.elim
        | nil =>
          unfold lenK at k1
          cases p with
          | ref j =>
            obtain ⟨_, rfl⟩ := r1.1
            dsimp only at k1
            obtain ⟨o, h1, k2⟩ := lookK_ok k1
            cases o with
            | list xs =>
              dsimp only at k2
              obtain ⟨q1, q2⟩ := short_ok k2
              rw [forceN_eq] at q2
              obtain ⟨vs, _, _, hl, hv, _⟩ := S1.D.list h1
              have hz : (List.toArray vs).size = xs.length := by rw [List.size_toArray, hv.length]
              refine call_len_list hl (by rw [hz]; omega) (hQ (.int (.ofNat xs.length)) _ h' _ n' ρ' os' q2 ?_ S1 e1)
              rw [hz]
              exact ⟨_, rfl⟩
            | _ => cases k2
          | _ => cases k1

/-! max of two ints -/
noncomputable def maxK (p q : V) (k : V → Bool) : Bool := match p with
  | .int a => match q with
    | .int b => match Z.ltB a b with
      | true => k (.int b)
      | false => k (.int a)
    | _ => false
  | _ => false
noncomputable def eMax (m₁ m₂ : EM) : EM := fun loc n os K => m₁ loc n os fun p n os => m₂ loc n os fun q n os => maxK p q fun x => K x n os
theorem simMax {e₁ e₂ : Expr} {np pos : Pos} {m₁ m₂ : EM} (B : IsBoot G cs (Str.ofString "max") (.builtin "max")) (he : AllPlain [e₁, e₂]) (h₁ : SimE G cs nm r e₁ m₁) (h₂ : SimE G cs nm r e₂ m₂) :
    SimE G cs nm r (.Call (.Name (Str.ofString "max") np) [e₁, e₂] [] pos) (eMax m₁ m₂) := by
  intro c hc A hA mp loc ex s n ρ os K Q E S hm hQ
  refine boot_call B (simCons h₁ (simCons h₂ simNil he.2.1) he.1) he hc hA S (K := fun ps n os => match ps with | [p, q] => maxK p q fun x => K x n os | _ => false) hm fun ps vs h' tk n' ρ' os' k1 r1 S1 e1 => ?_
  match ps, vs, r1, k1 with
  | [p, q], [v, u], r1, k1 =>
    dsimp only at k1
    unfold maxK at k1
    cases p with
    | int a =>
      cases q with
      | int b =>
        obtain ⟨t, rfl⟩ := r1.1
        obtain ⟨t', rfl⟩ := r1.2.1
        dsimp only at k1
        refine max_two_ints hA.hd fun h'' tk' hk => ?_
        by_cases hb : b > a
        · rw [if_pos hb]
          rw [(Z.ltB_iff a b).mpr hb] at k1
          exact hQ (.int b) _ h'' tk' n' ρ' os' k1 ⟨_, rfl⟩ (S1.keeps hk) e1
        · rw [if_neg hb]
          have : Z.ltB a b = false := by
            cases q : Z.ltB a b with
            | false => rfl
            | true => exact absurd ((Z.ltB_iff a b).mp q) hb
          rw [this] at k1
          exact hQ (.int a) _ h'' tk' n' ρ' os' k1 ⟨_, rfl⟩ (S1.keeps hk) e1
      | _ => cases k1
    | _ => cases k1

/-! range -/
noncomputable def rng1 (m : EM) : RM := fun loc n os K => m loc n os fun p n os => match p with
  | .int b => K 0 b 1 n os
  | _ => false
noncomputable def rng2 (m₁ m₂ : EM) : RM := fun loc n os K => m₁ loc n os fun p n os => m₂ loc n os fun q n os => match p with
  | .int a => match q with
    | .int b => K a b 1 n os
    | _ => false
  | _ => false
noncomputable def rng3 (m₁ m₂ m₃ : EM) : RM := fun loc n os K => m₁ loc n os fun p n os => m₂ loc n os fun q n os => m₃ loc n os fun st n os => match p with
  | .int a => match q with
    | .int b => match st with
      | .int c => match Z.eqB c 0 with
        | true => false
        | false => match Nat.blt c.natAbs 1073741824 with
          | true => K a b c n os
          | false => false
      | _ => false
    | _ => false
  | _ => false
theorem simRng1 {e₁ : Expr} {np pos : Pos} {m₁ : EM} (B : IsBoot G cs (Str.ofString "range") (.type "range")) (he : AllPlain [e₁]) (h₁ : SimE G cs nm r e₁ m₁) : SimR G cs nm r (.Call (.Name (Str.ofString "range") np) [e₁] [] pos) (rng1 m₁) := by
  intro c hc A hA mp loc ex s n ρ os K Q E S hm hQ
  refine boot_type B (simCons h₁ simNil he.1) he hc hA S (K := fun ps n os => match ps with | [p] => (match p with | .int b => K 0 b 1 n os | _ => false) | _ => false) hm fun ps vs h' tk n' ρ' os' k1 r1 S1 e1 => ?_
  match ps, vs, r1, k1 with
  | [p], [v], r1, k1 =>
    cases p with
    | int b =>
      obtain ⟨t, rfl⟩ := r1.1
      exact call_range_1 (hQ 0 b 1 _ _ _ _ _ _ n' ρ' os' k1 (IsRange.new ..) (S1.keeps fun b o e => Heap.get?_push_of_some _ e) e1)
    | _ => cases k1
theorem simRng2 {e₁ e₂ : Expr} {np pos : Pos} {m₁ m₂ : EM} (B : IsBoot G cs (Str.ofString "range") (.type "range")) (he : AllPlain [e₁, e₂]) (h₁ : SimE G cs nm r e₁ m₁) (h₂ : SimE G cs nm r e₂ m₂) : SimR G cs nm r (.Call (.Name (Str.ofString "range") np) [e₁, e₂] [] pos) (rng2 m₁ m₂) := by
  intro c hc A hA mp loc ex s n ρ os K Q E S hm hQ
  refine boot_type B (simCons h₁ (simCons h₂ simNil he.2.1) he.1) he hc hA S (K := fun ps n os => match ps with | [p, q] => (match p with | .int a => (match q with | .int b => K a b 1 n os | _ => false) | _ => false) | _ => false) hm fun ps vs h' tk n' ρ' os' k1 r1 S1 e1 => ?_
  match ps, vs, r1, k1 with
  | [p, q], [v, u], r1, k1 =>
    cases p with
    | int a =>
      cases q with
      | int b =>
        obtain ⟨t, rfl⟩ := r1.1
        obtain ⟨t', rfl⟩ := r1.2.1
        exact call_range_2 (hQ a b 1 _ _ _ _ _ _ n' ρ' os' k1 (IsRange.new ..) (S1.keeps fun b o e => Heap.get?_push_of_some _ e) e1)
      | _ => cases k1
    | _ => cases k1
theorem simRng3 {e₁ e₂ e₃ : Expr} {np pos : Pos} {m₁ m₂ m₃ : EM} (B : IsBoot G cs (Str.ofString "range") (.type "range")) (he : AllPlain [e₁, e₂, e₃]) (h₁ : SimE G cs nm r e₁ m₁) (h₂ : SimE G cs nm r e₂ m₂) (h₃ : SimE G cs nm r e₃ m₃) :
    SimR G cs nm r (.Call (.Name (Str.ofString "range") np) [e₁, e₂, e₃] [] pos) (rng3 m₁ m₂ m₃) := by
  intro c hc A hA mp loc ex s n ρ os K Q E S hm hQ
  refine boot_type B (simCons h₁ (simCons h₂ (simCons h₃ simNil he.2.2.1) he.2.1) he.1) he hc hA S (K := fun ps n os => match ps with
    | [p, q, st] => (match p with | .int a => (match q with | .int b => (match st with | .int c => (match Z.eqB c 0 with | true => false | false => match Nat.blt c.natAbs 1073741824 with | true => K a b c n os | false => false) | _ => false) | _ => false) | _ => false)
    | _ => false) hm fun ps vs h' tk n' ρ' os' k1 r1 S1 e1 => ?_
  match ps, vs, r1, k1 with
  | [p, q, st], [v, u, w], r1, k1 =>
    cases p with
    | int a =>
      cases q with
      | int b =>
        cases st with
        | int d =>
          obtain ⟨t, rfl⟩ := r1.1
          obtain ⟨t', rfl⟩ := r1.2.1
          obtain ⟨t'', rfl⟩ := r1.2.2.1
          dsimp only at k1
          split at k1
          · cases k1
          · rename_i hz
            split at k1
            · rename_i hb
              have h0 : d ≠ 0 := fun e => by subst e; exact absurd hz (by decide)
              exact PySem.call_range_3 h0 (hQ a b d _ _ _ _ _ _ n' ρ' os' k1 (IsRange.new ..) (S1.keeps fun b o e => Heap.get?_push_of_some _ e) e1) (.inl (PyProof.noPylong_small (Nat.le_of_ble_eq_true hb)))
            · cases k1
        | _ => cases k1
      | _ => cases k1
    | _ => cases k1
end
end Mine
end
-- part M7
section
namespace Mine
open PySem PySem.W PySem.Spec PySem.Calls PyProof.Rows

section
variable {G : Gd} {cs : Scope} {nm : List Str} {r : Nat}

/-! a = (..) unpacked: two and three names -/
noncomputable def setVs : List Nat → List V → List V → (List V → Bool) → Bool
  | [], [], loc, k => k loc
  | i :: is, p :: ps, loc, k => setV loc i p fun loc => setVs is ps loc k
  | _, _, _, _ => false
theorem setVs_ok : ∀ {is : List Nat} {ps loc : List V} {k : List V → Bool}, setVs is ps loc k = true → is.length = ps.length ∧ k ((is.zip ps).foldl (fun l q => l.set q.1 q.2) loc) = true
  | [], [], _, _, h => ⟨rfl, h⟩
  | i :: is, p :: ps, loc, k, h => by
    obtain ⟨_, h1⟩ := setV_ok h
    obtain ⟨h2, h3⟩ := setVs_ok (is := is) (ps := ps) h1
    exact ⟨by rw [List.length_cons, List.length_cons, h2], h3⟩
  | [], _ :: _, _, _, h => by cases h
  | _ :: _, [], _, _, h => by cases h
/-- setters that store names, one behind the other -/
noncomputable def TsOk (c : Cx G) (A : Around) : List (Value → Sem Unit) → List Str → Prop
  | [], [] => True
  | t :: ts, x :: xs => (∀ v (s : Shared) (Q : Unit → Shared → Prop) (E : Value → Shared → Prop), wpAny (model G.prog G.w) A (storeName c.env x v) Q E s → wpAny (model G.prog G.w) A (t v) Q E s) ∧ TsOk c A ts xs
  | _, _ => False
noncomputable def NamesAt (cs : Scope) (nm : List Str) : List Nat → List Str → Prop
  | [], [] => True
  | i :: is, x :: xs => (nm[i]? = some x ∧ cs.names.lookup x = some .local) ∧ NamesAt cs nm is xs
  | _, _ => False
theorem stores_step {c : Cx G} (hc : c.cs = cs) {A : Around} (nd : nm.Nodup) {ex : List (Addr × Obj)} :
    ∀ {ts : List (Value → Sem Unit)} {is : List Nat} {xs : List Str} {ps : List V} {vs : List Value} {s : Shared} {mp : Str → Option Value} {loc : List V} {n : Nat} {ρ : Nat → Addr} {os : Hp} {Q : Unit → Shared → Prop} {E : Value → Shared → Prop},
      TsOk c A ts xs → NamesAt cs nm is xs → is.length = ps.length → St c nm s.heap mp loc n ρ os ex → VRs n ρ ps vs →
      (∀ h' tk mp', St c nm h' mp' ((is.zip ps).foldl (fun l q => l.set q.1 q.2) loc) n ρ os ex → Q () { s with heap := h', toks := tk }) →
      wpAny (model G.prog G.w) A (assignInOrder ts vs) Q E s
  | [], [], [], [], [], s, mp, loc, n, ρ, os, Q, E, _, _, _, S, _, hQ => assignInOrder_nil (hQ s.heap s.toks mp S)
  | t :: ts, i :: is, x :: xs, p :: ps, v :: vs, s, mp, loc, n, ρ, os, Q, E, ht, hi, l2, S, hr, hQ => by
    refine assignInOrder_cons (ht.1 _ _ _ _ (store_step hc S hi.1.1 nd hi.1.2 hr.1 fun h' S1 => ?_))
    exact stores_step hc nd (ts := ts) (is := is) (xs := xs) (ps := ps) (vs := vs) (s := { s with heap := h', toks := s.toks + 1 }) ht.2 hi.2 (by simpa using l2) S1 hr.2 hQ
  | [], _, _ :: _, _, _, _, _, _, _, _, _, _, _, ht, _, _, _, _, _ => ht.elim
  | _ :: _, _, [], _, _, _, _, _, _, _, _, _, _, ht, _, _, _, _, _ => ht.elim
  | [], _ :: _, [], _, _, _, _, _, _, _, _, _, _, _, hi, _, _, _, _ => hi.elim
  | _ :: _, [], _ :: _, _, _, _, _, _, _, _, _, _, _, _, hi, _, _, _, _ => hi.elim
  | [], [], [], _ :: _, _, _, _, _, _, _, _, _, _, _, _, l2, _, _, _ => by cases l2
  | _ :: _, _ :: _, _ :: _, [], _, _, _, _, _, _, _, _, _, _, _, l2, _, _, _ => by cases l2
  | [], [], [], [], _ :: _, _, _, _, _, _, _, _, _, _, _, _, _, hr, _ => hr.elim
  | _ :: _, _ :: _, _ :: _, _ :: _, [], _, _, _, _, _, _, _, _, _, _, _, _, hr, _ => hr.elim

noncomputable def tupK (os : Hp) (p : V) (k : List V → Bool) : Bool := match p with
  | .ref j => lookK os j fun o => match o with
    | .tup ps => k ps
    | _ => false
  | _ => false
theorem tupK_ok {os : Hp} {p : V} {k : List V → Bool} (h : tupK os p k = true) : ∃ j ps, p = .ref j ∧ hLook os j = some (.tup ps) ∧ k ps = true := by
  unfold tupK at h
  cases p with
  | ref j =>
    dsimp only at h
    obtain ⟨o, h1, h2⟩ := lookK_ok h
    cases o with
    | tup ps => exact ⟨j, ps, rfl, h1, h2⟩
    | _ => cases h2
  | _ => cases h
noncomputable def sTup (is : List Nat) (m : EM) : SM := fun loc n os K => m loc n os fun p n os => tupK os p fun ps => setVs is ps loc fun loc => K .nxt loc n os

/-- a tuple target's setters -/
structure Target (G : Gd) (cs : Scope) (nm : List Str) (elts : List Expr) (is : List Nat) where
  xs : List Str
  ok : ∀ (c : Cx G) (A : Around), TsOk c A ((assignEach elts c.env).map (·.2)) xs
  at' : NamesAt cs nm is xs
  nostar : ∀ env, (assignEach elts env).findIdx? (·.1) = none
  len : ∀ env, (assignEach elts env).length = is.length
theorem target2 {x y : Str} {p q : Pos} {i j : Nat} (hx : nm[i]? = some x ∧ cs.names.lookup x = some .local) (hy : nm[j]? = some y ∧ cs.names.lookup y = some .local) : Nonempty (Target G cs nm [.Name x p, .Name y q] [i, j]) :=
  ⟨{ xs := [x, y], ok := fun c A => ⟨fun _ _ _ _ h => assign_Name h, fun _ _ _ _ h => assign_Name h, trivial⟩, at' := ⟨hx, hy, trivial⟩, nostar := fun _ => rfl, len := fun _ => rfl }⟩
theorem target3 {x y z : Str} {p q o : Pos} {i j k : Nat} (hx : nm[i]? = some x ∧ cs.names.lookup x = some .local) (hy : nm[j]? = some y ∧ cs.names.lookup y = some .local) (hz : nm[k]? = some z ∧ cs.names.lookup z = some .local) :
    Nonempty (Target G cs nm [.Name x p, .Name y q, .Name z o] [i, j, k]) :=
  ⟨{ xs := [x, y, z], ok := fun c A => ⟨fun _ _ _ _ h => assign_Name h, fun _ _ _ _ h => assign_Name h, fun _ _ _ _ h => assign_Name h, trivial⟩, at' := ⟨hx, hy, hz, trivial⟩, nostar := fun _ => rfl, len := fun _ => rfl }⟩

/-- a tuple's items to a tuple target -/
theorem assignTup_step {is : List Nat} {elts : List Expr} (T : Nonempty (Target G cs nm elts is)) (nd : nm.Nodup) {k : Nat} {tpos : Pos} {c : Cx G} (hc : c.cs = cs) {A : Around} (hh : A.handled = none) {ex : List (Addr × Obj)} {s : Shared} {mp : Str → Option Value} {loc : List V} {n : Nat} {ρ : Nat → Addr} {os : Hp}
    {t : Addr} {vs : List Value} {ps : List V} {Q : Unit → Shared → Prop} {E : Value → Shared → Prop} (S : St c nm s.heap mp loc n ρ os ex) (hT : s.heap.IsTuple t (List.toArray vs)) (hv : VRs n ρ ps vs) (l1 : is.length = ps.length)
    (hQ : ∀ h' tk mp', St c nm h' mp' ((is.zip ps).foldl (fun l q => l.set q.1 q.2) loc) n ρ os ex → Q () { s with heap := h', toks := tk }) : wpAny (model G.prog G.w) A (assign (.Tuple elts k tpos) c.env (.ref t)) Q E s := by
  obtain ⟨T⟩ := T
  refine PySem.wpAny_assign_Tuple hh hT (by rw [T.len, List.size_toArray, hv.length, l1]) (T.nostar _) fun h₂ he => ?_
  exact stores_step (s := { s with heap := h₂ }) hc nd (T.ok c A) T.at' l1 (S.keeps fun b o e => he b o (Nat.ne_of_lt (Heap.lt_size e)) e) hv hQ
theorem simTupA {is : List Nat} {elts : List Expr} {k : Nat} {tpos pos : Pos} {e : Expr} {m : EM} (T : Nonempty (Target G cs nm elts is)) (nd : nm.Nodup)
    (hs : ∀ env, swapsWithSole [.Tuple elts k tpos] e pos.line env = pure false) (hw : ∀ env, swappedStores [.Tuple elts k tpos] e env = pure none) (h : SimE G cs nm r e m) : SimS G cs nm r (.Assign [.Tuple elts k tpos] e pos) (sTup is m) := by
  intro c hc A hA ex s mp loc n ρ os K Q E S hm hQ
  refine Assign_Tuple (h c hc A hA mp loc ex s n ρ os _ _ E S hm fun p v h' tk n' ρ' os' k1 r1 S1 e1 => ?_) (hs _) (hw _)
  obtain ⟨j, ps, rfl, hj, k2⟩ := tupK_ok k1
  obtain ⟨l1, k3⟩ := setVs_ok k2
  obtain ⟨_, rfl⟩ := r1
  obtain ⟨vs, hT, hv, _⟩ := S1.D.tup hj
  exact assignTup_step (s := { s with heap := h', toks := tk }) T nd hc hA.hd S1 hT hv l1 fun h₃ tk₃ mp₃ S3 => hQ .nxt _ h₃ tk₃ mp₃ _ n' ρ' os' k3 rfl S3 e1
theorem tsBind (c : Cx G) (A : Around) : ∀ xs : List Str, TsOk c A (xs.map fun n => bindName c.env n) xs
  | [] => trivial
  | _ :: xs => ⟨fun _ _ _ _ h => bindName_ h, tsBind c A xs⟩
/-- the stores of a short display, made in the other order -/
theorem simTupS {is : List Nat} {xs : List Str} {elts : List Expr} {k : Nat} {tpos pos : Pos} {e : Expr} {m : EM} (nd : nm.Nodup) (hx : NamesAt cs nm is.reverse xs.reverse)
    (hl : xs.length = is.length)
    (hs : ∀ env, swapsWithSole [.Tuple elts k tpos] e pos.line env = pure false) (hw : ∀ c : Cx G, c.cs = cs → swappedStores [.Tuple elts k tpos] e c.env = pure (some xs)) (h : SimE G cs nm r e m) :
    SimS G cs nm r (.Assign [.Tuple elts k tpos] e pos) (fun loc n os K => m loc n os fun p n os => tupK os p fun ps => setVs is.reverse ps.reverse loc fun loc => K .nxt loc n os) := by
  intro c hc A hA ex s mp loc n ρ os K Q E S hm hQ
  refine Assign_Tuple_swapped (h c hc A hA mp loc ex s n ρ os _ _ E S hm fun p v h' tk n' ρ' os' k1 r1 S1 e1 => ?_) (hs _) (hw c hc)
  obtain ⟨j, ps, rfl, hj, k2⟩ := tupK_ok k1
  obtain ⟨l1, k3⟩ := setVs_ok k2
  obtain ⟨_, rfl⟩ := r1
  obtain ⟨vs, hT, hv, _⟩ := S1.D.tup hj
  have ez : xs.length = (List.toArray vs).size := by rw [List.size_toArray, hv.length, hl]; simpa using l1
  rw [ez]
  refine PyProof.Rows.unpackItems_tuple (s := { s with heap := h', toks := tk }) hA.hd hT fun h₂ he => ?_
  have S2 : St c nm h₂ mp loc n' ρ' os' ex := S1.keeps fun b o e => he b o (Nat.ne_of_lt (Heap.lt_size e)) e
  exact stores_step (s := { s with heap := h₂, toks := tk }) hc nd (tsBind c A _) hx l1 S2 hv.reverse fun h₃ tk₃ mp₃ S3 => hQ .nxt _ h₃ tk₃ mp₃ _ n' ρ' os' k3 rfl S3 e1
end
end Mine
end
-- part M8
section
namespace Mine
open PySem PySem.W PySem.Spec PySem.Calls PyProof.Rows

section
variable {G : Gd} {cs : Scope} {nm : List Str} {r : Nat}

theorem mapSeq_list (f : Array Value → Array Value) (its : Array Value) (e : Nat) : ∃ e', Obj.mapSeq f (W.listOf its e) = W.listOf (f its) e' := ⟨_, rfl⟩
theorem isList_of {h : Heap} {a : Addr} {its : Array Value} {e : Nat} (ho : h.get? a = some (W.listOf its e)) : h.IsList a its := ⟨_, ho, rfl, e, rfl⟩

/-! a list's item set -/
noncomputable def stoK (os : Hp) (p q x : V) (k : Hp → Bool) : Bool := match p with
  | .ref j => match q with
    | .int i => match i with
      | .ofNat i => match Nat.ble i 4096 with
        | true => lookK os j fun o => match o with
          | .list xs => setV xs i x fun xs' => putK os j (.list xs') k
          | _ => false
        | false => false
      | .negSucc _ => false
    | _ => false
  | _ => false
theorem sto_step {c : Cx G} {A : Around} {mp : Str → Option Value} {loc : List V} {ex : List (Addr × Obj)} {s : Shared} {n : Nat} {ρ : Nat → Addr} {os : Hp} (S : St c nm s.heap mp loc n ρ os ex) {p q x : V} {v u y : Value}
    (r1 : VR n ρ p v) (r2 : VR n ρ q u) (r3 : VR n ρ x y) {k : Hp → Bool} (h : stoK os p q x k = true) {Q : Unit → Shared → Prop} {E : Value → Shared → Prop}
    (hQ : ∀ h' os', k os' = true → St c nm h' mp loc n ρ os' ex → Q () { s with heap := h' }) : wpAny (model G.prog G.w) A (setItem v u y) Q E s := by
  unfold stoK at h
  cases p with
  | ref j =>
    cases q with
    | int i =>
      obtain ⟨_, rfl⟩ := r1
      obtain ⟨t, rfl⟩ := r2
      cases i with
      | ofNat i =>
        dsimp only at h
        split at h
        · rename_i hb
          have hb := Nat.le_of_ble_eq_true hb
          obtain ⟨o, h1, h⟩ := lookK_ok h
          cases o with
          | list xs =>
            dsimp only at h
            obtain ⟨hi, h⟩ := setV_ok h
            have h := putK_ok h
            obtain ⟨vs, ep, hg, hl, hv, _⟩ := S.D.list h1
            refine ki_setAt hg (Int.natCast_nonneg i) (by show (i : Int) < 2 ^ 63; omega) (by show (i : Int) < _; rw [List.size_toArray, hv.length]; omega) (hQ _ _ h ?_)
            obtain ⟨e', he'⟩ := mapSeq_list (·.setIfInBounds (Int.ofNat i).toNat y) (List.toArray vs) ep
            refine S.put h1 (o' := .list (xs.set i x)) (ob' := Obj.mapSeq (·.setIfInBounds (Int.ofNat i).toNat y) (W.listOf (List.toArray vs) ep)) ⟨vs.set i y, e', ?_, hv.set r3 i⟩ (Heap.SameBut.update ..) (Heap.get?_update_self _ hg ?_)
            · rw [he']
              have e2 : (List.toArray vs).setIfInBounds (Int.ofNat i).toNat y = (vs.set i y).toArray := by
                show (List.toArray vs).setIfInBounds i y = _
                simp
              rw [e2]
            · rw [he']; rfl
          | _ => cases h
        · cases h
      | negSucc i => cases h
    | _ => cases h
  | _ => cases h
noncomputable def sSto (mv mo mi : EM) : SM := fun loc n os K => mv loc n os fun x n os => mo loc n os fun p n os => mi loc n os fun q n os => stoK os p q x fun os => K .nxt loc n os
theorem simSto {o i e : Expr} {pos' pos : Pos} {mv mo mi : EM} (hs : ∀ env, swapsWith e (some (.Subscript o i pos')) pos.line env = pure false) (hv : SimE G cs nm r e mv) (ho : SimE G cs nm r o mo) (hi : SimE G cs nm r i mi) :
    SimS G cs nm r (.Assign [.Subscript o i pos'] e pos) (sSto mv mo mi) := by
  intro c hc A hA ex s mp loc n ρ os K Q E S hm hQ
  refine wpAny_Assign_Subscript (hv c hc A hA mp loc ex s n ρ os _ _ E S hm fun x y h₁ tk₁ n₁ ρ₁ os₁ k1 r1 S1 e1 => ?_) (hs _)
  refine ho c hc A hA mp loc ex _ n₁ ρ₁ os₁ _ _ E S1 k1 fun p v h₂ tk₂ n₂ ρ₂ os₂ k2 r2 S2 e2 => ?_
  refine hi c hc A hA mp loc ex _ n₂ ρ₂ os₂ _ _ E S2 k2 fun q u h₃ tk₃ n₃ ρ₃ os₃ k3 r3 S3 e3 => ?_
  exact sto_step (s := { s with heap := h₃, toks := tk₃ }) S3 (r2.ext e3) r3 (r1.ext (e2.trans e3)) k3 fun h₄ os₄ k4 S4 => hQ .nxt _ h₄ tk₃ mp loc n₃ ρ₃ os₄ k4 rfl S4 (e1.trans (e2.trans e3))

/-! append -/
noncomputable def snocV : List V → V → (List V → Bool) → Bool
  | [], q, k => k [q]
  | p :: r, q, k => snocV r q fun r' => k (p :: r')
theorem snocV_ok {q : V} : ∀ {xs : List V} {k : List V → Bool}, snocV xs q k = true → k (xs ++ [q]) = true
  | [], _, h => h
  | p :: r, k, h => snocV_ok (xs := r) (k := fun r' => k (p :: r')) h
noncomputable def listK (os : Hp) (p : V) (k : List V → Bool) : Bool := match p with
  | .ref j => lookK os j fun o => match o with
    | .list xs => k xs
    | _ => false
  | _ => false
theorem listK_ok {os : Hp} {p : V} {k : List V → Bool} (h : listK os p k = true) : ∃ j xs, p = .ref j ∧ hLook os j = some (.list xs) ∧ k xs = true := by
  unfold listK at h
  cases p with
  | ref j =>
    dsimp only at h
    obtain ⟨o, h1, h2⟩ := lookK_ok h
    cases o with
    | list ps => exact ⟨j, ps, rfl, h1, h2⟩
    | _ => cases h2
  | _ => cases h
noncomputable def appK (os : Hp) (p x : V) (k : Hp → Bool) : Bool := match p with
  | .ref j => lookK os j fun o => match o with
    | .list xs => short xs (snocV xs x fun xs' => putK os j (.list xs') k)
    | _ => false
  | _ => false
theorem app_step {c : Cx G} {A : Around} {mp : Str → Option Value} {loc : List V} {ex : List (Addr × Obj)} {s : Shared} {n : Nat} {ρ : Nat → Addr} {os : Hp} (S : St c nm s.heap mp loc n ρ os ex) {p x : V} {v y : Value}
    (r1 : VR n ρ p v) (r3 : VR n ρ x y) {k : Hp → Bool} (h : appK os p x k = true) {Q : Value → Shared → Prop} {E : Value → Shared → Prop}
    (hQ : ∀ h' os', k os' = true → St c nm h' mp loc n ρ os' ex → Q .none { s with heap := h' }) : wpAny (model G.prog G.w) A (call (.builtin "list.append") [v, y]) Q E s := by
  unfold appK at h
  cases p with
  | ref j =>
    obtain ⟨_, rfl⟩ := r1
    dsimp only at h
    obtain ⟨o, h1, h⟩ := lookK_ok h
    cases o with
    | list xs =>
      dsimp only at h
      obtain ⟨q1, h⟩ := short_ok h
      have h := putK_ok (snocV_ok h)
      obtain ⟨vs, ep, hg, hl, hv, _⟩ := S.D.list h1
      obtain ⟨e', he'⟩ := mapSeq_list (·.push y) (List.toArray vs) ep
      have hz : (List.toArray vs).size ≤ 4096 := by rw [List.size_toArray, hv.length]; exact q1
      refine wpAny_call_entry PySem.slot_list_append hl.typeIs PySem.entry_list_append ?_ (PySem.args_list_append _ _)
      show wpAny _ _ (updateSeq (ρ j) (·.push y) >>= fun _ => ret .none) _ _ s
      refine wpAny_bind (wpAny_updateSeq hg rfl (wpAny_pure ⟨.none, rfl, hQ _ _ h ?_⟩) (by rw [sizeLine_eq]; omega) (by rw [sizeLine_eq, Array.size_push]; omega))
      refine S.put h1 (o' := .list (xs ++ [x])) (ob' := Obj.mapSeq (·.push y) (W.listOf (List.toArray vs) ep)) ⟨vs ++ [y], e', ?_, VRs.append (qs := [x]) (us := [y]) (And.intro r3 trivial) hv⟩ (Heap.SameBut.update ..) (Heap.get?_update_self _ hg ?_)
      · rw [he']
        have e2 : (List.toArray vs).push y = (vs ++ [y]).toArray := by simp
        rw [e2]
      · rw [he']; rfl
    | _ => cases h
  | _ => cases h
/-- a method call goes by the method's road -/
noncomputable def IsMeth (o : Expr) (name : Str) (apos : Pos) (args : List Expr) (pos : Pos) : Prop := ∀ env, ∃ pl, eval ((o.Attribute name apos).Call args [] pos) env = (do
          let ov ← eval o env
          standAt apos.atName
          match ← holding [ov] (getMethod ov name pl) with
            | (f, first) => callWith pos f first (backTo pos (starEach args env)) [])
noncomputable def eApp (mo me : EM) : EM := fun loc n os K => mo loc n os fun p n os => listK os p fun _ => me loc n os fun x n os => appK os p x fun os => K .none n os
theorem simApp {o : Expr} {apos pos : Pos} {e : Expr} {mo me : EM} (he : AllPlain [e]) (hcall : IsMeth o (Str.ofString "append") apos [e] pos) (ho : SimE G cs nm r o mo) (h : SimE G cs nm r e me) : SimE G cs nm r (.Call (.Attribute o (Str.ofString "append") apos) [e] [] pos) (eApp mo me) := by
  intro c hc A hA mp loc ex s n ρ os K Q E S hm hQ
  obtain ⟨pl, hcall⟩ := hcall c.env
  refine MethodCall_ (pl := pl) (ho c hc A hA mp loc ex s n ρ os _ _ E S hm fun p v h₁ tk₁ n₁ ρ₁ os₁ k1 r1 S1 e1 => ?_) hcall
  obtain ⟨j, xs, rfl, hj, k2⟩ := listK_ok k1
  obtain ⟨_, rfl⟩ := r1
  obtain ⟨vs, ep, hg, _, _, hlt⟩ := S1.D.list hj
  refine getMethod_list_append hg rfl rfl ?_
  refine PyProof.Rows.callWith_method1 ((simCons h simNil he.1) c hc A hA pos mp loc ex _ n₁ ρ₁ os₁ (fun ps n os => match ps with | [x] => appK os (.ref j) x fun os => K .none n os | _ => false) _ E S1 k2 fun ps us h₂ tk₂ n₂ ρ₂ os₂ k3 r2 S2 e2 => ?_) (he.1 _)
  match ps, us, r2, k3 with
  | [x], [y], r2, k3 =>
    exact app_step (s := { s with heap := h₂, toks := tk₂ }) S2 (p := .ref j) ⟨Nat.lt_of_lt_of_le hlt e2.le, by rw [e2.eq j hlt]⟩ r2.1 k3 fun h₃ os₃ k4 S3 => hQ .none _ h₃ tk₂ n₂ ρ₂ os₃ k4 rfl S3 (e1.trans e2)

/-! bit_length -/
noncomputable def eBits (m : EM) : EM := fun loc n os K => m loc n os fun p n os => match p with
  | .int a => forceN (Builtin.Int.intBits a) fun b => K (.int (.ofNat b)) n os
  | _ => false
theorem simBits {o : Expr} {apos pos : Pos} {m : EM} (h : SimE G cs nm r o m)
    (hcall : IsMeth o (Str.ofString "bit_length") apos [] pos) : SimE G cs nm r (.Call (.Attribute o (Str.ofString "bit_length") apos) [] [] pos) (eBits m) := by
  intro c hc A hA mp loc ex s n ρ os K Q E S hm hQ
  obtain ⟨pl, hcall⟩ := hcall c.env
  refine MethodCall_ (pl := pl) (h c hc A hA mp loc ex s n ρ os _ _ E S hm fun p v h₁ tk₁ n₁ ρ₁ os₁ k1 r1 S1 e1 => ?_) hcall
  cases p with
  | int a =>
    obtain ⟨t, rfl⟩ := r1
    dsimp only at k1
    rw [forceN_eq] at k1
    exact getMethod_int_bit_length (PyProof.Rows.callWith_method0 (call_int_bit_length (hQ (.int (.ofNat (Builtin.Int.intBits a))) _ h₁ _ n₁ ρ₁ os₁ k1 ⟨_, rfl⟩ S1 e1)))
  | _ => cases k1

/-! for over a list -/
noncomputable def nthK : List V → Nat → (Unit → Bool) → (V → Bool) → Bool
  | [], _, e, _ => e ()
  | p :: _, 0, _, k => k p
  | _ :: r, i + 1, e, k => nthK r i e k
theorem nthK_ok {e : Unit → Bool} {k : V → Bool} : ∀ {xs : List V} {i : Nat}, nthK xs i e k = true → (xs.length ≤ i ∧ e () = true) ∨ ∃ p, xs[i]? = some p ∧ k p = true
  | [], i, h => .inl ⟨Nat.zero_le _, by cases i <;> exact h⟩
  | p :: _, 0, h => .inr ⟨p, rfl, h⟩
  | _ :: r, i + 1, h => by
    rcases nthK_ok (xs := r) (i := i) h with ⟨h1, h2⟩ | ⟨p, h1, h2⟩
    · exact .inl ⟨Nat.succ_le_succ h1, h2⟩
    · exact .inr ⟨p, by simpa using h1, h2⟩
noncomputable def loopL (i : Nat) (b : SM) (id : Nat) : Nat → Nat → SM
  | 0, _ => fun _ _ _ _ => false
  | f + 1, at' => fun loc n os K => lookK os id fun o => match o with
    | .list xs => nthK xs at' (fun _ => K .nxt loc n os) fun p => setV loc i p fun loc => b loc n os fun fl loc n os => match fl with
      | .nxt => forceN (at' + 1) fun a => loopL i b id f a loc n os K
      | .cnt => forceN (at' + 1) fun a => loopL i b id f a loc n os K
      | .brk => K .nxt loc n os
      | .ret v => K (.ret v) loc n os
    | _ => false
noncomputable def sForL (i : Nat) (fuel : Nat) (m : EM) (b : SM) : SM := fun loc n os K => m loc n os fun p n os => match p with
  | .ref j => loopL i b j fuel 0 loc n os K
  | _ => false
noncomputable abbrev iterOb (l : Addr) (i : Nat) : Obj → Prop := fun o => o.cls = .type "list_iterator" ∧ o.data = .fields #[.ref l, .int i 0]
theorem simForL (fuel : Nat) {x : Str} {px pos : Pos} {iter : Expr} {body : List Stmt} {i : Nat} {m : EM} {b : SM} (hi : nm[i]? = some x) (nd : nm.Nodup) (hl : cs.names.lookup x = some .local) (hs : ∀ env v, foldedSetIterable iter env v = pure v)
    (hm' : SimE G cs nm r iter m) (h : SimSs G cs nm r body b) : SimS G cs nm r (.For (.Name x px) iter body [] pos) (sForL i fuel m b) := by
  intro c hc A hA ex s mp loc n ρ os K Q E S hm hQ
  refine wpAny_For (hm' c hc A hA mp loc ex s n ρ os _ _ E S hm fun p v h' tk n' ρ' os' k1 r1 S1 e1 => ?_) (hs _)
  cases p with
  | ref j =>
    obtain ⟨hjn, rfl⟩ := r1
    dsimp only at k1
    cases fuel with
    | zero => cases k1
    | succ fuel =>
      have hlist : ∃ xs, hLook os' j = some (.list xs) := by
        unfold loopL at k1
        obtain ⟨o, h1, h2⟩ := lookK_ok k1
        cases o with
        | list xs => exact ⟨xs, h1⟩
        | _ => cases h2
      obtain ⟨xs, hj⟩ := hlist
      obtain ⟨vs, _, _, hlst, _, _⟩ := S1.D.list hj
      refine wpAny_pyIter_list hlst ?_
      have S2 : St c nm (h'.push { cls := .type "list_iterator", data := .fields #[.ref (ρ' j), .int 0 0] }) mp loc n' ρ' os' ((h'.objs.size, { cls := .type "list_iterator", data := .fields #[.ref (ρ' j), .int 0 0] }) :: ex) :=
        ⟨S1.F.push _, S1.D.newEx S1.F (Nat.le_refl _) (fun b o e => Heap.get?_push_of_some _ e) (Heap.get?_push_size _ rfl), S1.l⟩
      refine codeAny_forLoop_any (fun f s' => ∃ (h₁ : Heap) (tk : Nat) (mp' : Str → Option Value) (loc' : List V) (n₁ : Nat) (ρ₁ : Nat → Addr) (os₁ : Hp) (a : Nat) (ob : Obj), s' = { s with heap := h₁, toks := tk } ∧ loopL i b j f a loc' n₁ os₁ K = true ∧
          iterOb (ρ' j) a ob ∧ St c nm h₁ mp' loc' n₁ ρ₁ os₁ ((h'.objs.size, ob) :: ex) ∧ Ext n' ρ' n₁ ρ₁) ?_ (fuel + 1)
        ⟨_, tk, mp, loc, n', ρ', os', 0, _, rfl, k1, ⟨rfl, rfl⟩, S2, .refl⟩
      generalize h'.objs.size = it
      clear S2 k1 hj hlst
      rintro f s' ⟨h₁, tk, mp', loc', n₁, ρ₁, os₁, a, ob, rfl, k1, ⟨hob1, hob2⟩, S', e'⟩
      obtain ⟨hit, hiL, hin⟩ := S'.D.exAt (.head _)
      have hiter : h₁.IsListIter it (ρ' j) a := ⟨ob, hit, hob1, hob2⟩
      have hρ : ρ₁ j = ρ' j := e'.eq j hjn
      cases f with
      | zero => cases k1
      | succ f =>
        unfold loopL at k1
        obtain ⟨o, h1, k1⟩ := lookK_ok k1
        cases o with
        | list ys =>
          dsimp only at k1
          obtain ⟨us, _, _, hl₁, hv₁, _⟩ := S'.D.list h1
          rw [hρ] at hl₁
          rcases nthK_ok k1 with ⟨q1, q2⟩ | ⟨p, hp, k2⟩
          · refine wpAny_pyNext_list_end hA.hd hiter hl₁ (by simp [hv₁.length, q1]) fun h₂ he => wpAny_execs_nil ?_
            exact hQ .nxt _ h₂ tk mp' loc' n₁ ρ₁ os₁ q2 rfl ⟨Fr.lost S'.F hiL hin he, S'.D.lostEx he, S'.l⟩ (e1.trans e')
          · obtain ⟨y, hy, hry⟩ := hv₁.get hp
            obtain ⟨_, k3⟩ := setV_ok k2
            refine wpAny_pyNext_list_item hiter hl₁ (by simpa using hy) fun h₂ hit₂ hs₂ => ?_
            obtain ⟨ob₂, hg₂, hc₂, hd₂⟩ := hit₂
            have S3 : St c nm h₂ mp' loc' n₁ ρ₁ os₁ ((it, ob₂) :: ex) := ⟨S'.F.change hs₂ hiL hin, S'.D.turnEx hs₂ hg₂, S'.l⟩
            show wpAny _ A (pure ()) _ _ _
            refine wpAny_pure (assign_Name ?_)
            refine store_step (s := { s with heap := h₂, toks := tk }) (p := p) hc S3 hi nd hl hry fun h₃ S4 => ?_
            refine h c hc A hA _ _ _ _ n₁ ρ₁ os₁ _ _ _ S4 k3 fun fl g h₄ tk₄ mp₄ loc₄ n₄ ρ₄ os₄ k4 r4 S5 e4 => ?_
            cases fl with
            | nxt => cases r4; rw [forceN_eq] at k4; exact ⟨f, Nat.lt_succ_self _, h₄, tk₄, mp₄, loc₄, n₄, ρ₄, os₄, a + 1, ob₂, rfl, k4, ⟨hc₂, hd₂⟩, S5, e'.trans e4⟩
            | cnt => cases r4; rw [forceN_eq] at k4; exact ⟨f, Nat.lt_succ_self _, h₄, tk₄, mp₄, loc₄, n₄, ρ₄, os₄, a + 1, ob₂, rfl, k4, ⟨hc₂, hd₂⟩, S5, e'.trans e4⟩
            | brk => cases r4; exact hQ .nxt _ h₄ tk₄ mp₄ loc₄ n₄ ρ₄ os₄ k4 rfl ⟨S5.F, S5.D.dropEx, S5.l⟩ (e1.trans (e'.trans e4))
            | ret v => obtain ⟨u, rfl, hu⟩ := r4; exact hQ (.ret v) _ h₄ tk₄ mp₄ loc₄ n₄ ρ₄ os₄ k4 ⟨u, rfl, hu⟩ ⟨S5.F, S5.D.dropEx, S5.l⟩ (e1.trans (e'.trans e4))
        | _ => cases k1
  | _ => cases k1
end
end Mine
end
-- part M9
section
namespace Mine
open PySem PySem.W PySem.Spec PySem.Calls PyProof.Rows

section
variable {G : Gd} {cs : Scope} {nm : List Str} {r : Nat}

/-! slices -/
noncomputable abbrev PM := List V → Nat → Hp → (Option Int → Nat → Hp → Bool) → Bool
noncomputable def SimP (G : Gd) (cs : Scope) (nm : List Str) (r : Nat) (e : Option Expr) (m : PM) : Prop :=
  ∀ (c : Cx G), c.cs = cs → ∀ (A : Around), AOk c r A → ∀ mp loc ex, Go c A nm mp loc ex (fun _ _ p v => IsPart v p) (evalPart e c.env) (fun n os K => m loc n os K)
noncomputable def pNone : PM := fun _ n os K => K none n os
noncomputable def pSome (m : EM) : PM := fun loc n os K => m loc n os fun p n os => match p with
  | .int i => K (some i) n os
  | _ => false
theorem simPNone : SimP G cs nm r none pNone := fun c hc A hA mp loc ex s n ρ os K Q E S hm hQ => evalPart_none_step (hQ none _ s.heap s.toks n ρ os hm .none S .refl)
theorem simPSome {e : Expr} {m : EM} (h : SimE G cs nm r e m) : SimP G cs nm r (some e) (pSome m) := by
  intro c hc A hA mp loc ex s n ρ os K Q E S hm hQ
  refine evalPart_some_step (h c hc A hA mp loc ex s n ρ os _ _ E S hm fun p v h' tk n' ρ' os' k1 r1 S1 e1 => ?_)
  cases p with
  | int i => obtain ⟨t, rfl⟩ := r1; exact hQ (some i) _ h' tk n' ρ' os' k1 (.int i t) S1 e1
  | _ => cases k1
noncomputable def vPick (lo hi : Option Int) (xs : List V) : List V := (xs.drop (kms_lo lo xs.length)).take (kms_hi hi xs.length - kms_lo lo xs.length)
theorem vPick_ok {n : Nat} {ρ : Nat → Addr} {xs : List V} {vs : List Value} (h : VRs n ρ xs vs) (lo hi : Option Int) : VRs n ρ (vPick lo hi xs) (kms_pick vs lo hi) := by
  unfold vPick kms_pick
  rw [h.length]
  exact (h.drop _).take _
noncomputable def forceL : List V → (List V → Bool) → Bool
  | [], k => k []
  | p :: r, k => forceL r fun r' => k (p :: r')
theorem forceL_eq : ∀ (xs : List V) (k : List V → Bool), forceL xs k = k xs
  | [], _ => rfl
  | p :: r, k => forceL_eq r fun r' => k (p :: r')
noncomputable def eSli (m : EM) (lo hi : PM) : EM := fun loc n os K => m loc n os fun p n os => lo loc n os fun l n os => hi loc n os fun h n os => listK os p fun xs => short xs (forceL (vPick l h xs) fun ys => mk (.list ys) n os K)
noncomputable def SliOk (slice : Expr) : Prop := ∀ (l a : Addr), subscripted slice false (.ref l) (.ref a) = operate [.ref a, .ref l] (getItem (.ref l) (.ref a))
noncomputable def NoGo (value : Expr) : Prop := ∀ (l : Addr) r, letTemporaryGo value (.ref l) r = pure ()
theorem simSli {e : Expr} {lo hi : Option Expr} {p pos : Pos} {m : EM} {ml mh : PM} (hs : SliOk (.Slice lo hi none p)) (hg : NoGo e) (h : SimE G cs nm r e m) (hlo : SimP G cs nm r lo ml) (hhi : SimP G cs nm r hi mh) :
    SimE G cs nm r (.Subscript e (.Slice lo hi none p) pos) (eSli m ml mh) := by
  intro c hc A hA mp loc ex s n ρ os K Q E S hm hQ
  refine Subscript_ (h c hc A hA mp loc ex s n ρ os _ _ E S hm fun p v h₁ tk₁ n₁ ρ₁ os₁ k1 r1 S1 e1 => ?_)
  refine wpAny_Slice (hlo c hc A hA mp loc ex _ n₁ ρ₁ os₁ _ _ E S1 k1 fun l vl h₂ tk₂ n₂ ρ₂ os₂ k2 r2 S2 e2 => ?_)
  refine hhi c hc A hA mp loc ex _ n₂ ρ₂ os₂ _ _ E S2 k2 fun u vu h₃ tk₃ n₃ ρ₃ os₃ k3 r3 S3 e3 => ?_
  refine evalPart_none_step ?_
  obtain ⟨j, xs, rfl, hj, k4⟩ := listK_ok k3
  obtain ⟨q1, k4⟩ := short_ok k4
  rw [forceL_eq] at k4
  obtain ⟨hjn, rfl⟩ := r1
  obtain ⟨vs, ep, _, hl, hv, _⟩ := S3.D.list hj
  have ee := e2.trans e3
  rw [ee.eq j hjn] at hl
  obtain ⟨l', w1, w2, w3⟩ := S3.D.led
  refine kms_slice_lit (s := { s with heap := h₃, toks := tk₃ }) S3.F w2 hl r2 r3 rfl (fun D h₄ F₄ N₄ lt => ?_) (hs _ _) (hg _) (by rw [List.size_toArray, hv.length, sizeLine_eq]; omega)
  obtain ⟨D', e'⟩ := w1.made (o := .list (vPick l u xs)) w3 N₄ lt ⟨_, 0, rfl, vPick_ok hv l u⟩
  exact hQ (.ref n₃) _ h₄ tk₃ _ _ _ (mk_ok k4) ⟨Nat.lt_succ_self _, by show Value.ref D = Value.ref (if n₃ = n₃ then _ else _); rw [if_pos rfl]⟩ ⟨F₄, D', S3.l.ext e'⟩ (e1.trans (ee.trans e'))

noncomputable def eRev (m st : EM) : EM := fun loc n os K => m loc n os fun p n os => st loc n os fun q n os => match q with
  | .int i => match i with
    | .negSucc i => match i with
      | 0 => listK os p fun xs => short xs (forceL xs.reverse fun ys => mk (.list ys) n os K)
      | _ + 1 => false
    | .ofNat _ => false
  | _ => false
theorem simRev {e st : Expr} {p pos : Pos} {m ms : EM} (hs : ∀ (l a : Addr), subscripted (.Slice none none (some st) p) false (.ref l) (.ref a) = operate [.ref l, .ref a] (getItem (.ref l) (.ref a))) (hg : NoGo e) (h : SimE G cs nm r e m) (hst : SimE G cs nm r st ms) :
    SimE G cs nm r (.Subscript e (.Slice none none (some st) p) pos) (eRev m ms) := by
  intro c hc A hA mp loc ex s n ρ os K Q E S hm hQ
  refine Subscript_ (h c hc A hA mp loc ex s n ρ os _ _ E S hm fun p v h₁ tk₁ n₁ ρ₁ os₁ k1 r1 S1 e1 => ?_)
  refine wpAny_Slice (evalPart_none_step (evalPart_none_step (evalPart_some_step ?_)))
  refine hst c hc A hA mp loc ex _ n₁ ρ₁ os₁ _ _ E S1 k1 fun q vq h₃ tk₃ n₃ ρ₃ os₃ k3 r3 S3 e3 => ?_
  cases q with
  | int i =>
    cases i with
    | ofNat i => cases k3
    | negSucc i =>
      cases i with
      | succ i => cases k3
      | zero =>
        dsimp only at k3
        obtain ⟨t, rfl⟩ := r3
        obtain ⟨j, xs, rfl, hj, k4⟩ := listK_ok k3
        obtain ⟨q1, k4⟩ := short_ok k4
        rw [forceL_eq] at k4
        obtain ⟨hjn, rfl⟩ := r1
        obtain ⟨vs, ep, _, hl, hv, _⟩ := S3.D.list hj
        rw [e3.eq j hjn] at hl
        obtain ⟨l', w1, w2, w3⟩ := S3.D.led
        refine kmk_slice3_lit (s := { s with heap := h₃, toks := tk₃ }) (st := some (-1)) (zs := vs.reverse) S3.F w2 hl .none .none (.int _ t) (by decide) (by rw [krv_pick]) (fun D h₄ F₄ N₄ lt => ?_) (hs _ _) (hg _) (by rw [List.size_toArray, hv.length, sizeLine_eq]; omega)
        obtain ⟨D', e'⟩ := w1.made (o := .list xs.reverse) w3 N₄ lt ⟨_, 0, rfl, hv.reverse⟩
        exact hQ (.ref n₃) _ h₄ tk₃ _ _ _ (mk_ok k4) ⟨Nat.lt_succ_self _, by show Value.ref D = Value.ref (if n₃ = n₃ then _ else _); rw [if_pos rfl]⟩ ⟨F₄, D', S3.l.ext e'⟩ (e1.trans (e3.trans e'))
  | _ => cases k3

/-! [x] * k -/
noncomputable def repK (p : V) : Nat → (List V → Bool) → Bool
  | 0, c => c []
  | k + 1, c => repK p k fun r => c (p :: r)
theorem repK_eq (p : V) : ∀ (k : Nat) (c : List V → Bool), repK p k c = c (List.replicate k p)
  | 0, _ => rfl
  | k + 1, c => by rw [List.replicate_succ]; exact repK_eq p k fun r => c (p :: r)
noncomputable def eRep (m₁ m₂ : EM) : EM := fun loc n os K => m₁ loc n os fun p n os => m₂ loc n os fun q n os => match q with
  | .int i => match i with
    | .ofNat k => match Nat.ble k 200 with
      | true => listK os p fun xs => match xs with
        | [x] => repK x k fun ys => mk (.list ys) n os K
        | _ => false
      | false => false
    | .negSucc _ => false
  | _ => false
theorem simRep {e₁ e₂ : Expr} {pos : Pos} {m₁ m₂ : EM} (h₁ : SimE G cs nm r e₁ m₁) (h₂ : SimE G cs nm r e₂ m₂) : SimE G cs nm r (.BinOp e₁ .Mult e₂ pos) (eRep m₁ m₂) := by
  intro c hc A hA mp loc ex s n ρ os K Q E S hm hQ
  refine wpAny_BinOp (h₁ c hc A hA mp loc ex s n ρ os _ _ E S hm fun p v h₁' tk₁ n₁ ρ₁ os₁ k1 r1 S1 e1 => ?_)
  refine h₂ c hc A hA mp loc ex _ n₁ ρ₁ os₁ _ _ E S1 k1 fun q u h₃ tk₃ n₃ ρ₃ os₃ k3 r3 S3 e3 => ?_
  cases q with
  | int i =>
    cases i with
    | negSucc i => cases k3
    | ofNat k =>
      dsimp only at k3
      split at k3
      · rename_i hb
        have hb := Nat.le_of_ble_eq_true hb
        obtain ⟨t, rfl⟩ := r3
        obtain ⟨j, xs, rfl, hj, k4⟩ := listK_ok k3
        split at k4
        · rename_i x
          rw [repK_eq] at k4
          obtain ⟨hjn, rfl⟩ := r1
          obtain ⟨vs, ep, _, hl, hv, _⟩ := S3.D.list hj
          rw [e3.eq j hjn] at hl
          obtain ⟨l', w1, w2, w3⟩ := S3.D.led
          match vs, hv, hl with
          | [y], hv, hl =>
            refine KMa.mul (s := { s with heap := h₃, toks := tk₃ }) S3.F w2 hl (by show -(2 ^ 63 : Int) ≤ (k : Int); omega) (by show (k : Int) < 2 ^ 63; omega) (by show 1 * k ≤ 256; omega) (ws := List.replicate k y) ?_ fun D h₄ F₄ N₄ lt => ?_
            · show (List.replicate k [y]).flatten = List.replicate k y
              exact List.flatten_replicate_singleton
            · obtain ⟨D', e'⟩ := w1.made (o := .list (List.replicate k x)) w3 N₄ lt ⟨_, 0, rfl, VRs.replicate hv.1 k⟩
              exact hQ (.ref n₃) _ h₄ tk₃ _ _ _ (mk_ok k4) ⟨Nat.lt_succ_self _, by show Value.ref D = Value.ref (if n₃ = n₃ then _ else _); rw [if_pos rfl]⟩ ⟨F₄, D', S3.l.ext e'⟩ (e1.trans (e3.trans e'))
        · cases k4
      · cases k3
  | _ => cases k3

/-! sum of a list of ints -/
noncomputable def sumInts : List Int → Int → Int
  | [], a => a
  | i :: r, a => sumInts r (Int.add a i)
theorem sumInts_eq : ∀ (l : List Int) (a : Int), sumInts l a = a + l.sum
  | [], a => by simp [sumInts]
  | i :: r, a => by
    unfold sumInts
    rw [sumInts_eq r, List.sum_cons]
    show a + i + r.sum = _
    omega
noncomputable def eSum (m : EM) : EM := fun loc n os K => m loc n os fun p n os => listK os p fun xs => match intsOf xs with
  | some l => forceI (sumInts l 0) fun x => K (.int x) n os
  | none => false
theorem simSum {e : Expr} {np pos : Pos} {m : EM} (B : IsBoot G cs (Str.ofString "sum") (.builtin "sum")) (he : AllPlain [e]) (h : SimE G cs nm r e m) : SimE G cs nm r (.Call (.Name (Str.ofString "sum") np) [e] [] pos) (eSum m) := by
  intro c hc A hA mp loc ex s n ρ os K Q E S hm hQ
  refine boot_call B (simCons h simNil he.1) he hc hA S (K := fun ps n os => match ps with | [p] => (listK os p fun xs => match intsOf xs with | some l => forceI (sumInts l 0) fun x => K (.int x) n os | none => false) | _ => false) hm fun ps vs h' tk n' ρ' os' k1 r1 S1 e1 => ?_
  match ps, vs, r1, k1 with
  | [p], [v], r1, k1 =>
    obtain ⟨j, xs, rfl, hj, k2⟩ := listK_ok k1
    obtain ⟨_, rfl⟩ := r1.1
    split at k2
    · rename_i l hl
      rw [forceI_eq, sumInts_eq, Int.zero_add] at k2
      obtain ⟨us, ep, _, hL, hv, _⟩ := S1.D.list hj
      have hi := intsOf_ok hv hl
      have key : numsOf (List.toArray us).toList = l := by rw [show (List.toArray us).toList = us from rfl, hi.numsOf]
      obtain ⟨ys, hys⟩ := hi.allInts.items
      rw [hys] at hL key
      rw [nums_intItems] at key
      refine sum_intListG hA.hd hL fun h₂ tk₂ t' hk => ?_
      have e2 : preSum (numAt ys) ys.size = l.sum := by rw [← key, preSum_eq, List.take_of_length_le (by simp)]
      rw [e2]
      exact hQ (.int l.sum) _ h₂ tk₂ n' ρ' os' k2 ⟨_, rfl⟩ (S1.keeps hk) e1
    · cases k2
end
end Mine
end
-- part M10
section
namespace Mine
open PySem PySem.W PySem.Spec PySem.Calls PyProof.Rows

/-! what is dropped at a return -/
noncomputable def reach : Nat → Hp → V → List Nat
  | 0, _, _ => []
  | d + 1, os, .ref j => j :: (match hLook os j with
    | some (.list xs) => xs.flatMap (reach d os)
    | some (.tup xs) => xs.flatMap (reach d os)
    | some (.clo c cs) => c :: cs
    | _ => [])
  | _ + 1, _, _ => []
noncomputable def forceNs : List Nat → (List Nat → Bool) → Bool
  | [], k => k []
  | i :: r, k => forceN i fun i => forceNs r fun r' => k (i :: r')
theorem forceNs_eq : ∀ (l : List Nat) (k : List Nat → Bool), forceNs l k = k l
  | [], _ => rfl
  | i :: r, k => by unfold forceNs; rw [forceN_eq]; exact forceNs_eq r fun r' => k (i :: r')
noncomputable def memN : Nat → List Nat → Bool
  | _, [] => false
  | i, j :: r => match Nat.beq i j with
    | true => true
    | false => memN i r
noncomputable def keepB (ids : List Nat) (q : Nat × O) : Bool := match q.2 with
  | .tab _ _ => true
  | .code => true
  | _ => memN q.1 ids
noncomputable def gcK (n₀ : Nat) (ids : List Nat) : Hp → (Hp → Bool) → Bool
  | [], k => k []
  | q :: r, k => match Nat.blt q.1 n₀ with
    | true => k (q :: r)
    | false => match keepB ids q with
      | true => gcK n₀ ids r fun r' => k (q :: r')
      | false => gcK n₀ ids r k
theorem gcK_ok {n₀ : Nat} {ids : List Nat} : ∀ {os : Hp} {k : Hp → Bool}, gcK n₀ ids os k = true → ∃ os', List.Sublist os' os ∧ k os' = true
  | [], k, h => ⟨[], .slnil, h⟩
  | q :: r, k, h => by
    unfold gcK at h
    split at h
    · exact ⟨_, List.Sublist.refl _, h⟩
    · split at h
      · obtain ⟨os', h1, h2⟩ := gcK_ok h
        exact ⟨q :: os', h1.cons_cons q, h2⟩
      · obtain ⟨os', h1, h2⟩ := gcK_ok h
        exact ⟨os', h1.cons q, h2⟩
noncomputable def gc (n₀ : Nat) (p : V) (os : Hp) (k : Hp → Bool) : Bool := forceNs (reach 4 os p) fun ids => gcK n₀ ids os k
theorem gc_ok {n₀ : Nat} {p : V} {os : Hp} {k : Hp → Bool} (h : gc n₀ p os k = true) : ∃ os', List.Sublist os' os ∧ k os' = true := by
  unfold gc at h
  rw [forceNs_eq] at h
  exact gcK_ok h

/-! a def's body as a contract -/
noncomputable def bindK : List V → List V → (List V → Bool) → Bool
  | [], pad, k => k pad
  | p :: r, pad, k => bindK r pad fun r' => k (p :: r')
theorem bindK_eq : ∀ (ps pad : List V) (k : List V → Bool), bindK ps pad k = k (ps ++ pad)
  | [], _, _ => rfl
  | p :: r, pad, k => bindK_eq r pad fun r' => k (p :: r')
noncomputable def lenEq : List V → Nat → Bool → Bool
  | [], 0, b => b
  | _ :: r, k + 1, b => lenEq r k b
  | _, _, _ => false
theorem lenEq_ok : ∀ {ps : List V} {k : Nat} {b : Bool}, lenEq ps k b = true → ps.length = k ∧ b = true
  | [], 0, _, h => ⟨rfl, h⟩
  | _ :: r, k + 1, _, h => by obtain ⟨h1, h2⟩ := lenEq_ok (ps := r) h; exact ⟨by rw [List.length_cons, h1], h2⟩
  | [], _ + 1, _, h => by cases h
  | _ :: _, 0, _, h => by cases h
/-- what a body does, as a def's: the rest of its names unbound, what it made dropped -/
noncomputable def defM (k : Nat) (pad : List V) (m : SM) : CM := fun ps n₀ os K => lenEq ps k (bindK ps pad fun loc => m loc n₀ os fun fl _ n os => match fl with
  | .ret p => gc n₀ p os fun os => K p n os
  | .nxt => gc n₀ .none os fun os => K .none n os
  | _ => false)

section
variable {G : Gd}
theorem SimC.le {r r' : Nat} {a : Addr} {m : CM} (h : SimC G r a m) (e : r ≤ r') : SimC G r' a m := fun c A hA => h c A (hA.le e)

theorem lookup_rev_zip : ∀ {pn : List Str} {vs : List Value}, pn.Nodup → ∀ {i : Nat} {x : Str} {v : Value}, pn[i]? = some x → vs[i]? = some v → (pn.zip vs).reverse.lookup x = some v
  | [], _, _, i, _, _, h, _ => by cases i <;> cases h
  | _ :: _, [], _, i, _, _, _, h => by cases i <;> cases h
  | y :: pn, u :: vs, nd, 0, x, v, h1, h2 => by
    cases h1; cases h2
    rw [List.zip_cons_cons, List.reverse_cons, List.lookup_append]
    have : (pn.zip vs).reverse.lookup y = none := by
      rw [List.lookup_eq_none_iff]
      intro p hp
      have hp := List.mem_reverse.mp hp
      have hm : p.1 ∈ pn := (List.of_mem_zip (show (p.1, p.2) ∈ pn.zip vs from hp)).1
      rw [List.nodup_cons] at nd
      have hne : y ≠ p.1 := fun e => nd.1 (e ▸ hm)
      simp [hne]
    rw [this]
    simp
  | y :: pn, u :: vs, nd, i + 1, x, v, h1, h2 => by
    rw [List.nodup_cons] at nd
    rw [List.zip_cons_cons, List.reverse_cons, List.lookup_append, lookup_rev_zip nd.2 (i := i) (by simpa using h1) (by simpa using h2)]
    rfl

/-- the first names, bound to the arguments -/
theorem loc_start {n : Nat} {ρ : Nat → Addr} {pn nm : List Str} {ps pad : List V} {vs : List Value} (nd : pn.Nodup) (hpre : ∀ (i : Nat) (x : Str), i < pn.length → nm[i]? = some x → pn[i]? = some x) (hpad : ∀ q ∈ pad, q = V.unb) (hl : ps.length = pn.length) (hr : VRs n ρ ps vs) :
    LocR n ρ (fun y => (pn.zip vs).reverse.lookup y) nm (ps ++ pad) := by
  refine ⟨fun i x p h1 h2 => ?_⟩
  by_cases hi : i < ps.length
  · rw [List.getElem?_append_left hi] at h2
    obtain ⟨v, hv, hrv⟩ := hr.get h2
    exact .inr ⟨v, lookup_rev_zip nd (hpre i x (hl ▸ hi) h1) hv, hrv⟩
  · rw [List.getElem?_append_right (Nat.le_of_not_lt hi)] at h2
    exact .inl (hpad p (List.mem_of_getElem? h2))

theorem simDef {r : Nat} {a : Addr} {oc : Value} {od : Option Addr} {name qual : Str} {params : Arguments} {body : List Stmt} {scope : Scope} {dV kV doc pm cdv ct : Value} {an : Option Addr} {osl : Array (Option Value)} {pn nm : List Str} {pad : List V} {m : SM}
    (ho : G.K.lookup a = some ⟨oc, od, .func (fnOf name qual params body scope dV kV doc pm an cdv ct), osl⟩) (hcd : codeIn G.K cdv qual = true)
    (hb : ∀ vs : List Value, vs.length = pn.length → bindArgs (fnOf name qual params body scope dV kV doc pm an cdv ct) ⟨vs, []⟩ = pure (pn.zip vs)) (hloc : ∀ x ∈ pn, scope.names.lookup x = some .local) (nd : pn.Nodup)
    (hpre : ∀ (i : Nat) (x : Str), i < pn.length → nm[i]? = some x → pn[i]? = some x) (hpad : ∀ q ∈ pad, q = V.unb)
    (hco : scope.isCoroutine = false) (hgen : scope.isGenerator = false) (hk : scope.kind = .function) (hcell : ∀ x ∈ scope.names, x.2 ≠ .cell)
    (hm : SimSs G scope nm r body m) : SimC G (r + 1) a (defM pn.length pad m) := by
  intro c A hA mp ex s n ρ os vs ps K Q E F D hr hmm hQ
  unfold defM at hmm
  obtain ⟨hl, hmm⟩ := lenEq_ok hmm
  rw [bindK_eq] at hmm
  have hlv : vs.length = pn.length := hr.length.trans hl
  obtain ⟨l, h1, N, nd3⟩ := D.led
  refine wpAny_call ?_
  refine PySem.W.code_def c.B F c.X N c.T hA.fr rfl c.hk ho hcd (by have := hA.dp; omega) (BindsTo.of_eq (hb vs hlv)) (fun y hy => hloc y.1 (List.of_mem_zip (show (y.1, y.2) ∈ pn.zip vs from hy)).1) (fun g L' h₁ FG F' N' B' X' T' => ?_) hco hgen hk hcell
  let c' : Cx G := ⟨qual, scope, L', a, cdv, [], c.env :: c.outer, A, c.base, g, B', X', T', hk⟩
  have hA' : AOk c' r (A.deeper c'.env) := ⟨by show A.frames.map _ = _; rw [hA.fr]; rfl, by show A.depth + 1 + r < _; have := hA.dp; omega, by show A.units + 3 + 10 * r + 100 < _; have := hA.un; omega, hA.hd⟩
  have S' : St c' nm h₁ (fun y => (pn.zip vs).reverse.lookup y) (ps ++ pad) n ρ os ex := ⟨F', ⟨l, h1, N', nd3⟩, loc_start nd hpre hpad hl hr⟩
  refine hm c' rfl _ hA' ex { s with heap := h₁, toks := _ } _ _ n ρ os _ _ _ S' hmm fun fl f h' tk mp'' loc' n' ρ' os' k1 r1 S1 e1 => ?_
  obtain ⟨l', q1, q2, q3⟩ := S1.D.led
  cases fl with
  | ret p =>
    obtain ⟨v, rfl, hv⟩ := r1
    obtain ⟨os'', hs, k2⟩ := gc_ok k1
    refine leaveK_ S1.F q2 fun Fb Nb => ?_
    exact hQ p v h' tk n' ρ' os'' k2 hv Fb (Led.sublist hs ⟨l', q1, Nb, q3⟩) e1
  | nxt =>
    cases r1
    obtain ⟨os'', hs, k2⟩ := gc_ok k1
    refine leaveK_ S1.F q2 fun Fb Nb => ?_
    exact hQ .none _ h' tk n' ρ' os'' k2 rfl Fb (Led.sublist hs ⟨l', q1, Nb, q3⟩) e1
  | brk => cases k1
  | cnt => cases k1

section
variable {cs : Scope} {nm : List Str} {r : Nat}
noncomputable def IsFun (G : Gd) (a : Addr) : Prop := ∃ oc od fd osl, G.K.lookup a = some ⟨oc, od, .func fd, osl⟩
noncomputable def eCall (cm : CM) (ms : ES) : EM := fun loc n os K => ms loc n os fun ps n os => cm ps n os K
theorem call_args {a : Addr} (hf : IsFun G a) {cm : CM} (hC : SimC G r a cm) {e : Expr} {es : List Expr} {ms : ES} (hs : SimEs G cs nm r (e :: es) ms) (hp : AllPlain (e :: es)) {pos : Pos} {c : Cx G} (hc : c.cs = cs) {A : Around} (hA : AOk c r A)
    {mp : Str → Option Value} {loc : List V} {ex : List (Addr × Obj)} {s : Shared} {n : Nat} {ρ : Nat → Addr} {os : Hp} {K : KE} {Q E : Value → Shared → Prop} (S : St c nm s.heap mp loc n ρ os ex) (hm : (ms loc n os fun ps n os => cm ps n os K) = true)
    (hQ : ∀ p v h' tk n' ρ' os', K p n' os' = true → VR n' ρ' p v → St c nm h' mp loc n' ρ' os' ex → Ext n ρ n' ρ' → Q v { s with heap := h', toks := tk }) :
    wpAny (model G.prog G.w) A (callWith pos (.ref a) [] (backTo pos (starEach (e :: es) c.env)) []) Q E s := by
  obtain ⟨oc, od, fd, osl, hk⟩ := hf
  refine callWith_def_at (h' := s.heap) (S.F.keep _ _ (c.X _ _ hk)) rfl ?_ (hp.1 _)
  refine hs c hc A hA pos mp loc ex s n ρ os _ _ E S hm fun ps vs h' tk n' ρ' os' k1 r1 S1 e1 => ⟨S1.F.keep _ _ (c.X _ _ hk), ?_⟩
  exact hC c A hA mp ex { s with heap := h', toks := tk } n' ρ' os' vs ps K Q E S1.F S1.D r1 k1 fun p v h'' tk' n'' ρ'' os'' k2 r2 F2 D2 e2 => hQ p v h'' tk' n'' ρ'' os'' k2 r2 ⟨F2, D2, S1.l.ext e2⟩ (e1.trans e2)
theorem simCall {x : Str} {np pos : Pos} {a : Addr} {r' : Nat} {cm : CM} {e : Expr} {es : List Expr} {ms : ES} (hn : nsIn G.K mainGlobals x = some (some (.ref a))) (hl : cs.names.lookup x = some .globalImplicit) (hd : (x == ("__debug__" : Str)) = false)
    (hf : IsFun G a) (hC : SimC G r' a cm) (hr : r' ≤ r) (hp : AllPlain (e :: es)) (hs : SimEs G cs nm r (e :: es) ms) : SimE G cs nm r (.Call (.Name x np) (e :: es) [] pos) (eCall cm ms) := by
  intro c hc A hA mp loc ex s n ρ os K Q E S hm hQ
  refine Call_ (nameX_K S.F c.X (topRead_of c.T) hn ?_ c.hk (by subst hc; exact hl) hd)
  exact call_args hf (hC.le hr) hs hp hc hA S hm hQ
/-- the callee is a local's value: one of two defs -/
noncomputable def eCallV (i : Nat) (a₁ : Addr) (m₁ : CM) (ms : ES) : EM := fun loc n os K => getV loc i fun p => match p with
  | .glob a => match Nat.beq a a₁ with
    | true => ms loc n os fun ps n os => m₁ ps n os K
    | false => false
  | _ => false
theorem simCallV {x : Str} {np pos : Pos} {i : Nat} {a₁ : Addr} {r' : Nat} {m₁ : CM} {e : Expr} {es : List Expr} {ms : ES} (hi : nm[i]? = some x) (hl : cs.names.lookup x = some .local) (hd : (x == ("__debug__" : Str)) = false)
    (hf : IsFun G a₁) (hC : SimC G r' a₁ m₁) (hr : r' ≤ r) (hp : AllPlain (e :: es)) (hs : SimEs G cs nm r (e :: es) ms) : SimE G cs nm r (.Call (.Name x np) (e :: es) [] pos) (eCallV i a₁ m₁ ms) := by
  intro c hc A hA mp loc ex s n ρ os K Q E S hm hQ
  obtain ⟨p, h1, h2⟩ := getV_ok hm
  cases p with
  | glob a =>
    dsimp only at h2
    split at h2
    · rename_i hb
      have := beq_tt hb
      subst this
      rcases S.l.at' i x _ hi h1 with h0 | ⟨v, hv, rfl⟩
      · cases h0
      · subst hc
        exact Call_ (nameX_L S.F hv (call_args hf (hC.le hr) hs hp rfl hA S h2 hQ) c.hk hl hd)
    · cases h2
  | _ => cases h2
end
end
end Mine
end
-- part M11
section
namespace Mine
open PySem PySem.W PySem.Spec PySem.Calls PyProof.Rows

section
variable {I : CloInfo} {h₀ h h' : Heap} {L : Addr} {n : Nat} {ρ : Nat → Addr} {os : Hp} {ex : List (Addr × Obj)} {m : Str → Option Value}
theorem Led.turn2Ex {a b : Addr} {oa ob oa' ob' : Obj} (D : Led I h₀ L h n ρ os ((a, oa) :: (b, ob) :: ex)) (hk : ∀ c o, c ≠ a → c ≠ b → h.get? c = some o → h'.get? c = some o) (ga : h'.get? a = some oa') (gb : h'.get? b = some ob') :
    Led I h₀ L h' n ρ os ((a, oa') :: (b, ob') :: ex) := by
  obtain ⟨l, h1, h2, h3⟩ := D.led
  have za := h2 (a, oa) (List.mem_append_right _ (.head _))
  have zb := h2 (b, ob) (List.mem_append_right _ (.tail _ (.head _)))
  have h3' := h3
  rw [List.map_append, List.nodup_append, List.map_cons, List.map_cons, List.nodup_cons, List.nodup_cons] at h3
  refine ⟨l, h1, fun p hp => ?_, by rw [List.map_append, List.map_cons, List.map_cons] at h3' ⊢; exact h3'⟩
  rcases List.mem_append.mp hp with q | q
  · have z := h2 p (List.mem_append_left _ q)
    have hq := List.mem_map_of_mem (f := (·.1)) q
    exact ⟨hk _ _ (h3.2.2 p.1 hq a (.head _)) (h3.2.2 p.1 hq b (.tail _ (.head _))) z.1, z.2⟩
  · rcases List.mem_cons.mp q with rfl | q
    · exact ⟨ga, za.2⟩
    · rcases List.mem_cons.mp q with rfl | q
      · exact ⟨gb, zb.2⟩
      · have z := h2 p (List.mem_append_right _ (.tail _ (.tail _ q)))
        have hq := List.mem_map_of_mem (f := (·.1)) q
        exact ⟨hk _ _ (fun e => h3.2.1.1 (List.mem_cons_of_mem _ (e ▸ hq))) (fun e => h3.2.1.2.1 (e ▸ hq)) z.1, z.2⟩
theorem Led.newExs (F : Fr h₀ L h m) (D : Led I h₀ L h n ρ os ex) {ex₂ : List (Addr × Obj)} (ha : ∀ p ∈ ex₂, h.objs.size ≤ p.1 ∧ h'.get? p.1 = some p.2) (nd : (ex₂.map (·.1)).Nodup) (hk : ∀ b o, h.get? b = some o → h'.get? b = some o) :
    Led I h₀ L h' n ρ os (ex₂ ++ ex) := by
  obtain ⟨l, h1, h2, h3⟩ := D.led
  refine ⟨l, h1, fun p hp => ?_, ?_⟩
  · have old : p ∈ l ++ ex → h'.get? p.1 = some p.2 ∧ p.1 ≠ L ∧ h₀.get? p.1 = none := fun q => ⟨hk _ _ (h2 p q).1, (h2 p q).2⟩
    rcases List.mem_append.mp hp with hp | hp
    · exact old (List.mem_append_left _ hp)
    · rcases List.mem_append.mp hp with hp | hp
      · exact ⟨(ha p hp).2, Nat.ne_of_gt (Nat.lt_of_lt_of_le F.ns.lt (ha p hp).1), Heap.get?_none_of_le (Nat.le_trans F.above (Nat.le_trans (Nat.le_of_lt F.ns.lt) (ha p hp).1))⟩
      · exact old (List.mem_append_right _ hp)
  · have lt : ∀ p ∈ l ++ ex, p.1 < h.objs.size := fun p hp => Heap.lt_size (h2 p hp).1
    rw [List.map_append, List.nodup_append] at h3
    rw [List.map_append, List.map_append, List.nodup_append, List.nodup_append]
    have hx : ∀ x ∈ ex₂.map (·.1), h.objs.size ≤ x := fun x hx => by
      obtain ⟨p, hp, e⟩ := List.mem_map.mp hx
      rw [← e]; exact (ha p hp).1
    have hl : ∀ x ∈ l.map (·.1), x < h.objs.size := fun x hx => by
      obtain ⟨p, hp, e⟩ := List.mem_map.mp hx
      rw [← e]; exact lt p (List.mem_append_left _ hp)
    have he : ∀ x ∈ ex.map (·.1), x < h.objs.size := fun x hx => by
      obtain ⟨p, hp, e⟩ := List.mem_map.mp hx
      rw [← e]; exact lt p (List.mem_append_right _ hp)
    refine ⟨h3.1, ⟨nd, h3.2.1, fun x q y w e => ?_⟩, fun x q y w e => ?_⟩
    · subst e; exact absurd (he _ w) (Nat.not_lt.mpr (hx _ q))
    · subst e
      rcases List.mem_append.mp w with w | w
      · exact absurd (hl _ q) (Nat.not_lt.mpr (hx _ w))
      · exact h3.2.2 _ q _ w rfl
theorem Fr.turn2 {a b : Addr} (F : Fr h₀ L h m) (hk : ∀ c o, c ≠ a → c ≠ b → h.get? c = some o → h'.get? c = some o) (ha : a ≠ L) (hb : b ≠ L) (na : h₀.get? a = none) (nb : h₀.get? b = none) : Fr h₀ L h' m :=
  ⟨F.ns.at fun o e => hk _ o (Ne.symm ha) (Ne.symm hb) e, fun c o e => hk c o (fun q => by rw [q, na] at e; cases e) (fun q => by rw [q, nb] at e; cases e) (F.keep c o e), F.above⟩
end

section
variable {G : Gd} {cs : Scope} {nm : List Str} {r : Nat}
noncomputable def loopE (i j : Nat) (b : SM) (id : Nat) : Nat → Nat → SM
  | 0, _ => fun _ _ _ _ => false
  | f + 1, at' => fun loc n os K => lookK os id fun o => match o with
    | .list xs => nthK xs at' (fun _ => K .nxt loc n os) fun p => setV loc i (.int (.ofNat at')) fun loc => setV loc j p fun loc => b loc n os fun fl loc n os => match fl with
      | .nxt => forceN (at' + 1) fun a => loopE i j b id f a loc n os K
      | .cnt => forceN (at' + 1) fun a => loopE i j b id f a loc n os K
      | .brk => K .nxt loc n os
      | .ret v => K (.ret v) loc n os
    | _ => false
noncomputable def sForE (i j : Nat) (fuel : Nat) (m : EM) (b : SM) : SM := fun loc n os K => m loc n os fun p n os => match p with
  | .ref id => loopE i j b id fuel 0 loc n os K
  | _ => false
theorem simForE (fuel : Nat) {xi xv : Str} {px pv pos np cp tp : Pos} {x1} {e : Expr} {body : List Stmt} {i j : Nat} {m : EM} {b : SM} (B : IsBoot G cs (Str.ofString "enumerate") (.type "enumerate")) (he : AllPlain [e])
    (hi : nm[i]? = some xi) (hj : nm[j]? = some xv) (nd : nm.Nodup) (hli : cs.names.lookup xi = some .local) (hlj : cs.names.lookup xv = some .local)
    (hs : ∀ env v, foldedSetIterable (.Call (.Name (Str.ofString "enumerate") np) [e] [] cp) env v = pure v)
    (hm' : SimE G cs nm r e m) (h : SimSs G cs nm r body b) :
    SimS G cs nm r (.For (.Tuple [.Name xi px, .Name xv pv] x1 tp) (.Call (.Name (Str.ofString "enumerate") np) [e] [] cp) body [] pos) (sForE i j fuel m b) := by
  intro c hc A hA ex s mp loc n ρ os K Q E S hm hQ
  refine wpAny_For (boot_type B (simCons hm' simNil he.1) he hc hA S (K := fun ps n os => match ps with | [p] => (match p with | .ref id => loopE i j b id fuel 0 loc n os K | _ => false) | _ => false) hm fun ps vs h' tk n' ρ' os' k1 r1 S1 e1 => ?_) (hs _)
  have hshape : ∃ id v, ps = [.ref id] ∧ vs = [v] ∧ VR n' ρ' (.ref id) v ∧ loopE i j b id fuel 0 loc n' os' K = true := by
    match ps, vs, r1, k1 with
    | [p], [v], r1, k1 =>
      cases p with
      | ref id => exact ⟨id, v, rfl, rfl, r1.1, k1⟩
      | _ => cases k1
  obtain ⟨id, v, rfl, rfl, r1, k1⟩ := hshape
  · obtain ⟨hjn, rfl⟩ := r1
    cases fuel with
    | zero => cases k1
    | succ fuel =>
      have hlist : ∃ xs, hLook os' id = some (.list xs) := by
        unfold loopE at k1
        obtain ⟨o, h1, h2⟩ := lookK_ok k1
        cases o with
        | list xs => exact ⟨xs, h1⟩
        | _ => cases h2
      obtain ⟨xs, hid⟩ := hlist
      obtain ⟨vs, _, _, hlst, _, _⟩ := S1.D.list hid
      refine call_enumerate_list hlst fun h₁ hen hit hz hk => ?_
      obtain ⟨ob, hg, hc1, hd1⟩ := hit
      refine wpAny_pyIter_enum hen ?_
      have hLs := S1.F.ns.lt
      replace hen : IsEnum h₁ (h'.objs.size + 1) h'.objs.size 0 Value.none := hen
      replace hg : h₁.get? h'.objs.size = some ob := hg
      have nd2 : ∀ x y : Obj, (([(h'.objs.size + 1, x), (h'.objs.size, y)] : List (Addr × Obj)).map (·.1)).Nodup := fun x y => by simp
      have D1 := Led.newExs S1.F S1.D (ex₂ := [(h'.objs.size + 1, _), (h'.objs.size, ob)]) (fun p hp => by
        rcases List.mem_cons.mp hp with rfl | hp
        · exact ⟨Nat.le_succ _, hen⟩
        · cases List.mem_singleton.mp hp; exact ⟨Nat.le_refl _, hg⟩) (nd2 _ _) hk
      have S2 : St c nm h₁ mp loc n' ρ' os' ((h'.objs.size + 1, _) :: (h'.objs.size, ob) :: ex) := ⟨⟨S1.F.ns.at fun o e => hk _ o e, fun b o e => hk b o (S1.F.keep b o e), S1.F.above⟩, D1, S1.l⟩
      refine codeAny_forLoop_any (fun f s' => ∃ (h₁ : Heap) (tk : Nat) (mp' : Str → Option Value) (loc' : List V) (n₁ : Nat) (ρ₁ : Nat → Addr) (os₁ : Hp) (a : Nat) (old : Value) (oe ob : Obj), s' = { s with heap := h₁, toks := tk } ∧ loopE i j b id f a loc' n₁ os₁ K = true ∧
          IsEnum h₁ (h'.objs.size + 1) h'.objs.size a old ∧ iterOb (ρ' id) a ob ∧ St c nm h₁ mp' loc' n₁ ρ₁ os₁ ((h'.objs.size + 1, oe) :: (h'.objs.size, ob) :: ex) ∧ Ext n' ρ' n₁ ρ₁) ?_ (fuel + 1)
        ⟨_, tk, mp, loc, n', ρ', os', 0, _, _, _, rfl, k1, hen, ⟨hc1, hd1⟩, S2, .refl⟩
      have hne : h'.objs.size + 1 ≠ h'.objs.size := Nat.succ_ne_self _
      generalize h'.objs.size = it at hne ⊢
      generalize it + 1 = en at hne ⊢
      clear S2 k1 hid hlst
      rintro f s' ⟨h₁, tk, mp', loc', n₁, ρ₁, os₁, a, old, oe, ob, rfl, k1, hen, ⟨hob1, hob2⟩, S', e'⟩
      obtain ⟨_, heL, hen0⟩ := S'.D.exAt (.head _)
      obtain ⟨hit, hiL, hin⟩ := S'.D.exAt (.tail _ (.head _))
      have hiter : h₁.IsListIter it (ρ' id) a := ⟨ob, hit, hob1, hob2⟩
      have hρ : ρ₁ id = ρ' id := e'.eq id hjn
      cases f with
      | zero => cases k1
      | succ f =>
        unfold loopE at k1
        obtain ⟨o, h1, k1⟩ := lookK_ok k1
        cases o with
        | list ys =>
          dsimp only at k1
          obtain ⟨us, _, _, hl₁, hv₁, _⟩ := S'.D.list h1
          rw [hρ] at hl₁
          rcases nthK_ok k1 with ⟨q1, q2⟩ | ⟨p, hp, k2⟩
          · refine wpAny_pyNext_enum_end hA.hd hen hiter hl₁ (by simp [hv₁.length, q1]) fun h₂ he => wpAny_execs_nil ?_
            have D3 : Led G.I c.h₀ c.L h₂ n₁ ρ₁ os₁ ex := by
              have := S'.D
              obtain ⟨l, w1, w2, w3⟩ := this.led
              have D4 : Led G.I c.h₀ c.L h₁ n₁ ρ₁ os₁ ((it, ob) :: ex) := S'.D.dropEx
              exact D4.lostEx he
            exact hQ .nxt _ h₂ tk mp' loc' n₁ ρ₁ os₁ q2 rfl ⟨Fr.lost S'.F hiL hin he, D3, S'.l⟩ (e1.trans e')
          · obtain ⟨y, hy, hry⟩ := hv₁.get hp
            obtain ⟨_, k3⟩ := setV_ok k2
            obtain ⟨_, k3⟩ := setV_ok k3
            refine wpAny_pyNext_enum_item hen hiter hl₁ (by simpa using hy) hne fun h₂ heo hit₂ ht₂ hz₂ hk₂ => ?_
            obtain ⟨ob₂, hg₂, hc₂, hd₂⟩ := hit₂
            refine wpAny_letOwnedTupleGo_enum heo fun h₃ he₃ hs₃ => ?_
            replace hs₃ : Heap.SameBut en h₂ h₃ := hs₃
            have hk₃ : ∀ b o, b ≠ en → b ≠ it → h₁.get? b = some o → h₃.get? b = some o := fun b o x y z => hs₃.extBut b o x (hk₂ b o x y z)
            have hg₃ : h₃.get? it = some ob₂ := hs₃.extBut it _ (Ne.symm hne) hg₂
            have S3 : St c nm h₃ mp' loc' n₁ ρ₁ os₁ ((en, _) :: (it, ob₂) :: ex) := ⟨Fr.turn2 S'.F hk₃ heL hiL hen0 hin, S'.D.turn2Ex hk₃ he₃ hg₃, S'.l⟩
            have ht₃ : h₃.IsTuple h₁.objs.size (List.toArray [.int a tk, y]) := ⟨_, hs₃.extBut _ _ (Nat.ne_of_gt (Heap.lt_size (S'.D.exAt (.head _)).1)) ht₂, rfl, _, rfl⟩
            refine assignTup_step (s := { s with heap := h₃, toks := tk + 1 }) (ps := [.int (.ofNat a), p]) (target2 ⟨hi, hli⟩ ⟨hj, hlj⟩) nd hc hA.hd S3 ht₃ ⟨⟨_, rfl⟩, hry, trivial⟩ rfl fun h₄ tk₄ mp₄ S4 => ?_
            refine h c hc A hA _ _ _ _ n₁ ρ₁ os₁ _ _ _ S4 k3 fun fl g h₄ tk₄ mp₄ loc₄ n₄ ρ₄ os₄ k4 r4 S5 e4 => ?_
            have hen5 := (S5.D.exAt (.head _)).1
            cases fl with
            | nxt => cases r4; rw [forceN_eq] at k4; exact ⟨f, Nat.lt_succ_self _, h₄, tk₄, mp₄, loc₄, n₄, ρ₄, os₄, a + 1, y, _, ob₂, rfl, k4, hen5, ⟨hc₂, hd₂⟩, S5, e'.trans e4⟩
            | cnt => cases r4; rw [forceN_eq] at k4; exact ⟨f, Nat.lt_succ_self _, h₄, tk₄, mp₄, loc₄, n₄, ρ₄, os₄, a + 1, y, _, ob₂, rfl, k4, hen5, ⟨hc₂, hd₂⟩, S5, e'.trans e4⟩
            | brk => cases r4; exact hQ .nxt _ h₄ tk₄ mp₄ loc₄ n₄ ρ₄ os₄ k4 rfl ⟨S5.F, S5.D.dropEx.dropEx, S5.l⟩ (e1.trans (e'.trans e4))
            | ret v => obtain ⟨u, rfl, hu⟩ := r4; exact hQ (.ret v) _ h₄ tk₄ mp₄ loc₄ n₄ ρ₄ os₄ k4 ⟨u, rfl, hu⟩ ⟨S5.F, S5.D.dropEx.dropEx, S5.l⟩ (e1.trans (e'.trans e4))
        | _ => cases k1
end
end Mine
end
-- part M12
section
namespace Mine
open PySem PySem.W PySem.Spec PySem.Calls PyProof.Rows

noncomputable def cellK (os : Hp) (k : Nat) (f : V → Bool) : Bool := lookK os k fun o => match o with
  | .cell p => f p
  | _ => false
theorem cellK_ok {os : Hp} {k : Nat} {f : V → Bool} (h : cellK os k f = true) : ∃ p, hLook os k = some (.cell p) ∧ f p = true := by
  unfold cellK at h
  obtain ⟨o, h1, h2⟩ := lookK_ok h
  cases o with
  | cell p => exact ⟨p, h1, h2⟩
  | _ => cases h2
noncomputable def globK (p : V) (a : Nat) (b : Bool) : Bool := match p with
  | .glob a' => match Nat.beq a' a with
    | true => b
    | false => false
  | _ => false
theorem globK_ok {p : V} {a : Nat} {b : Bool} (h : globK p a b = true) : p = .glob a ∧ b = true := by
  unfold globK at h
  cases p with
  | glob a' =>
    dsimp only at h
    split at h
    · rename_i e; exact ⟨by rw [beq_tt e], h⟩
    · cases h
  | _ => cases h

section
variable {G : Gd} {nm : List Str}
/-- a free name read -/
theorem free_step {c : Cx G} {A : Around} {x : Str} {pos : Pos} {k : Nat} {p : V} {s : Shared} {mp : Str → Option Value} {loc : List V} {n : Nat} {ρ : Nat → Addr} {os : Hp} {ex : List (Addr × Obj)} {Q E : Value → Shared → Prop} (S : St c nm s.heap mp loc n ρ os ex)
    (e : hLook os k = some (.cell p)) (hcl : c.cl.lookup x = some (ρ k)) (hf : c.cs.names.lookup x = some .free) (hd : (x == ("__debug__" : Str)) = false) (hcd : (x == ("__classdict__" : Str)) = false)
    (hQ : ∀ v, VR n ρ p v → Q v s) : wpAny (model G.prog G.w) A (eval (.Name x pos) c.env) Q E s := by
  obtain ⟨l, h1, N, _⟩ := S.D.led
  obtain ⟨ob, hm, ⟨v, hv, hr⟩, _⟩ := h1.look e
  exact nameX_F N hcl (List.mem_append_left _ hm) hv (hQ v hr) c.hk hf hd hcd

/-- a ledger's closure, called -/
noncomputable def SimV (G : Gd) (r : Nat) (m : Nat → CM) : Prop :=
  ∀ (c : Cx G) (A : Around), AOk c r A → ∀ (mp : Str → Option Value) (ex : List (Addr × Obj)) (s : Shared) (n : Nat) (ρ : Nat → Addr) (os : Hp) (vs : List Value) (ps : List V) (j : Nat) (K : KE) (Q : Value → Shared → Prop) (E : Value → Shared → Prop),
    Fr c.h₀ c.L s.heap mp → Led G.I c.h₀ c.L s.heap n ρ os ex → VRs n ρ ps vs → m j ps n os K = true →
    (∀ p v h' tk n' ρ' os', K p n' os' = true → VR n' ρ' p v → Fr c.h₀ c.L h' mp → Led G.I c.h₀ c.L h' n' ρ' os' ex → Ext n ρ n' ρ' → Q v { s with heap := h', toks := tk }) →
    wpAny (model G.prog G.w) A (call (.ref (ρ j)) vs) Q E s

/-- the closure's text -/
structure CloText (I : CloInfo) (xx xy xd xmm xm xw : Str) : Prop where
  body : ∃ p1 p2 p3 p4 p5 p6 p7 p8 p9 p10 p11 p12, I.body = [.Return (some (.Subscript (.Call (.Name xd p1) [.Call (.Name xm p2) [.Name xx p3, .Name xy p4, .Name xw p5] [] p6, .Name xmm p7, .Name xw p8] [] p9) (.Constant (.int 1) 0 p10) p11)) p12]
  names : I.names = [xw, xm, xmm, xd]
  bind : ∀ (cl : List (Str × Addr)) (doc pm : Value) (c' : Addr) (ctv a b : Value), bindArgs (fnX I.name I.qual I.params I.body I.scope cl .none .none doc pm none (.ref c') ctv) ⟨[a, b], []⟩ = pure [(xx, a), (xy, b)]
  lx : I.scope.names.lookup xx = some .local
  ly : I.scope.names.lookup xy = some .local
  ne : xx ≠ xy
  fd : I.scope.names.lookup xd = some .free
  fmm : I.scope.names.lookup xmm = some .free
  fm : I.scope.names.lookup xm = some .free
  fw : I.scope.names.lookup xw = some .free
  cl : ∀ a b c d : Addr, List.lookup xd [(xw, d), (xm, c), (xmm, b), (xd, a)] = some a ∧ List.lookup xmm [(xw, d), (xm, c), (xmm, b), (xd, a)] = some b ∧ List.lookup xm [(xw, d), (xm, c), (xmm, b), (xd, a)] = some c ∧ List.lookup xw [(xw, d), (xm, c), (xmm, b), (xd, a)] = some d
  dd : (xd == ("__debug__" : Str)) = false ∧ (xmm == ("__debug__" : Str)) = false ∧ (xm == ("__debug__" : Str)) = false ∧ (xw == ("__debug__" : Str)) = false ∧ (xx == ("__debug__" : Str)) = false ∧ (xy == ("__debug__" : Str)) = false
  dc : (xd == ("__classdict__" : Str)) = false ∧ (xmm == ("__classdict__" : Str)) = false ∧ (xm == ("__classdict__" : Str)) = false ∧ (xw == ("__classdict__" : Str)) = false
  co : I.scope.isCoroutine = false
  gen : I.scope.isGenerator = false
  kind : I.scope.kind = .function
  cell : ∀ x ∈ I.scope.names, x.2 ≠ .cell

noncomputable def cloM (aD aM : Nat) (cmD cmM : CM) : Nat → CM := fun j ps n₀ os K => match ps with
  | [p, q] => lookK os j fun o => match o with
    | .clo cd cs => match cs with
      | [kw, km, kmm, kd] => lookK os cd fun oc => match oc with
        | .code => cellK os kd fun vd => globK vd aD (cellK os km fun vm => globK vm aM (cellK os kw fun w1 => cmM [p, q, w1] n₀ os fun u n os => cellK os kmm fun mm => cellK os kw fun w2 => cmD [u, mm, w2] n os fun t n os =>
            subK os t (.int 1) fun z => gc n₀ z os fun os => K z n os))
        | _ => false
      | _ => false
    | _ => false
  | _ => false

theorem simClo {xx xy xd xmm xm xw : Str} (T : CloText G.I xx xy xd xmm xm xw) {aD aM : Addr} {cmD cmM : CM} {r : Nat} (hfD : IsFun G aD) (hfM : IsFun G aM) (hD : SimC G r aD cmD) (hM : SimC G r aM cmM) : SimV G (r + 1) (cloM aD aM cmD cmM) := by
  intro c A hA mp ex s n ρ os vs ps j K Q E F D hr hm hQ
  have hshape : ∃ p q v u, ps = [p, q] ∧ vs = [v, u] ∧ VR n ρ p v ∧ VR n ρ q u := by
    match ps, vs, hr, hm with
    | [p, q], [v, u], hr, _ => exact ⟨p, q, v, u, rfl, rfl, hr.1, hr.2.1⟩
  obtain ⟨p, q, v, u, rfl, rfl, rp, rq⟩ := hshape
  unfold cloM at hm
  dsimp only at hm
  obtain ⟨o, hj, hm⟩ := lookK_ok hm
  have hclo : ∃ cd kd kmm km kw, o = .clo cd [kw, km, kmm, kd] ∧ (lookK os cd fun oc => match oc with
        | .code => cellK os kd fun vd => globK vd aD (cellK os km fun vm => globK vm aM (cellK os kw fun w1 => cmM [p, q, w1] n os fun u n' os => cellK os kmm fun mm => cellK os kw fun w2 => cmD [u, mm, w2] n' os fun t n' os =>
            subK os t (.int 1) fun z => gc n z os fun os => K z n' os))
        | _ => false) = true := by
    cases o with
    | clo cd cs =>
      match cs, hm with
      | [kw, km, kmm, kd], hm => exact ⟨cd, kd, kmm, km, kw, rfl, hm⟩
    | _ => cases hm
  obtain ⟨cd, kd, kmm, km, kw, rfl, hm⟩ := hclo
  obtain ⟨oc, hcd, hm⟩ := lookK_ok hm
  cases oc with
  | code =>
    dsimp only at hm
    obtain ⟨vd, hkd, hm⟩ := cellK_ok hm
    obtain ⟨ed, hm2⟩ := globK_ok hm
    rw [ed] at hkd
    obtain ⟨vm, hkm, hm3⟩ := cellK_ok hm2
    obtain ⟨em, hm4⟩ := globK_ok hm3
    rw [em] at hkm
    obtain ⟨w1, hkw, hm5⟩ := cellK_ok hm4
    obtain ⟨l, h1, N, nd3⟩ := D.led
    obtain ⟨fob, hfm, ⟨hcn, hks, doc, pm, ctv, rfl⟩, hjn⟩ := h1.look hj
    obtain ⟨cob, hcm, ⟨cvs, ct, hcd1, hcd2⟩, _⟩ := h1.look hcd
    have hkdn := hks kd (.tail _ (.tail _ (.tail _ (.head _))))
    have hkmmn := hks kmm (.tail _ (.tail _ (.head _)))
    have hkmn := hks km (.tail _ (.head _))
    have hkwn := hks kw (.head _)
    obtain ⟨p1, p2, p3, p4, p5, p6, p7, p8, p9, p10, p11, p12, hbody⟩ := T.body
    have hcl : G.I.names.zip ([kw, km, kmm, kd].map ρ) = [(xw, ρ kw), (xm, ρ km), (xmm, ρ kmm), (xd, ρ kd)] := by rw [T.names]; rfl
    refine wpAny_call ?_
    refine code_nest c.B F c.X N c.T hA.fr rfl c.hk (List.mem_append_left _ hfm) (codeRec_news N (List.mem_append_left _ hcm) hcd1 hcd2) (by have := hA.dp; omega) (BindsTo.of_eq (T.bind _ _ _ _ _ _ _))
      (fun y hy => by rcases List.mem_cons.mp hy with rfl | hy; exact T.lx; cases List.mem_singleton.mp hy; exact T.ly) (fun g L' h₁ FG F' N' B' X' T' => ?_) T.co T.gen T.kind T.cell
    let c' : Cx G := ⟨G.I.qual, G.I.scope, L', ρ j, .ref (ρ cd), G.I.names.zip ([kw, km, kmm, kd].map ρ), c.env :: c.outer, A, c.base, g, B', X', T', T.kind⟩
    have hc'cl : c'.cl = [(xw, ρ kw), (xm, ρ km), (xmm, ρ kmm), (xd, ρ kd)] := hcl
    have hA' : AOk c' r (A.deeper c'.env) := ⟨by show A.frames.map _ = _; rw [hA.fr]; rfl, by show A.depth + 1 + r < _; have := hA.dp; omega, by show A.units + 3 + 10 * r + 100 < _; have := hA.un; omega, hA.hd⟩
    have nxy : [xx, xy].Nodup := by simp [T.ne]
    have S' : St c' [xx, xy] h₁ (fun y => ([(xx, v), (xy, u)] : List (Str × Value)).reverse.lookup y) [p, q] n ρ os ex :=
      ⟨F', ⟨l, h1, N', nd3⟩, by
        have := loc_start (n := n) (ρ := ρ) (pn := [xx, xy]) (nm := [xx, xy]) (ps := [p, q]) (pad := []) (vs := [v, u]) nxy (fun i x _ e => e) (by simp) rfl ⟨rp, rq, trivial⟩
        simpa using this⟩
    rw [hbody]
    show wpAny _ _ (execs _ c'.env) _ _ _
    obtain ⟨tcl1, tcl2, tcl3, tcl4⟩ := T.cl (ρ kd) (ρ kmm) (ρ km) (ρ kw)
    obtain ⟨od1, ot1, fD, os1, hKD⟩ := hfD
    obtain ⟨od2, ot2, fM, os2, hKM⟩ := hfM
    refine wpAny_execs_cons (wpAny_Return_some (Subscript_ (Call_ (free_step S' hkd (by rw [hc'cl]; exact tcl1) T.fd T.dd.1 T.dc.1 fun vD hvD => ?_))))
    cases hvD
    refine callWith_def_at (h' := h₁) (S'.F.keep _ _ (c'.X _ _ hKD)) rfl ?_
    refine spliced_more (Call_ (free_step S' hkm (by rw [hc'cl]; exact tcl3) T.fm T.dd.2.2.1 T.dc.2.2.1 fun vM hvM => ?_)) rfl
    cases hvM
    refine callWith_def_at (h' := h₁) (S'.F.keep _ _ (c'.X _ _ hKM)) rfl ?_
    have lx : G.I.scope.names.lookup xx = some .local := T.lx
    have ly : G.I.scope.names.lookup xy = some .local := T.ly
    have mv : ([(xx, v), (xy, u)] : List (Str × Value)).reverse.lookup xx = some v := lookup_rev_zip (pn := [xx, xy]) (vs := [v, u]) nxy (i := 0) rfl rfl
    have mu : ([(xx, v), (xy, u)] : List (Str × Value)).reverse.lookup xy = some u := lookup_rev_zip (pn := [xx, xy]) (vs := [v, u]) nxy (i := 1) rfl rfl
    refine spliced_more (nameX_L S'.F mv ?_ T.kind lx T.dd.2.2.2.2.1) rfl
    refine spliced_more (nameX_L S'.F mu ?_ T.kind ly T.dd.2.2.2.2.2) rfl
    refine spliced_more (free_step S' hkw (by rw [hc'cl]; exact tcl4) T.fw T.dd.2.2.2.1 T.dc.2.2.2 fun vw hvw => ?_) rfl
    refine spliced_none ⟨S'.F.keep _ _ (c'.X _ _ hKM), ?_⟩
    refine hM c' _ hA' _ ex _ n ρ os _ [p, q, w1] _ _ _ S'.F S'.D ⟨rp, rq, hvw, trivial⟩ hm5 fun z1 y1 h2 tk2 n2 ρ2 os2' k2 r2 F2 D2 e2 => ?_
    have S2 : St c' [xx, xy] h2 _ [p, q] n2 ρ2 os2' ex := ⟨F2, D2, S'.l.ext e2⟩
    obtain ⟨mm, hkmm, k2⟩ := cellK_ok k2
    obtain ⟨w2, hkw2, k2⟩ := cellK_ok k2
    refine spliced_more (free_step (s := { s with heap := h2, toks := tk2 }) S2 hkmm (by rw [hc'cl, e2.eq _ hkmmn]; exact tcl2) T.fmm T.dd.2.1 T.dc.2.1 fun vmm hvmm => ?_) rfl
    refine spliced_more (free_step (s := { s with heap := h2, toks := tk2 }) S2 hkw2 (by rw [hc'cl, e2.eq _ hkwn]; exact tcl4) T.fw T.dd.2.2.2.1 T.dc.2.2.2 fun vw2 hvw2 => ?_) rfl
    refine spliced_none ⟨S2.F.keep _ _ (c'.X _ _ hKD), ?_⟩
    refine hD c' _ hA' _ ex { s with heap := h2, toks := tk2 } n2 ρ2 os2' _ [z1, mm, w2] _ _ _ S2.F S2.D ⟨r2, hvmm, hvw2, trivial⟩ k2 fun z3 y3 h3 tk3 n3 ρ3 os3 k3 r3 F3 D3 e3 => ?_
    have S3 : St c' [xx, xy] h3 _ [p, q] n3 ρ3 os3 ex := ⟨F3, D3, S2.l.ext e3⟩
    refine wpAny_Constant_int ?_
    refine subK_step (s := { s with heap := h3, toks := _ }) (q := .int 1) S3 r3 ⟨_, rfl⟩ k3 (fun _ _ _ => rfl) fun z4 y4 k4 r4 => ?_
    obtain ⟨os'', hs, k5⟩ := gc_ok k4
    obtain ⟨l', q1, q2, q3⟩ := S3.D.led
    refine leaveK_ S3.F q2 fun Fb Nb => ?_
    exact hQ z4 y4 h3 _ n3 ρ3 os'' k5 r4 Fb (Led.sublist hs ⟨l', q1, Nb, q3⟩) (e2.trans e3)
  | _ => cases hm
end
end Mine
end
-- part M13
section
namespace Mine
open PySem PySem.W PySem.Spec PySem.Calls PyProof.Rows

theorem updF_of {d : Addr} {o : Obj} : ∀ {l : List (Addr × Obj)}, (l.map (·.1)).Nodup → (d, o) ∈ l → ∃ g, UpdF d o l g ∧ ∀ o', g o' = setL d o' l
  | [], _, h => by cases h
  | p :: l, nd, h => by
    rw [List.map_cons, List.nodup_cons] at nd
    rcases List.mem_cons.mp h with rfl | h
    · refine ⟨_, .head fun q hq e => nd.1 (e ▸ List.mem_map_of_mem (f := (·.1)) hq), fun o' => ?_⟩
      show (d, o') :: l = (if d = d then (d, o') else (d, o)) :: setL d o' l
      rw [if_pos rfl, setL_away nd.1]
    · obtain ⟨g, h1, h2⟩ := updF_of nd.2 h
      have ne : p.1 ≠ d := fun e => nd.1 (by rw [e]; exact List.mem_map_of_mem (f := (·.1)) h)
      refine ⟨_, .tail ne h1, fun o' => ?_⟩
      show p :: g o' = (if p.1 = d then (d, o') else p) :: setL d o' l
      rw [if_neg ne, h2]

noncomputable def dtM (t : Nat) : CM := fun ps n os K => match ps with
  | [p1, p2, p3, p4] => lookK os t fun o => match o with
    | .tab k c => match Nat.beq k t with
      | true => match c with
        | none => putK os t (.tab t (some (n + 4))) fun os => forceN (n + 6) fun n' => K (.ref (n + 5)) n' ((n + 5, .clo (n + 4) [n + 1, n + 2, n, n + 3]) :: (n + 4, .code) :: (n + 3, .cell p4) :: (n + 2, .cell p3) :: (n + 1, .cell p2) :: (n, .cell p1) :: os)
        | some d => forceN (n + 5) fun n' => K (.ref (n + 4)) n' ((n + 4, .clo d [n + 1, n + 2, n, n + 3]) :: (n + 3, .cell p4) :: (n + 2, .cell p3) :: (n + 1, .cell p2) :: (n, .cell p1) :: os)
      | false => false
    | _ => false
  | _ => false

/-- the text of the def that hands back the closure -/
structure DtText (G : Gd) (a cA : Addr) (fd : FuncData) (name qual : Str) (params : Arguments) (body : List Stmt) (scope : Scope) (dV kV doc pm ct : Value) (an : Option Addr) (x1 x2 x3 x4 : Str) : Prop where
  hbody : ∃ px pr, body = [.FunctionDef G.I.name G.I.params G.I.body [] none [] G.I.scope none G.I.name G.I.pos, .Return (some (.Name G.I.name px)) pr]
  hcd : codeIn G.K (.ref cA) qual = true
  hch : ∀ h, G.K.In h → CodeHd h cA G.I.tabAt
  hb : ∀ v1 v2 v3 v4, bindArgs (fnOf name qual params body scope dV kV doc pm an (.ref cA) ct) ⟨[v1, v2, v3, v4], []⟩ = pure [(x1, v1), (x2, v2), (x3, v3), (x4, v4)]
  hkind : ∀ v1 v2 v3 v4 : Value, (([(x1, v1), (x2, v2), (x3, v3), (x4, v4)] : List (Str × Value)).all fun y => scope.names.lookup y.1 == some .local || scope.names.lookup y.1 == some .cell) = true
  hnd : ((cellsFrom 0 scope.names []).map (·.1)).Nodup
  hcells : ∀ n, cellsFrom n scope.names [] = [(x4, n + 1 + 1 + 1), (x3, n + 1 + 1), (x2, n + 1), (x1, n)]
  hbc : ∀ L' v1 v2 v3 v4, bindC (envOfC qual scope L' a (.ref cA)).kindOf [(x1, v1), (x2, v2), (x3, v3), (x4, v4)] (fun _ => none) x1 = some v1 ∧ bindC (envOfC qual scope L' a (.ref cA)).kindOf [(x1, v1), (x2, v2), (x3, v3), (x4, v4)] (fun _ => none) x2 = some v2 ∧
    bindC (envOfC qual scope L' a (.ref cA)).kindOf [(x1, v1), (x2, v2), (x3, v3), (x4, v4)] (fun _ => none) x3 = some v3 ∧ bindC (envOfC qual scope L' a (.ref cA)).kindOf [(x1, v1), (x2, v2), (x3, v3), (x4, v4)] (fun _ => none) x4 = some v4
  hclos : ∀ L', closureFor G.I.scope (envX qual scope L' a (.ref cA) (cellsFrom (L' + 1) scope.names [])) = pure (G.I.names.zip [L' + 1 + 1, L' + 1 + 1 + 1, L' + 1, L' + 1 + 1 + 1 + 1])
  hd0 : G.I.params.defaults = []
  hk0 : G.I.params.kw_defaults = []
  ha : ∀ env, annTrees G.I.params none env = []
  hq : ∀ L', qualnameIn (envX qual scope L' a (.ref cA) (cellsFrom (L' + 1) scope.names [])) G.I.name G.I.name = G.I.qual
  hloc : scope.names.lookup G.I.name = some .local
  hdb : (G.I.name == ("__debug__" : Str)) = false
  co : scope.isCoroutine = false
  gen : scope.isGenerator = false
  kind : scope.kind = .function


noncomputable def upd (ρ : Nat → Addr) (n : Nat) (a : Addr) : Nat → Addr := fun k => if k = n then a else ρ k
theorem upd_self {ρ : Nat → Addr} {n : Nat} {a : Addr} : upd ρ n a n = a := if_pos rfl
theorem upd_ne {ρ : Nat → Addr} {n k : Nat} {a : Addr} (h : k ≠ n) : upd ρ n a k = ρ k := if_neg h
theorem upd_ext {ρ : Nat → Addr} {n : Nat} {a : Addr} : Ext n ρ (n + 1) (upd ρ n a) := ⟨Nat.le_succ _, fun k hk => if_neg (Nat.ne_of_lt hk)⟩
theorem LL.one {I : CloInfo} {n : Nat} {ρ : Nat → Addr} {os : Hp} {l : List (Addr × Obj)} (h1 : LL I n ρ os l) {a : Addr} {o : O} {ob : Obj} (ho : OR I (n + 1) (upd ρ n a) o ob) : LL I (n + 1) (upd ρ n a) ((n, o) :: os) ((a, ob) :: l) := by
  have z := LL.cons (Nat.lt_succ_self n) ho (h1.ext upd_ext)
  rw [upd_self] at z
  exact z
theorem LL.cell1 {I : CloInfo} {n n₀ : Nat} {ρ ρ₀ : Nat → Addr} {os : Hp} {l : List (Addr × Obj)} (h1 : LL I n ρ os l) {a : Addr} {p : V} {v : Value} {ob : Obj} (hd : ob.data = .cell (some v)) (e : Ext n₀ ρ₀ n ρ) (hr : VR n₀ ρ₀ p v) :
    LL I (n + 1) (upd ρ n a) ((n, .cell p) :: os) ((a, ob) :: l) := h1.one ⟨v, hd, hr.ext (e.trans upd_ext)⟩

theorem nd_cells (L : Nat) (xs : List Nat) (h : ∀ p ∈ xs, p < L) (nd : xs.Nodup) : ((L + 1 + 1 + 1 + 1) :: (L + 1 + 1 + 1) :: (L + 1 + 1) :: (L + 1) :: xs).Nodup := by
  have hx4 : ∀ k : Nat, L < k → k ∉ xs := fun k hk q => absurd (h k q) (Nat.not_lt.mpr (Nat.le_of_lt hk))
  simp only [List.nodup_cons, List.mem_cons, not_or]
  exact ⟨⟨by omega, by omega, by omega, hx4 _ (by omega)⟩, ⟨by omega, by omega, hx4 _ (by omega)⟩, ⟨by omega, hx4 _ (by omega)⟩, hx4 _ (by omega), nd⟩
theorem cell_ne (L a : Nat) (h : a < L) : L + 1 + 1 + 1 + 1 ≠ a ∧ L + 1 + 1 + 1 ≠ a ∧ L + 1 + 1 ≠ a ∧ L + 1 ≠ a := by omega
theorem nd_one {f : Nat} {xs : List Nat} (h : ∀ x ∈ xs, x < f) (nd : xs.Nodup) : (f :: xs).Nodup := List.nodup_cons.mpr ⟨fun q => Nat.lt_irrefl _ (h f q), nd⟩
theorem nd_two {f c : Nat} {xs : List Nat} (h1 : c < f) (h : ∀ x ∈ xs, x < c) (nd : xs.Nodup) : (f :: c :: xs).Nodup := nd_one (fun x hx => by
  rcases List.mem_cons.mp hx with rfl | hx
  · exact h1
  · exact Nat.lt_trans (h x hx) h1) (nd_one h nd)
theorem lt_fst {l : List (Addr × Obj)} {c : Addr} (h : ∀ q ∈ l, q.1 < c) : ∀ x ∈ l.map (·.1), x < c := fun x hx => by
  obtain ⟨q, hq, e⟩ := List.mem_map.mp hx
  rw [← e]; exact h q hq
theorem unb_loc {n : Nat} {ρ : Nat → Addr} {mp : Str → Option Value} {nm : List Str} : LocR n ρ mp nm [.unb] := ⟨fun i x p _ i2 => .inl (by cases i with | zero => cases i2; rfl | succ i => cases i2)⟩

section
variable {G : Gd}
theorem simDT {a cA : Addr} {oc : Value} {od : Option Addr} {osl : Array (Option Value)} {name qual : Str} {params : Arguments} {body : List Stmt} {scope : Scope} {dV kV doc pm ct : Value} {an : Option Addr} {x1 x2 x3 x4 : Str} {t r : Nat}
    (ho : G.K.lookup a = some ⟨oc, od, .func (fnOf name qual params body scope dV kV doc pm an (.ref cA) ct), osl⟩)
    (T : DtText G a cA (fnOf name qual params body scope dV kV doc pm an (.ref cA) ct) name qual params body scope dV kV doc pm ct an x1 x2 x3 x4) : SimC G (r + 1) a (dtM t) := by
  intro c A hA mp ex s n ρ os vs ps K Q E F D hr hm hQ
  have hshape : ∃ p1 p2 p3 p4 v1 v2 v3 v4, ps = [p1, p2, p3, p4] ∧ vs = [v1, v2, v3, v4] ∧ VR n ρ p1 v1 ∧ VR n ρ p2 v2 ∧ VR n ρ p3 v3 ∧ VR n ρ p4 v4 := by
    match ps, vs, hr, hm with
    | [p1, p2, p3, p4], [v1, v2, v3, v4], hr, _ => exact ⟨p1, p2, p3, p4, v1, v2, v3, v4, rfl, rfl, hr.1, hr.2.1, hr.2.2.1, hr.2.2.2.1⟩
  obtain ⟨p1, p2, p3, p4, v1, v2, v3, v4, rfl, rfl, r1, r2, r3, r4⟩ := hshape
  unfold dtM at hm
  dsimp only at hm
  obtain ⟨o, hj, hm⟩ := lookK_ok hm
  cases o with
  | tab k cc =>
    dsimp only at hm
    split at hm
    · rename_i hkt
      have hkt := beq_tt hkt
      subst hkt
      obtain ⟨l, h1, N, nd3⟩ := D.led
      obtain ⟨tob, htm, ⟨⟨htn, hta⟩, htt⟩, _⟩ := h1.look hj
      obtain ⟨px, pr, hbody⟩ := T.hbody
      refine wpAny_call ?_
      refine code_defC c.B F c.X N c.T hA.fr rfl c.hk ho T.hcd (by have := hA.dp; omega) (BindsTo.of_eq (T.hb v1 v2 v3 v4)) (T.hkind v1 v2 v3 v4) T.hnd (fun g L' h₁ tk cells FG F' N' Y B' X' T' hlt => ?_) T.co T.gen T.kind
      rw [T.hcells] at Y
      obtain ⟨b1, b2, b3, b4⟩ := T.hbc L' v1 v2 v3 v4
      cases Y with
      | cons y4 Y =>
      cases Y with
      | cons y3 Y =>
      cases Y with
      | cons y2 Y =>
      cases Y with
      | cons y1 Y =>
      cases Y
      rename_i o4 o3 o2 o1
      rw [b1] at y1
      rw [b2] at y2
      rw [b3] at y3
      rw [b4] at y4
      let c' : Cx G := ⟨qual, scope, L', a, .ref cA, cellsFrom (L' + 1) scope.names [], c.env :: c.outer, A, c.base, g, B', X', T', T.kind⟩
      have hA' : AOk c' r (A.deeper c'.env) := ⟨by show A.frames.map _ = _; rw [hA.fr]; rfl, by show A.depth + 1 + r < _; have := hA.dp; omega, by show A.units + 3 + 10 * r + 100 < _; have := hA.un; omega, hA.hd⟩
      have hx : ∀ p ∈ (l ++ ex).map (·.1), p < L' := fun p hp => by
        obtain ⟨q, hq, e⟩ := List.mem_map.mp hp
        rw [← e]; exact hlt q hq
      have nd4 : ((((L' + 1 + 1 + 1 + 1, o4) :: (L' + 1 + 1 + 1, o3) :: (L' + 1 + 1, o2) :: (L' + 1, o1) :: (l ++ ex) : List (Addr × Obj))).map (·.1)).Nodup := by
        exact nd_cells L' _ hx nd3
      have ndl : (l.map (·.1)).Nodup := by rw [List.map_append, List.nodup_append] at nd3; exact nd3.1
      rw [hbody]
      show wpAny _ _ (execs _ c'.env) _ _ _
      refine wpAny_execs_cons (nestDef_K T.hd0 T.hk0 (T.ha _) ?_)
      show wpAny _ _ (makeFunction _ (qualnameIn c'.env G.I.name G.I.name) _ _ _ _ _ _ _ _ _) _ _ _
      rw [show qualnameIn c'.env G.I.name G.I.name = G.I.qual from T.hq L']
      cases cc with
      | none =>
        dsimp only at hm
        have hm := putK_ok hm
        rw [forceN_eq] at hm
        replace htt : tob = tabObj #[] := htt
        subst htt
        rw [hta] at htm
        obtain ⟨gU, U, hgU⟩ := updF_of (d := G.I.tabAt) (o := tabObj #[]) nd4 (.tail _ (.tail _ (.tail _ (.tail _ (List.mem_append_left _ htm)))))
        refine nest_K F' N' T' (T.hch g X') rfl U trivial rfl (T.hclos L') fun f c₂ oc₂ vs₂ t₂ ctv₂ doc₂ h₂ tk₂ F₂ N₂ hd hv hlt₂ hf => ?_
        rw [hgU] at N₂
        have nd6 := nd4
        rw [← setL_fst G.I.tabAt (tabObj (#[] ++ #[rawInt G.I.pos.line, rawInt G.I.pos.col, .ref c₂]))] at nd6
        have hlt6 : ∀ q ∈ setL G.I.tabAt (tabObj (#[] ++ #[rawInt G.I.pos.line, rawInt G.I.pos.col, .ref c₂])) ((L' + 1 + 1 + 1 + 1, o4) :: (L' + 1 + 1 + 1, o3) :: (L' + 1 + 1, o2) :: (L' + 1, o1) :: (l ++ ex)), q.1 < c₂ := fun q hq => by
          have : q.1 ∈ (setL G.I.tabAt (tabObj (#[] ++ #[rawInt G.I.pos.line, rawInt G.I.pos.col, .ref c₂])) ((L' + 1 + 1 + 1 + 1, o4) :: (L' + 1 + 1 + 1, o3) :: (L' + 1 + 1, o2) :: (L' + 1, o1) :: (l ++ ex))).map (·.1) := List.mem_map_of_mem (f := (·.1)) hq
          rw [setL_fst] at this
          obtain ⟨q', hq', e⟩ := List.mem_map.mp this
          rw [← e]; exact hlt₂ q' hq'
        generalize hob : tabObj (#[] ++ #[rawInt G.I.pos.line, rawInt G.I.pos.col, .ref c₂]) = ob' at N₂ nd6 hlt6
        have hta4 : G.I.tabAt < L' := hlt _ (List.mem_append_left _ htm)
        have hsp : setL G.I.tabAt ob' ((L' + 1 + 1 + 1 + 1, o4) :: (L' + 1 + 1 + 1, o3) :: (L' + 1 + 1, o2) :: (L' + 1, o1) :: (l ++ ex)) = ((L' + 1 + 1 + 1 + 1, o4) :: (L' + 1 + 1 + 1, o3) :: (L' + 1 + 1, o2) :: (L' + 1, o1) :: (setL G.I.tabAt ob' l ++ ex)) := by
          have hex : G.I.tabAt ∉ ex.map (·.1) := fun q => by
            rw [List.map_append, List.nodup_append] at nd3
            exact nd3.2.2 _ (List.mem_map_of_mem (f := (·.1)) htm) _ q rfl
          have e : setL G.I.tabAt ob' (l ++ ex) = setL G.I.tabAt ob' l ++ ex := by rw [setL_append, setL_away hex]
          rw [← e]
          unfold setL
          simp only [List.map_cons]
          obtain ⟨c1, c2, c3, c4⟩ := cell_ne L' G.I.tabAt hta4
          rw [if_neg c1, if_neg c2, if_neg c3, if_neg c4]
        rw [hsp] at N₂ nd6 hlt6
        let ρ6 := upd (upd (upd (upd (upd (upd ρ n (L' + 1)) (n + 1) (L' + 1 + 1)) (n + 2) (L' + 1 + 1 + 1)) (n + 3) (L' + 1 + 1 + 1 + 1)) (n + 4) c₂) (n + 5) f
        have ee : Ext n ρ (n + 6) ρ6 := upd_ext.trans (upd_ext.trans (upd_ext.trans (upd_ext.trans (upd_ext.trans upd_ext))))
        have E0 : ρ6 n = L' + 1 := by simp [ρ6, upd]
        have E1 : ρ6 (n + 1) = L' + 1 + 1 := by simp [ρ6, upd]
        have E2 : ρ6 (n + 2) = L' + 1 + 1 + 1 := by simp [ρ6, upd]
        have E3 : ρ6 (n + 3) = L' + 1 + 1 + 1 + 1 := by simp [ρ6, upd]
        have E4 : ρ6 (n + 4) = c₂ := by simp [ρ6, upd]
        have E5 : ρ6 (n + 5) = f := by simp [ρ6, upd]
        have ht6 : ρ6 k = G.I.tabAt := (ee.eq k htn).trans hta
        have base := (h1.ext ee).put (o' := .tab k (some (n + 4))) (ob' := ob') hj ⟨⟨by omega, ht6⟩, by omega, by rw [E4, ← hob]; rfl⟩ ndl
        rw [ht6] at base
        have LL6 : LL G.I (n + 6) ρ6 ((n + 5, .clo (n + 4) [n + 1, n + 2, n, n + 3]) :: (n + 4, .code) :: (n + 3, .cell p4) :: (n + 2, .cell p3) :: (n + 1, .cell p2) :: (n, .cell p1) :: hPut os k (.tab k (some (n + 4))))
            ((f, fnMade G.I.name G.I.qual G.I.params G.I.body G.I.scope (G.I.names.zip [L' + 1 + 1, L' + 1 + 1 + 1, L' + 1, L' + 1 + 1 + 1 + 1]) doc₂ ((G.mg "__name__").getD .none) c₂ ctv₂) :: (c₂, oc₂) :: (L' + 1 + 1 + 1 + 1, o4) :: (L' + 1 + 1 + 1, o3) :: (L' + 1 + 1, o2) :: (L' + 1, o1) :: setL G.I.tabAt ob' l) := by
          have z := LL.cons (k := n + 5) (o := .clo (n + 4) [n + 1, n + 2, n, n + 3]) (ob := fnMade G.I.name G.I.qual G.I.params G.I.body G.I.scope (G.I.names.zip [L' + 1 + 1, L' + 1 + 1 + 1, L' + 1, L' + 1 + 1 + 1 + 1]) doc₂ ((G.mg "__name__").getD .none) c₂ ctv₂) (by omega)
            ⟨by omega, by intro k hk; simp at hk; omega, doc₂, ((G.mg "__name__").getD .none), ctv₂, by rw [E4]; simp only [List.map_cons, List.map_nil, E0, E1, E2, E3]⟩
            (LL.cons (k := n + 4) (o := .code) (ob := oc₂) (by omega) ⟨vs₂, t₂, hd, hv⟩ (LL.cons (k := n + 3) (o := .cell p4) (ob := o4) (by omega) ⟨v4, y4, r4.ext ee⟩ (LL.cons (k := n + 2) (o := .cell p3) (ob := o3) (by omega) ⟨v3, y3, r3.ext ee⟩
              (LL.cons (k := n + 1) (o := .cell p2) (ob := o2) (by omega) ⟨v2, y2, r2.ext ee⟩ (LL.cons (k := n) (o := .cell p1) (ob := o1) (by omega) ⟨v1, y1, r1.ext ee⟩ base)))))
          rw [E0, E1, E2, E3, E4, E5] at z
          exact z
        have S2 : St c' [G.I.name] h₂ _ [.unb] (n + 6) ρ6 _ ex := ⟨F₂, ⟨_, LL6, N₂, by
          show ((_ :: _ :: (_ :: _ :: _ :: _ :: (setL G.I.tabAt ob' l ++ ex)) : List (Addr × Obj)).map (·.1)).Nodup
          exact nd_two hf (lt_fst hlt6) nd6⟩, unb_loc⟩
        have hr : VR (n + 6) ρ6 (.ref (n + 5)) (.ref f) := ⟨by omega, by rw [E5]⟩
        refine store_step (c := c') (nm := [G.I.name]) (i := 0) rfl S2 rfl (by simp) T.hloc hr fun h₃ S3 => ?_
        refine wpAny_execs_cons (wpAny_Return_some (nameX_L (x := G.I.name) (v := .ref f) S3.F (if_pos rfl) ?_ T.kind T.hloc T.hdb))
        obtain ⟨l', q1, q2, q3⟩ := S3.D.led
        refine leaveK_ S3.F q2 fun Fb Nb => ?_
        exact hQ _ _ h₃ _ _ _ _ hm hr Fb ⟨l', q1, Nb, q3⟩ ee
      | some d =>
        dsimp only at hm
        rw [forceN_eq] at hm
        obtain ⟨hdn, htt⟩ := htt
        subst htt
        rw [hta] at htm
        refine nestHit_K (ps := #[rawInt G.I.pos.line, rawInt G.I.pos.col, .ref (ρ d)]) F' N' T' (T.hch g X') rfl (List.mem_append_right _ (List.mem_append_left _ htm)) trivial (codeAmong_snoc (pos := G.I.pos) (c := .ref (ρ d)) [] trivial rfl) (T.hclos L') fun f ctv₂ doc₂ h₂ tk₂ F₂ N₂ hf => ?_
        let ρ6 := upd (upd (upd (upd (upd ρ n (L' + 1)) (n + 1) (L' + 1 + 1)) (n + 2) (L' + 1 + 1 + 1)) (n + 3) (L' + 1 + 1 + 1 + 1)) (n + 4) f
        have ee : Ext n ρ (n + 5) ρ6 := upd_ext.trans (upd_ext.trans (upd_ext.trans (upd_ext.trans upd_ext)))
        have E0 : ρ6 n = L' + 1 := by simp [ρ6, upd]
        have E1 : ρ6 (n + 1) = L' + 1 + 1 := by simp [ρ6, upd]
        have E2 : ρ6 (n + 2) = L' + 1 + 1 + 1 := by simp [ρ6, upd]
        have E3 : ρ6 (n + 3) = L' + 1 + 1 + 1 + 1 := by simp [ρ6, upd]
        have E4 : ρ6 (n + 4) = f := by simp [ρ6, upd]
        have LL6 : LL G.I (n + 5) ρ6 ((n + 4, .clo d [n + 1, n + 2, n, n + 3]) :: (n + 3, .cell p4) :: (n + 2, .cell p3) :: (n + 1, .cell p2) :: (n, .cell p1) :: os)
            ((f, fnMade G.I.name G.I.qual G.I.params G.I.body G.I.scope (G.I.names.zip [L' + 1 + 1, L' + 1 + 1 + 1, L' + 1, L' + 1 + 1 + 1 + 1]) doc₂ ((G.mg "__name__").getD .none) (ρ d) ctv₂) :: (L' + 1 + 1 + 1 + 1, o4) :: (L' + 1 + 1 + 1, o3) :: (L' + 1 + 1, o2) :: (L' + 1, o1) :: l) := by
          have z := LL.cons (k := n + 4) (o := .clo d [n + 1, n + 2, n, n + 3]) (ob := fnMade G.I.name G.I.qual G.I.params G.I.body G.I.scope (G.I.names.zip [L' + 1 + 1, L' + 1 + 1 + 1, L' + 1, L' + 1 + 1 + 1 + 1]) doc₂ ((G.mg "__name__").getD .none) (ρ d) ctv₂) (by omega)
            ⟨by omega, by intro k hk; simp at hk; omega, doc₂, ((G.mg "__name__").getD .none), ctv₂, by rw [ee.eq d hdn]; simp only [List.map_cons, List.map_nil, E0, E1, E2, E3]⟩
            (LL.cons (k := n + 3) (o := .cell p4) (ob := o4) (by omega) ⟨v4, y4, r4.ext ee⟩ (LL.cons (k := n + 2) (o := .cell p3) (ob := o3) (by omega) ⟨v3, y3, r3.ext ee⟩
              (LL.cons (k := n + 1) (o := .cell p2) (ob := o2) (by omega) ⟨v2, y2, r2.ext ee⟩ (LL.cons (k := n) (o := .cell p1) (ob := o1) (by omega) ⟨v1, y1, r1.ext ee⟩ (h1.ext ee)))))
          rw [E0, E1, E2, E3, E4] at z
          exact z
        have S2 : St c' [G.I.name] h₂ _ [.unb] (n + 5) ρ6 _ ex := ⟨F₂, ⟨_, LL6, N₂, by
          show ((_ :: (_ :: _ :: _ :: _ :: (l ++ ex)) : List (Addr × Obj)).map (·.1)).Nodup
          exact nd_one (lt_fst hf) nd4⟩, unb_loc⟩
        have hr : VR (n + 5) ρ6 (.ref (n + 4)) (.ref f) := ⟨by omega, by rw [E4]⟩
        refine store_step (c := c') (nm := [G.I.name]) (i := 0) rfl S2 rfl (by simp) T.hloc hr fun h₃ S3 => ?_
        refine wpAny_execs_cons (wpAny_Return_some (nameX_L (x := G.I.name) (v := .ref f) S3.F (if_pos rfl) ?_ T.kind T.hloc T.hdb))
        obtain ⟨l', q1, q2, q3⟩ := S3.D.led
        refine leaveK_ S3.F q2 fun Fb Nb => ?_
        exact hQ _ _ h₃ _ _ _ _ hm hr Fb ⟨l', q1, Nb, q3⟩ ee
    · cases hm
  | _ => cases hm
end
end Mine
end
-- part M14
section
namespace Mine
open PySem PySem.W PySem.Spec PySem.Calls PyProof.Rows

/-! an object set aside -/
noncomputable def delK : Hp → Nat → (Hp → Bool) → Bool
  | [], _, _ => false
  | p :: r, k, f => match Nat.beq p.1 k with
    | true => f r
    | false => delK r k fun r' => f (p :: r')
theorem LL.del {I : CloInfo} {n : Nat} {ρ : Nat → Addr} {os : Hp} {l : List (Addr × Obj)} (h : LL I n ρ os l) : ∀ {k : Nat} {o : O} {f : Hp → Bool}, hLook os k = some o → delK os k f = true → ∃ os' l' ob, f os' = true ∧ LL I n ρ os' l' ∧ OR I n ρ o ob ∧ l.Perm ((ρ k, ob) :: l') := by
  induction h with
  | nil => intro k o f e; cases e
  | @cons i o' ob os l hk ho hl ih =>
    intro k o f e hd
    unfold hLook at e
    unfold delK at hd
    dsimp only at hd
    cases q : Nat.beq i k with
    | true => rw [q] at e hd; cases e; have := beq_tt q; subst this; exact ⟨os, l, ob, hd, hl, ho, List.Perm.refl _⟩
    | false =>
      rw [q] at e hd
      obtain ⟨os', l', ob', h1, h2, h3, h4⟩ := ih (f := fun r' => f ((i, o') :: r')) e hd
      exact ⟨(i, o') :: os', (ρ i, ob) :: l', ob', h1, .cons hk ho h2, h3, (h4.cons _).trans (List.Perm.swap _ _ _)⟩
theorem Led.toEx {I : CloInfo} {h₀ h : Heap} {L : Addr} {n : Nat} {ρ : Nat → Addr} {os : Hp} {ex : List (Addr × Obj)} {k : Nat} {o : O} {f : Hp → Bool} (D : Led I h₀ L h n ρ os ex) (e : hLook os k = some o) (hk : delK os k f = true) :
    ∃ os' ob, f os' = true ∧ OR I n ρ o ob ∧ Led I h₀ L h n ρ os' ((ρ k, ob) :: ex) := by
  obtain ⟨l, h1, N, nd⟩ := D.led
  obtain ⟨os', l', ob, q1, q2, q3, q4⟩ := h1.del e hk
  have pp : (l ++ ex).Perm (l' ++ (ρ k, ob) :: ex) := (q4.append_right ex).trans (List.perm_middle (l₁ := l') (a := (ρ k, ob)) (l₂ := ex)).symm
  exact ⟨os', ob, q1, q3, l', q2, fun p hp => N p (pp.mem_iff.mpr hp), (pp.map _).nodup_iff.mp nd⟩

section
variable {l ex : List (Addr × Obj)} {I C D : Addr} {oI oC oD : Obj}
theorem perm3 : (l ++ ((I, oI) :: (C, oC) :: (D, oD) :: ex)).Perm ((I, oI) :: (C, oC) :: (D, oD) :: (l ++ ex)) :=
  (List.perm_middle (l₁ := l)).trans ((List.perm_middle (l₁ := l)).trans ((List.perm_middle (l₁ := l)).cons _) |>.cons _)
theorem nd3_of (nd : ((l ++ ex).map (·.1)).Nodup) (off : LCg.Off3 I C D (l ++ ex)) (ne : (@Ne Nat I C) ∧ (@Ne Nat I D) ∧ (@Ne Nat C D)) : ((l ++ ((I, oI) :: (C, oC) :: (D, oD) :: ex)).map (·.1)).Nodup := by
  refine (perm3.map (·.1)).nodup_iff.mpr ?_
  have o := off.mem
  rw [List.map_cons, List.map_cons, List.map_cons, List.nodup_cons, List.nodup_cons, List.nodup_cons]
  refine ⟨fun q => ?_, fun q => ?_, fun q => ?_, nd⟩
  · rcases List.mem_cons.mp q with q | q
    · exact ne.1 q
    · rcases List.mem_cons.mp q with q | q
      · exact ne.2.1 q
      · obtain ⟨p, hp, e⟩ := List.mem_map.mp q
        exact (o p hp).1 e
  · rcases List.mem_cons.mp q with q | q
    · exact ne.2.2 q
    · obtain ⟨p, hp, e⟩ := List.mem_map.mp q
      exact (o p hp).2.1 e
  · obtain ⟨p, hp, e⟩ := List.mem_map.mp q
    exact (o p hp).2.2 e
theorem off3_of (nd : ((l ++ ((I, oI) :: (C, oC) :: (D, oD) :: ex)).map (·.1)).Nodup) : LCg.Off3 I C D (l ++ ex) ∧ ((l ++ ex).map (·.1)).Nodup := by
  have nd := (perm3.map (·.1)).nodup_iff.mp nd
  rw [List.map_cons, List.map_cons, List.map_cons, List.nodup_cons, List.nodup_cons, List.nodup_cons] at nd
  refine ⟨LCg.Off3.of fun p hp => ?_, nd.2.2.2⟩
  have hm := List.mem_map_of_mem (f := (·.1)) hp
  exact ⟨fun e => nd.1 (.tail _ (.tail _ (e ▸ hm))), fun e => nd.2.1 (.tail _ (e ▸ hm)), fun e => nd.2.2.1 (e ▸ hm)⟩
theorem nd1_of (nd : ((l ++ ex).map (·.1)).Nodup) (off : LCg.Off1 D (l ++ ex)) : (((D, oD) :: (l ++ ex)).map (·.1)).Nodup := by
  rw [List.map_cons, List.nodup_cons]
  refine ⟨fun q => ?_, nd⟩
  obtain ⟨p, hp, e⟩ := List.mem_map.mp q
  have e : p.1 = D := e
  clear nd q
  revert hp off
  induction (l ++ ex) with
  | nil => intro off hp; cases hp
  | cons x r ih =>
    intro off hp
    rcases List.mem_cons.mp hp with rfl | hp
    · exact off.1 e
    · exact ih off.2 hp
end

noncomputable def cp1 (cE : CM) (pn : V) : List V → List V → Nat → Hp → (List V → Nat → Hp → Bool) → Bool
  | [], acc, n, os, k => k acc n os
  | x :: r, acc, n, os, k => cE [pn, x] n os fun v n os => forceN (n + 1) fun n' => cp1 cE pn r (acc ++ [.ref n]) n' ((n, .tup [x, v]) :: os) k
noncomputable def cp2 (os : Hp) : List V → List V → (List V → Bool) → Bool
  | [], acc, k => k acc
  | q :: r, acc, k => subK os q (.int 1) fun x => cmpK (fun a b => Z.ltB b a) x (.int 0) fun b => match b with
    | true => cp2 os r (acc ++ [q]) k
    | false => cp2 os r acc k

section
variable {G : Gd}
theorem cp1_ok {c : Cx G} {A : Around} {r : Nat} (hA : AOk c r A) {aE : Addr} {cE : CM} (hE : SimC G r aE cE) (hfE : IsFun G aE) {ex : List (Addr × Obj)} {c0 : Addr} {o0 : Obj} {vn : Value} (hc0 : (c0, o0) ∈ ex) (hd0 : o0.data = .cell (some vn))
    {ax : Addr} {ep : Nat} {its : List Value} (hsrc : (ax, W.listOf (List.toArray its) ep) ∈ ex) {mp : Str → Option Value} {n0 : Nat} {ρ0 : Nat → Addr} {pn : V} (hvn : VR n0 ρ0 pn vn) {K : List V → Nat → Hp → Bool} {Fin : List Value → List (Addr × Obj) → Prop} {s : Shared}
    {xr xn fE : Str} {p2 p3 p4 p5 p6 p7 : Pos} {k7 : Nat} {sc : Scope} {cl : List (Str × Addr)} (hcl : cl.lookup xn = some c0) (hx : sc.names.lookup xr = some .local) (hk : sc.kind = .function)
    (hn : ∀ C, (compEnvC sc cl C c.env).kindOf xn = some .cell) (hf : ∀ C, (compEnvC sc cl C c.env).kindOf fE = some .globalImplicit)
    (hns : nsIn G.K mainGlobals fE = some (some (.ref aE))) (dx : (xr == ("__debug__" : Str)) = false) (dn : (xn == ("__debug__" : Str)) = false) (df : (fE == ("__debug__" : Str)) = false)
    (hF : ∀ qs ys n ρ os l, K qs n os = true → VRs n ρ qs ys → LL G.I n ρ os l → ((l ++ ex).map (·.1)).Nodup → Ext n0 ρ0 n ρ → Fin ys (l ++ ex)) :
    ∀ (xs : List V) (i : Nat) (qs : List V) (ys : List Value) (n : Nat) (ρ : Nat → Addr) (os : Hp) (l : List (Addr × Obj)), cp1 cE pn xs qs n os K = true → VRs n ρ xs (its.drop i) → VRs n ρ qs ys → LL G.I n ρ os l → ((l ++ ex).map (·.1)).Nodup → Ext n0 ρ0 n ρ →
      LCg.CompRest G.prog G.w A c.h₀ c.L mp c.env (.Tuple [.Name xr p2, .Call (.Name fE p3) [.Name xn p4, .Name xr p5] [] p6] k7 p7) xr sc cl s (LCg.SrcAt c.h₀ ax (List.toArray its)) (fun i v => (List.toArray its)[i]? = some v) Fin xs.length i ys (l ++ ex)
  | [], i, qs, ys, n, ρ, os, l, hm, hv, hq, h1, nd, e => LCg.CompRest.zero (hF qs ys n ρ os l hm hq h1 nd e)
  | x :: xs, i, qs, ys, n, ρ, os, l, hm, hv, hq, h1, nd, e => by
    unfold cp1 at hm
    refine LCg.CompRest.succ fun v I oI C oC D m₂ h tk E' hP hC hmx F N off ne => ?_
    have hdrop : ∃ us, its.drop i = v :: us := by
      have hP : its[i]? = some v := by simpa using hP
      have := List.drop_eq_getElem_cons (List.getElem?_eq_some_iff.mp hP).1
      exact ⟨_, this.trans (by rw [(List.getElem?_eq_some_iff.mp hP).2])⟩
    obtain ⟨us, hus⟩ := hdrop
    rw [hus] at hv
    have hus' : its.drop (i + 1) = us := by rw [← List.drop_drop, hus]; rfl
    let ex3 := (I, oI) :: (C, oC) :: (D, LCg.lst ys) :: ex
    have nd3 : ((l ++ ex3).map (·.1)).Nodup := nd3_of nd off ne
    have N3 : News c.h₀ c.L h (l ++ ex3) := fun p hp => N p (perm3.mem_iff.mp hp)
    have S3 : St c [] h mp [] n ρ os ex3 := ⟨F, ⟨l, h1, N3, nd3⟩, ⟨fun i x p i1 => by cases i1⟩⟩
    have mC : (C, oC) ∈ l ++ ex3 := List.mem_append_right _ (.tail _ (.head _))
    have mc0 : (c0, o0) ∈ l ++ ex3 := List.mem_append_right _ (.tail _ (.tail _ (.tail _ hc0)))
    have kx : (compEnvC sc cl C c.env).kindOf xr = some .local := lookup_relabel_local hx
    obtain ⟨ot, od, fd, osl, hKE⟩ := hfE
    refine wpAny_Tuple (spliced_more (LCgL.ld_own (s := { s with heap := h, toks := tk }) N3 mC hC hmx ?_ hk kx dx) rfl)
    refine spliced_more (Call_ (LCgL.ld_global (s := { s with heap := h, toks := tk }) F c.X c.T hns ?_ rfl hk (hf C) df)) rfl
    refine callWith_def_at (h' := h) (F.keep _ _ (c.X _ _ hKE)) rfl ?_
    refine spliced_more (lcf_cell (s := { s with heap := h, toks := tk }) N3 hcl mc0 hd0 ?_ hk (hn C) dn) rfl
    refine spliced_more (LCgL.ld_own (s := { s with heap := h, toks := tk }) N3 mC hC hmx ?_ hk kx dx) rfl
    refine spliced_none ⟨F.keep _ _ (c.X _ _ hKE), ?_⟩
    refine hE c A hA mp ex3 { s with heap := h, toks := tk } n ρ os _ [pn, x] _ _ _ F S3.D ⟨hvn.ext e, hv.1, trivial⟩ hm fun z y h2 tk2 n2 ρ2 os2 k2 r2 F2 D2 e2 => ?_
    rw [forceN_eq] at k2
    have S4 : St c [] h2 mp [] n2 ρ2 os2 ex3 := ⟨F2, D2, ⟨fun i x p i1 => by cases i1⟩⟩
    obtain ⟨S5, e5, v5⟩ := S4.pushed (o := .tup [x, z]) (ob := { cls := .type "tuple", data := .seq [v, y].toArray }) rfl ⟨[v, y], 0, ⟨rfl, rfl⟩, hv.1.ext e2, r2, trivial⟩
    refine spliced_none ⟨by show 2 ≤ sizeLine; rw [sizeLine_eq]; decide, ?_⟩
    obtain ⟨l5, q1, q2, q3⟩ := S5.D.led
    obtain ⟨off5, nd5⟩ := off3_of q3
    refine ⟨_, tk2, l5 ++ ex, rfl, S5.F, fun p hp => q2 p (perm3.mem_iff.mpr hp), off5, .inr ⟨_, List.mem_append_right _ hsrc, rfl, _, rfl⟩, ?_⟩
    exact cp1_ok hA hE ⟨ot, od, fd, osl, hKE⟩ hc0 hd0 hsrc hvn hcl hx hk hn hf hns dx dn df hF xs (i + 1) (qs ++ [.ref n2]) (ys ++ [.ref h2.objs.size]) _ _ _ l5 k2 (by rw [hus']; exact (hv.2.ext e2).ext e5) (VRs.append (qs := [_]) (us := [_]) (And.intro v5 trivial) ((hq.ext e2).ext e5)) q1 nd5 ((e.trans e2).trans e5)

theorem cp2_ok {c : Cx G} {A : Around} {ex : List (Addr × Obj)} {l : List (Addr × Obj)} {os : Hp} {n : Nat} {ρ : Nat → Addr} (h1 : LL G.I n ρ os l) (nd : ((l ++ ex).map (·.1)).Nodup)
    {ax : Addr} {ep : Nat} {its : List Value} (hsrc : (ax, W.listOf (List.toArray its) ep) ∈ l ++ ex) {mp : Str → Option Value} {K : List V → Bool} {Fin : List Value → List (Addr × Obj) → Prop} {s : Shared}
    {xq : Str} {p15 p18 p19 p20 p21 p22 : Pos} {k1 k2 : Nat} {sc : Scope} {cl : List (Str × Addr)} (hx : sc.names.lookup xq = some .local) (hk : sc.kind = .function) (dx : (xq == ("__debug__" : Str)) = false)
    (hF : ∀ qs ys, K qs = true → VRs n ρ qs ys → Fin ys (l ++ ex)) :
    ∀ (xs : List V) (i : Nat) (qs : List V) (ys : List Value), cp2 os xs qs K = true → VRs n ρ xs (its.drop i) → VRs n ρ qs ys →
      LCt.CompRestT G.prog G.w A c.h₀ c.L mp c.env (.Compare (.Subscript (.Name xq p18) (.Constant (.int 1) k1 p19) p20) [.Gt] [.Constant (.int 0) k2 p21] p22) (.Name xq p15) xq sc cl s (LCg.SrcAt c.h₀ ax (List.toArray its)) (fun i v => (List.toArray its)[i]? = some v) Fin xs.length i ys (l ++ ex)
  | [], i, qs, ys, hm, hv, hq => LCt.CompRestT.zero (hF qs ys hm hq)
  | x :: xs, i, qs, ys, hm, hv, hq => by
    unfold cp2 at hm
    refine LCt.CompRestT.succ fun v I oI C oC D m₂ h tk E' hP hC hmx F N off ne => ?_
    have hdrop : ∃ us, its.drop i = v :: us := by
      have hP : its[i]? = some v := by simpa using hP
      have := List.drop_eq_getElem_cons (List.getElem?_eq_some_iff.mp hP).1
      exact ⟨_, this.trans (by rw [(List.getElem?_eq_some_iff.mp hP).2])⟩
    obtain ⟨us, hus⟩ := hdrop
    rw [hus] at hv
    have hus' : its.drop (i + 1) = us := by rw [← List.drop_drop, hus]; rfl
    let ex3 := (I, oI) :: (C, oC) :: (D, LCg.lst ys) :: ex
    have nd3 : ((l ++ ex3).map (·.1)).Nodup := nd3_of nd off ne
    have N3 : News c.h₀ c.L h (l ++ ex3) := fun p hp => N p (perm3.mem_iff.mp hp)
    have S3 : St c [] h mp [] n ρ os ex3 := ⟨F, ⟨l, h1, N3, nd3⟩, ⟨fun i x p i1 => by cases i1⟩⟩
    have mC : (C, oC) ∈ l ++ ex3 := List.mem_append_right _ (.tail _ (.head _))
    have kx : (compEnvC sc cl C c.env).kindOf xq = some .local := lookup_relabel_local hx
    have fin : ∀ (tk' : Nat) (y : Value) (rest : Value → List (Addr × Obj) → Prop), rest y (l ++ ex) → LCg.CompEnd c.h₀ c.L mp { s with heap := h, toks := tk } I oI C oC D (LCg.lst ys) (LCg.SrcAt c.h₀ ax (List.toArray its)) rest y { s with heap := h, toks := tk' } :=
      fun tk' y rest hr => ⟨h, tk', l ++ ex, rfl, F, N, off, .inr ⟨_, hsrc, rfl, _, rfl⟩, hr⟩
    refine wpAny_isTrue_Compare1 (Subscript_ (LCgL.ld_own (s := { s with heap := h, toks := tk }) N3 mC hC hmx ?_ hk kx dx)) (okGt.1 (.Constant (.int 0) k2 p21))
    refine wpAny_Constant_int ?_
    refine subK_step (s := { s with heap := h, toks := _ }) (q := .int 1) S3 hv.1 ⟨_, rfl⟩ hm (fun _ _ _ => rfl) fun z y k3 r3 => ?_
    obtain ⟨a, b, rfl, hb, k4⟩ := cmpK_ok k3
    cases hb
    obtain ⟨t, rfl⟩ := r3
    refine wpAny_Constant_int ?_
    refine okGt.2 a 0 _ _ _ _ _ _ _ _ (wpAny_truthy_bool ?_)
    cases hc : Z.ltB 0 a with
    | true =>
      rw [hc] at k4
      dsimp only
      rw [if_pos hc]
      refine LCgL.ld_own (s := { s with heap := h, toks := _ }) N3 mC hC hmx ?_ hk kx dx
      exact fin _ _ _ (cp2_ok h1 nd hsrc hx hk dx hF xs (i + 1) (qs ++ [x]) (ys ++ [v]) k4 (by rw [hus']; exact hv.2) (VRs.append (qs := [_]) (us := [_]) (And.intro hv.1 trivial) hq))
    | false =>
      rw [hc] at k4
      dsimp only
      rw [if_neg (by rw [hc]; decide)]
      exact fin _ _ _ (cp2_ok h1 nd hsrc hx hk dx hF xs (i + 1) qs ys k4 (by rw [hus']; exact hv.2) hq)
end
end Mine
end
-- part M15
section
namespace Mine
open PySem PySem.W PySem.Spec PySem.Calls PyProof.Rows

noncomputable def listJ (os : Hp) (p : V) (k : Nat → List V → Bool) : Bool := match p with
  | .ref j => lookK os j fun o => match o with
    | .list xs => k j xs
    | _ => false
  | _ => false
theorem listJ_ok {os : Hp} {p : V} {k : Nat → List V → Bool} (h : listJ os p k = true) : ∃ j xs, p = .ref j ∧ hLook os j = some (.list xs) ∧ k j xs = true := by
  unfold listJ at h
  cases p with
  | ref j =>
    dsimp only at h
    obtain ⟨o, h1, h2⟩ := lookK_ok h
    cases o with
    | list xs => exact ⟨j, xs, rfl, h1, h2⟩
    | _ => cases h2
  | _ => cases h

noncomputable def swM (cS cE cP : CM) : CM := fun ps n₀ os K => match ps with
  | [pn, pw, pm] => cS [pn] n₀ os fun l n os => listJ os l fun j xs => short xs (delK os j fun os => cp1 cE pn xs [] n os fun qs n os => short qs (forceN (n + 2) fun n' => cp2 ((n, .list qs) :: os) qs [] fun zs =>
      cP [.ref (n + 1), pw, pm] n' ((n + 1, .list zs) :: (n, .list qs) :: os) fun z n os => gc n₀ z os fun os => K z n os))
  | _ => false

structure SwText (G : Gd) (a : Addr) (cdv : Value) (name qual : Str) (params : Arguments) (body : List Stmt) (scope : Scope) (dV kV doc pm ct : Value) (an : Option Addr) (xn xw xm xp xr xq fS fE fP : Str) (sc1 sc2 : Scope) : Prop where
  hbody : ∃ (k7 k1 k0 : Nat) (p1 p2 p3 p4 p5 p6 p7 p8 p9 p10 p11 p12 p13 p14 p15 p16 p17 p18 p19 p20 p21 p22 p23 p24 p25 p26 p27 : Pos),
    body = [.Assign [.Name xp p1] (.ListComp (.Tuple [.Name xr p2, .Call (.Name fE p3) [.Name xn p4, .Name xr p5] [] p6] k7 p7) [⟨.Name xr p8, .Call (.Name fS p9) [.Name xn p10] [] p11, [], 0⟩] sc1 p12) p13,
      .Return (some (.Call (.Name fP p14) [.ListComp (.Name xq p15) [⟨.Name xq p16, .Name xp p17, [.Compare (.Subscript (.Name xq p18) (.Constant (.int 1) k1 p19) p20) [.Gt] [.Constant (.int 0) k0 p21] p22], 0⟩] sc2 p23, .Name xw p24, .Name xm p25] [] p26)) p27] ∧
    (∀ L', swapsWith (.ListComp (.Tuple [.Name xr p2, .Call (.Name fE p3) [.Name xn p4, .Name xr p5] [] p6] k7 p7) [⟨.Name xr p8, .Call (.Name fS p9) [.Name xn p10] [] p11, [], 0⟩] sc1 p12) (some (.Name xp p1)) p13.line (envX qual scope L' a cdv (cellsFrom (L' + 1) scope.names [])) = pure true) ∧
    (∀ env x, foldedSetIterable (.Call (.Name fS p9) [.Name xn p10] [] p11) env x = pure x) ∧ ∀ env x, foldedSetIterable (.Name xp p17) env x = pure x
  hcd : codeIn G.K cdv qual = true
  hb : ∀ v1 v2 v3, bindArgs (fnOf name qual params body scope dV kV doc pm an cdv ct) ⟨[v1, v2, v3], []⟩ = pure [(xn, v1), (xw, v2), (xm, v3)]
  hkind : ∀ v1 v2 v3 : Value, (([(xn, v1), (xw, v2), (xm, v3)] : List (Str × Value)).all fun y => scope.names.lookup y.1 == some .local || scope.names.lookup y.1 == some .cell) = true
  hnd : ((cellsFrom 0 scope.names []).map (·.1)).Nodup
  hcells : ∀ n, cellsFrom n scope.names [] = [(xn, n)]
  hbc : ∀ L' v1 v2 v3, bindC (envOfC qual scope L' a cdv).kindOf [(xn, v1), (xw, v2), (xm, v3)] (fun _ => none) xn = some v1
  hbl : ∀ L' v1 v2 v3, bindL (envOfC qual scope L' a cdv).kindOf [(xn, v1), (xw, v2), (xm, v3)] (fun _ => none) xw = some v2 ∧ bindL (envOfC qual scope L' a cdv).kindOf [(xn, v1), (xw, v2), (xm, v3)] (fun _ => none) xm = some v3
  hclos1 : ∀ L', closureFor sc1 (envX qual scope L' a cdv (cellsFrom (L' + 1) scope.names [])) = pure [(xn, L' + 1)]
  hclos2 : ∀ L', closureFor sc2 (envX qual scope L' a cdv (cellsFrom (L' + 1) scope.names [])) = pure []
  hc1 : ∀ y ∈ sc1.names, y.2 ≠ .cell
  hc2 : ∀ y ∈ sc2.names, y.2 ≠ .cell
  hk1 : sc1.kind = .function
  hk2 : sc2.kind = .function
  hn1 : ∀ y ∈ sc1.names, y.2 = .local → sc1.names.lookup y.1 = some .local
  hn2 : ∀ y ∈ sc2.names, y.2 = .local → sc2.names.lookup y.1 = some .local
  hx1 : sc1.names.lookup xr = some .local
  hx2 : sc2.names.lookup xq = some .local
  hrn : ∀ L' C, (compEnvC sc1 [(xn, L' + 1)] C (envX qual scope L' a cdv (cellsFrom (L' + 1) scope.names []))).kindOf xn = some .cell
  hrf : ∀ L' C, (compEnvC sc1 [(xn, L' + 1)] C (envX qual scope L' a cdv (cellsFrom (L' + 1) scope.names []))).kindOf fE = some .globalImplicit
  lw : scope.names.lookup xw = some .local
  lm : scope.names.lookup xm = some .local
  lp : scope.names.lookup xp = some .local
  ln : scope.names.lookup xn = some .cell
  gS : scope.names.lookup fS = some .globalImplicit
  gP : scope.names.lookup fP = some .globalImplicit
  nd : [xw, xm, xp].Nodup
  dd : (xn == ("__debug__" : Str)) = false ∧ (xw == ("__debug__" : Str)) = false ∧ (xm == ("__debug__" : Str)) = false ∧ (xp == ("__debug__" : Str)) = false ∧ (xr == ("__debug__" : Str)) = false ∧ (xq == ("__debug__" : Str)) = false ∧
    (fS == ("__debug__" : Str)) = false ∧ (fE == ("__debug__" : Str)) = false ∧ (fP == ("__debug__" : Str)) = false
  co : scope.isCoroutine = false
  gen : scope.isGenerator = false
  kind : scope.kind = .function

section
variable {G : Gd}
theorem simSw {a : Addr} {oc : Value} {od : Option Addr} {osl : Array (Option Value)} {name qual : Str} {params : Arguments} {body : List Stmt} {scope : Scope} {dV kV doc pm cdv ct : Value} {an : Option Addr} {xn xw xm xp xr xq fS fE fP : Str} {sc1 sc2 : Scope} {r : Nat}
    (ho : G.K.lookup a = some ⟨oc, od, .func (fnOf name qual params body scope dV kV doc pm an cdv ct), osl⟩) (T : SwText G a cdv name qual params body scope dV kV doc pm ct an xn xw xm xp xr xq fS fE fP sc1 sc2)
    {aS aE aP : Addr} {cS cE cP : CM} (nS : nsIn G.K mainGlobals fS = some (some (.ref aS))) (nE : nsIn G.K mainGlobals fE = some (some (.ref aE))) (nP : nsIn G.K mainGlobals fP = some (some (.ref aP)))
    (iS : IsFun G aS) (iE : IsFun G aE) (iP : IsFun G aP) (hS : SimC G r aS cS) (hE : SimC G r aE cE) (hP : SimC G r aP cP) : SimC G (r + 1) a (swM cS cE cP) := by
  intro c A hA mp ex s n ρ os vs ps K Q E F D hr hm hQ
  have hshape : ∃ pn pw pm v1 v2 v3, ps = [pn, pw, pm] ∧ vs = [v1, v2, v3] ∧ VR n ρ pn v1 ∧ VR n ρ pw v2 ∧ VR n ρ pm v3 := by
    match ps, vs, hr, hm with
    | [p1, p2, p3], [v1, v2, v3], hr, _ => exact ⟨p1, p2, p3, v1, v2, v3, rfl, rfl, hr.1, hr.2.1, hr.2.2.1⟩
  obtain ⟨qn, qw, qm, v1, v2, v3, rfl, rfl, r1, r2, r3⟩ := hshape
  unfold swM at hm
  dsimp only at hm
  obtain ⟨l, h1, N, nd3⟩ := D.led
  obtain ⟨k7, k1, k0, p1, p2, p3, p4, p5, p6, p7, p8, p9, p10, p11, p12, p13, p14, p15, p16, p17, p18, p19, p20, p21, p22, p23, p24, p25, p26, p27, hbody, hsw, hfs1, hfs2⟩ := T.hbody
  obtain ⟨dn, dw, dm, dp, dr, dq, dS, dE, dP⟩ := T.dd
  refine wpAny_call ?_
  refine code_defC c.B F c.X N c.T hA.fr rfl c.hk ho T.hcd (by have := hA.dp; omega) (BindsTo.of_eq (T.hb v1 v2 v3)) (T.hkind v1 v2 v3) T.hnd (fun g L' h₁ tk cells FG F' N' Y B' X' T' hlt => ?_) T.co T.gen T.kind
  rw [T.hcells] at Y
  have b1 := T.hbc L' v1 v2 v3
  obtain ⟨bw, bm⟩ := T.hbl L' v1 v2 v3
  cases Y with
  | cons y1 Y =>
  cases Y
  rename_i o1
  rw [b1] at y1
  let c' : Cx G := ⟨qual, scope, L', a, cdv, cellsFrom (L' + 1) scope.names [], c.env :: c.outer, A, c.base, g, B', X', T', T.kind⟩
  have hA' : AOk c' r (A.deeper c'.env) := ⟨by show A.frames.map _ = _; rw [hA.fr]; rfl, by show A.depth + 1 + r < _; have := hA.dp; omega, by show A.units + 3 + 10 * r + 100 < _; have := hA.un; omega, hA.hd⟩
  have hcl' : c'.cl = [(xn, L' + 1)] := T.hcells (L' + 1)
  have hcl1 : c'.cl.lookup xn = some (L' + 1) := by rw [hcl']; simp
  let ex1 : List (Addr × Obj) := (L' + 1, o1) :: ex
  have hx : ∀ p ∈ (l ++ ex).map (·.1), p < L' := fun p hp => by
    obtain ⟨q, hq, e⟩ := List.mem_map.mp hp
    rw [← e]; exact hlt q hq
  have nd4 : ((l ++ ex1).map (·.1)).Nodup := by
    refine ((List.perm_middle (l₁ := l) (a := (L' + 1, o1)) (l₂ := ex)).map (·.1)).nodup_iff.mpr ?_
    exact nd_one (f := L' + 1) (fun x hx' => Nat.lt_succ_of_lt (hx x hx')) nd3
  have N4 : News g L' h₁ (l ++ ex1) := fun p hp => N' p ((List.perm_middle (l₁ := l) (a := (L' + 1, o1)) (l₂ := ex)).mem_iff.mp hp)
  have lr : LocR n ρ (bindL (envOfC qual scope L' a cdv).kindOf [(xn, v1), (xw, v2), (xm, v3)] fun _ => none) [xw, xm, xp] [qw, qm, .unb] := ⟨fun i x p i1 i2 => by
    match i, i1, i2 with
    | 0, i1, i2 => cases i1; cases i2; exact .inr ⟨_, bw, r2⟩
    | 1, i1, i2 => cases i1; cases i2; exact .inr ⟨_, bm, r3⟩
    | 2, i1, i2 => cases i1; cases i2; exact .inl rfl
    | i + 3, i1, i2 => cases i1⟩
  have S1 : St c' [xw, xm, xp] h₁ _ [qw, qm, .unb] n ρ os ex1 := ⟨F', ⟨l, h1, N4, nd4⟩, lr⟩
  rw [hbody]
  show wpAny _ _ (execs _ c'.env) _ _ _
  obtain ⟨t1, u1, f1, w1, hKS⟩ := iS
  obtain ⟨t3, u3, f3, w3, hKP⟩ := iP
  refine wpAny_execs_cons (LCg.Assign_ListComp_U (F₀ := F') rfl (hsw L') (T.hclos1 L') T.hc1 T.hk1 T.hn1 T.hx1 T.lp (by show (scope.kind == .class || (scope.kind == .module && _)) = false; rw [T.kind]; rfl) ?_ (hfs1 _))
  refine Call_ (nameX_K F' c'.X (topRead_of c'.T) nS ?_ T.kind T.gS dS)
  refine callWith_def_at (h' := h₁) (F'.keep _ _ (c'.X _ _ hKS)) rfl ?_
  refine spliced_more (nameX_C N4 hcl1 (List.mem_append_right _ (.head _)) y1 ?_ T.kind T.ln dn) rfl
  refine spliced_none ⟨F'.keep _ _ (c'.X _ _ hKS), ?_⟩
  refine hS c' _ hA' _ ex1 _ n ρ os _ [qn] _ _ _ F' S1.D ⟨r1, trivial⟩ hm fun z y h2 tk2 n2 ρ2 os2 k2 rz F2 D2 e2 => ?_
  obtain ⟨j, xs, rfl, hj, k3⟩ := listJ_ok k2
  obtain ⟨_, rfl⟩ := rz
  obtain ⟨q1, k4⟩ := short_ok k3
  obtain ⟨os3, ob, k5, ⟨its, ep, rfl, hits⟩, D3⟩ := D2.toEx hj k4
  obtain ⟨l3, w1', w2', w3'⟩ := D3.led
  have hszi : (List.toArray its).size ≤ sizeLine := by rw [List.size_toArray]; exact short_line hits q1
  refine LCg.CompSrc.ledger hA'.hd F2 w2' (List.mem_append_right _ (.head _)) hszi fun g2 => ?_
  have hlen : (List.toArray its).size = xs.length := by rw [List.size_toArray, hits.length]
  rw [hlen]
  refine cp1_ok (c := c') hA' hE iE (c0 := L' + 1) (o0 := o1) (ex := (ρ2 j, W.listOf (List.toArray its) ep) :: ex1) (.tail _ (.head _)) y1 (ax := ρ2 j) (ep := ep) (its := its) (.head _) (n0 := n2) (ρ0 := ρ2) (pn := qn) (r1.ext e2) (by simp) T.hx1 T.hk1 (T.hrn L') (T.hrf L') nE dr dn dE
    (fun qs ys n3 ρ3 os4 l4 k6 hqs h4 nd5 e3 => ?_) xs 0 [] [] n2 ρ2 os3 l3 k5 (by simpa using hits) trivial w1' w3' .refl
  intro D4 h3 tk3 F3 N5 off1
  obtain ⟨q2, k7'⟩ := short_ok k6
  rw [forceN_eq] at k7'
  have LL5 : LL G.I (n3 + 1) (upd ρ3 n3 D4) ((n3, .list qs) :: os4) ((D4, LCg.lst ys) :: l4) := h4.one ⟨ys, ys.length, rfl, hqs.ext upd_ext⟩
  have e5 : Ext n ρ (n3 + 1) (upd ρ3 n3 D4) := e2.trans (e3.trans upd_ext)
  have sub5 : List.Sublist ((D4, LCg.lst ys) :: (l4 ++ ex1)) ((D4, LCg.lst ys) :: (l4 ++ (ρ2 j, W.listOf (List.toArray its) ep) :: ex1)) := ((List.Sublist.refl l4).append ((List.Sublist.refl ex1).cons _)).cons_cons _
  have nd6 : ((((D4, LCg.lst ys) :: l4) ++ ex1).map (·.1)).Nodup := (sub5.map (·.1)).nodup (nd1_of nd5 off1)
  have N6 : News g L' h3 (((D4, LCg.lst ys) :: l4) ++ ex1) := fun p hp => N5 p (sub5.subset hp)
  have nd0 := T.nd
  simp only [List.nodup_cons, List.mem_cons, List.not_mem_nil, or_false, not_or] at nd0
  have lr5 : LocR (n3 + 1) (upd ρ3 n3 D4) (fun z => if z = xp then some (.ref D4) else bindL (envOfC qual scope L' a cdv).kindOf [(xn, v1), (xw, v2), (xm, v3)] (fun _ => none) z) [xw, xm, xp] [qw, qm, .ref n3] := ⟨fun i x p i1 i2 => by
    match i, i1, i2 with
    | 0, i1, i2 => cases i1; cases i2; exact .inr ⟨_, (if_neg nd0.1.2).trans bw, r2.ext e5⟩
    | 1, i1, i2 => cases i1; cases i2; exact .inr ⟨_, (if_neg nd0.2.1).trans bm, r3.ext e5⟩
    | 2, i1, i2 => cases i1; cases i2; exact .inr ⟨_, if_pos rfl, Nat.lt_succ_self _, by rw [upd_self]⟩
    | i + 3, i1, i2 => cases i1⟩
  refine wpAny_execs_cons (wpAny_Return_some (Call_ (nameX_K F3 c'.X (topRead_of c'.T) nP ?_ T.kind T.gP dP)))
  refine callWith_def_at (h' := h3) (F3.keep _ _ (c'.X _ _ hKP)) rfl ?_
  refine spliced_more (LCt.ListComp_T (F₀ := F3) (T.hclos2 L') T.hc2 T.hk2 T.hn2 T.hx2 ?_ (hfs2 _)) rfl
  refine nameX_L (x := xp) (v := .ref D4) F3 (if_pos rfl) ?_ T.kind T.lp dp
  have hszq : (List.toArray ys).size ≤ sizeLine := by rw [List.size_toArray]; exact short_line hqs q2
  refine LCt.CompSrcT.ledger hA'.hd F3 N6 (.head _) hszq fun g3 => ?_
  have hlenq : (List.toArray ys).size = qs.length := by rw [List.size_toArray, hqs.length]
  rw [hlenq]
  refine cp2_ok (c := c') LL5 nd6 (ax := D4) (ep := ys.length) (its := ys) (.head _) T.hx2 T.hk2 dq (fun zs us k8 hzs => ?_) qs 0 [] [] k7' (by simpa using hqs.ext upd_ext) trivial
  intro D5 h4 tk4 F4 N7 off2
  have LL6 : LL G.I (n3 + 2) (upd (upd ρ3 n3 D4) (n3 + 1) D5) ((n3 + 1, .list zs) :: (n3, .list qs) :: os4) ((D5, LCg.lst us) :: (D4, LCg.lst ys) :: l4) := LL5.one ⟨us, us.length, rfl, hzs.ext upd_ext⟩
  have e6 : Ext n ρ (n3 + 2) (upd (upd ρ3 n3 D4) (n3 + 1) D5) := e5.trans upd_ext
  have nd7 : ((((D5, LCg.lst us) :: (D4, LCg.lst ys) :: l4) ++ ex1).map (·.1)).Nodup := nd1_of nd6 off2
  refine spliced_more (nameX_L (x := xw) (v := v2) F4 ((if_neg nd0.1.2).trans bw) ?_ T.kind T.lw dw) rfl
  refine spliced_more (nameX_L (x := xm) (v := v3) F4 ((if_neg nd0.2.1).trans bm) ?_ T.kind T.lm dm) rfl
  refine spliced_none ⟨F4.keep _ _ (c'.X _ _ hKP), ?_⟩
  refine hP c' _ hA' _ ex1 { s with heap := h4, toks := tk4 } (n3 + 2) _ _ _ [.ref (n3 + 1), qw, qm] _ _ _ F4 ⟨_, LL6, N7, nd7⟩ ⟨⟨Nat.lt_succ_self _, by rw [upd_self]⟩, r2.ext e6, r3.ext e6, trivial⟩ k8 fun z y h9 tk9 n9 ρ9 os9 k9 r9 F9 D9 e9 => ?_
  obtain ⟨os'', hs, k10⟩ := gc_ok k9
  obtain ⟨l', w4, w5, w6⟩ := D9.dropEx.led
  refine leaveK_ F9 w5 fun Fb Nb => ?_
  exact hQ z y h9 _ n9 ρ9 os'' k10 r9 Fb (Led.sublist hs ⟨l', w4, Nb, w6⟩) (e6.trans e9)
end
end Mine
end
-- part M16
section
namespace Mine
open PySem PySem.W PySem.Spec PySem.Calls PyProof.Rows

/-! a frame's names, looked up once -/
structure NmOk (cs : Scope) (nm gl : List Str) : Prop where
  loc : ∀ {i : Nat} {x : Str}, nm[i]? = some x → cs.names.lookup x = some .local ∧ (x == ("__debug__" : Str)) = false
  nd : nm.Nodup
  gl : ∀ {i : Nat} {x : Str}, gl[i]? = some x → cs.names.lookup x = some .globalImplicit ∧ (x == ("__debug__" : Str)) = false
noncomputable def isLoc (k : Option NameKind) : Bool := match k with
  | some .local => true
  | _ => false
noncomputable def isGlb (k : Option NameKind) : Bool := match k with
  | some .globalImplicit => true
  | _ => false
noncomputable def memS : Str → List Str → Bool
  | _, [] => false
  | x, y :: r => x == y || memS x r
noncomputable def ndS : List Str → Bool
  | [] => true
  | x :: r => !(memS x r) && ndS r
noncomputable def nmOkB (cs : Scope) (nm gl : List Str) : Bool := nm.all (fun x => isLoc (cs.names.lookup x) && !(x == ("__debug__" : Str))) && ndS nm && gl.all (fun x => isGlb (cs.names.lookup x) && !(x == ("__debug__" : Str)))
theorem memS_ok : ∀ {x : Str} {l : List Str}, x ∈ l → memS x l = true
  | x, y :: r, h => by
    unfold memS
    rcases List.mem_cons.mp h with rfl | h
    · simp
    · rw [memS_ok h]; simp
theorem ndS_ok : ∀ {l : List Str}, ndS l = true → l.Nodup
  | [], _ => List.nodup_nil
  | x :: r, h => by
    unfold ndS at h
    rw [Bool.and_eq_true] at h
    refine List.nodup_cons.mpr ⟨fun q => ?_, ndS_ok h.2⟩
    rw [memS_ok q] at h
    cases h.1
theorem NmOk.of {cs : Scope} {nm gl : List Str} (h : nmOkB cs nm gl = true) : NmOk cs nm gl := by
  unfold nmOkB at h
  rw [Bool.and_eq_true, Bool.and_eq_true] at h
  refine ⟨fun {i x} e => ?_, ndS_ok h.1.2, fun {i x} e => ?_⟩
  · have := List.all_eq_true.mp h.1.1 x (List.mem_of_getElem? e)
    rw [Bool.and_eq_true] at this
    refine ⟨?_, by simpa using this.2⟩
    unfold isLoc at this
    split at this
    · assumption
    · cases this.1
  · have := List.all_eq_true.mp h.2 x (List.mem_of_getElem? e)
    rw [Bool.and_eq_true] at this
    refine ⟨?_, by simpa using this.2⟩
    unfold isGlb at this
    split at this
    · assumption
    · cases this.1

/-- a built-in's name -/
structure Boot (G : Gd) (x : Str) (v : Value) : Prop where
  n : nsIn G.K mainGlobals x = some none
  b : bootBuiltins x = some v
  m : x ≠ "__name__"

section
variable {G : Gd} {cs : Scope} {nm gl : List Str} {r : Nat}
theorem NmOk.boot (N : NmOk cs nm gl) {x : Str} {v : Value} (B : Boot G x v) (j : Nat) (hj : gl[j]? = some x) : IsBoot G cs x v := ⟨B.n, B.b, B.m, (N.gl hj).1, (N.gl hj).2⟩
theorem wLoc (N : NmOk cs nm gl) (i : Nat) {x : Str} {pos : Pos} (hi : nm[i]? = some x) : SimE G cs nm r (.Name x pos) (eLoc i) := simLoc hi (N.loc hi).1 (N.loc hi).2
theorem wGlob (N : NmOk cs nm gl) (j : Nat) {x : Str} {pos : Pos} {a : Addr} (e : nsIn G.K mainGlobals x = some (some (.ref a))) (hj : gl[j]? = some x) : SimE G cs nm r (.Name x pos) (eGlob a) := simGlob e (N.gl hj).1 (N.gl hj).2
theorem wAsg (N : NmOk cs nm gl) (i : Nat) {x : Str} {pos' pos : Pos} {e : Expr} {m : EM} (hi : nm[i]? = some x) (hs : ∀ env, swapsWith e (some (.Name x pos')) pos.line env = pure false) (h : SimE G cs nm r e m) : SimS G cs nm r (.Assign [.Name x pos'] e pos) (sAsg i m) :=
  simAsg hi N.nd (N.loc hi).1 hs h
theorem wAug (N : NmOk cs nm gl) (i : Nat) {x : Str} {pos' pos : Pos} {e : Expr} {m : EM} {o : Operator} {op : Int → Int → Option Int} (hop : IOpOk o op) (hi : nm[i]? = some x) (h : SimE G cs nm r e m) : SimS G cs nm r (.AugAssign (.Name x pos') o e pos) (sAug i op m) :=
  simAug hop hi N.nd (N.loc hi).1 h
theorem wForR (N : NmOk cs nm gl) (i : Nat) {x : Str} {px pos : Pos} {iter : Expr} {body : List Stmt} {rm : RM} {m : SM} (hi : nm[i]? = some x) (hs : ∀ env v, foldedSetIterable iter env v = pure v) (hr : SimR G cs nm r iter rm) (h : SimSs G cs nm r body m) :
    SimS G cs nm r (.For (.Name x px) iter body [] pos) (sForR i rm m) := simForR hi N.nd (N.loc hi).1 hs hr h
theorem wForL (N : NmOk cs nm gl) (fuel i : Nat) {x : Str} {px pos : Pos} {iter : Expr} {body : List Stmt} {m : EM} {b : SM} (hi : nm[i]? = some x) (hs : ∀ env v, foldedSetIterable iter env v = pure v) (hm' : SimE G cs nm r iter m) (h : SimSs G cs nm r body b) :
    SimS G cs nm r (.For (.Name x px) iter body [] pos) (sForL i fuel m b) := simForL fuel hi N.nd (N.loc hi).1 hs hm' h
theorem wForE (N : NmOk cs nm gl) (fuel i j g : Nat) {xi xv : Str} {px pv pos np cp tp : Pos} {x1} {e : Expr} {body : List Stmt} {m : EM} {b : SM} (B : Boot G (Str.ofString "enumerate") (.type "enumerate")) (hg : gl[g]? = some (Str.ofString "enumerate")) (he : AllPlain [e])
    (hi : nm[i]? = some xi) (hj : nm[j]? = some xv) (hs : ∀ env v, foldedSetIterable (.Call (.Name (Str.ofString "enumerate") np) [e] [] cp) env v = pure v) (hm' : SimE G cs nm r e m) (h : SimSs G cs nm r body b) :
    SimS G cs nm r (.For (.Tuple [.Name xi px, .Name xv pv] x1 tp) (.Call (.Name (Str.ofString "enumerate") np) [e] [] cp) body [] pos) (sForE i j fuel m b) :=
  simForE fuel (N.boot B g hg) he hi hj N.nd (N.loc hi).1 (N.loc hj).1 hs hm' h
theorem wTup2 (N : NmOk cs nm gl) (i j : Nat) {x y : Str} {p q tpos pos : Pos} {k : Nat} {e : Expr} {m : EM} (hi : nm[i]? = some x) (hj : nm[j]? = some y)
    (hs : ∀ env, swapsWithSole [.Tuple [.Name x p, .Name y q] k tpos] e pos.line env = pure false) (hw : ∀ env, swappedStores [.Tuple [.Name x p, .Name y q] k tpos] e env = pure none) (h : SimE G cs nm r e m) :
    SimS G cs nm r (.Assign [.Tuple [.Name x p, .Name y q] k tpos] e pos) (sTup [i, j] m) := simTupA (target2 ⟨hi, (N.loc hi).1⟩ ⟨hj, (N.loc hj).1⟩) N.nd hs hw h
theorem wTup3 (N : NmOk cs nm gl) (i j l : Nat) {x y z : Str} {p q o tpos pos : Pos} {k : Nat} {e : Expr} {m : EM} (hi : nm[i]? = some x) (hj : nm[j]? = some y) (hl : nm[l]? = some z)
    (hs : ∀ env, swapsWithSole [.Tuple [.Name x p, .Name y q, .Name z o] k tpos] e pos.line env = pure false) (hw : ∀ env, swappedStores [.Tuple [.Name x p, .Name y q, .Name z o] k tpos] e env = pure none) (h : SimE G cs nm r e m) :
    SimS G cs nm r (.Assign [.Tuple [.Name x p, .Name y q, .Name z o] k tpos] e pos) (sTup [i, j, l] m) := simTupA (target3 ⟨hi, (N.loc hi).1⟩ ⟨hj, (N.loc hj).1⟩ ⟨hl, (N.loc hl).1⟩) N.nd hs hw h
noncomputable def sTupS (is : List Nat) (m : EM) : SM := fun loc n os K => m loc n os fun p n os => tupK os p fun ps => setVs is ps.reverse loc fun loc => K .nxt loc n os
theorem wTupS2 (N : NmOk cs nm gl) (i j : Nat) {x y : Str} {p q tpos pos : Pos} {k : Nat} {e : Expr} {m : EM} (hi : nm[i]? = some x) (hj : nm[j]? = some y)
    (hs : ∀ env, swapsWithSole [.Tuple [.Name x p, .Name y q] k tpos] e pos.line env = pure false) (hw : ∀ c : Cx G, c.cs = cs → swappedStores [.Tuple [.Name x p, .Name y q] k tpos] e c.env = pure (some [x, y])) (h : SimE G cs nm r e m) :
    SimS G cs nm r (.Assign [.Tuple [.Name x p, .Name y q] k tpos] e pos) (sTupS [j, i] m) :=
  simTupS (is := [i, j]) (xs := [x, y]) N.nd ⟨⟨hj, (N.loc hj).1⟩, ⟨hi, (N.loc hi).1⟩, trivial⟩ rfl hs hw h
theorem wTupS3 (N : NmOk cs nm gl) (i j l : Nat) {x y z : Str} {p q o tpos pos : Pos} {k : Nat} {e : Expr} {m : EM} (hi : nm[i]? = some x) (hj : nm[j]? = some y) (hl : nm[l]? = some z)
    (hs : ∀ env, swapsWithSole [.Tuple [.Name x p, .Name y q, .Name z o] k tpos] e pos.line env = pure false) (hw : ∀ c : Cx G, c.cs = cs → swappedStores [.Tuple [.Name x p, .Name y q, .Name z o] k tpos] e c.env = pure (some [x, y, z])) (h : SimE G cs nm r e m) :
    SimS G cs nm r (.Assign [.Tuple [.Name x p, .Name y q, .Name z o] k tpos] e pos) (sTupS [l, j, i] m) :=
  simTupS (is := [i, j, l]) (xs := [x, y, z]) N.nd ⟨⟨hl, (N.loc hl).1⟩, ⟨hj, (N.loc hj).1⟩, ⟨hi, (N.loc hi).1⟩, trivial⟩ rfl hs hw h
theorem wCall (N : NmOk cs nm gl) (j : Nat) {x : Str} {np pos : Pos} {a : Addr} {r' : Nat} {cm : CM} {e : Expr} {es : List Expr} {ms : ES} (hn : nsIn G.K mainGlobals x = some (some (.ref a))) (hj : gl[j]? = some x) (hf : IsFun G a) (hC : SimC G r' a cm) (hr : r' ≤ r) (hp : AllPlain (e :: es))
    (hs : SimEs G cs nm r (e :: es) ms) : SimE G cs nm r (.Call (.Name x np) (e :: es) [] pos) (eCall cm ms) := simCall hn (N.gl hj).1 (N.gl hj).2 hf hC hr hp hs
theorem wCallV (N : NmOk cs nm gl) (i : Nat) {x : Str} {np pos : Pos} {a : Addr} {r' : Nat} {cm : CM} {e : Expr} {es : List Expr} {ms : ES} (hi : nm[i]? = some x) (hf : IsFun G a) (hC : SimC G r' a cm) (hr : r' ≤ r) (hp : AllPlain (e :: es))
    (hs : SimEs G cs nm r (e :: es) ms) : SimE G cs nm r (.Call (.Name x np) (e :: es) [] pos) (eCallV i a cm ms) := simCallV hi (N.loc hi).1 (N.loc hi).2 hf hC hr hp hs

theorem SimV.le {r r' : Nat} {m : Nat → CM} (h : SimV G r m) (e : r ≤ r') : SimV G r' m := fun c A hA => h c A (hA.le e)
/-- the callee is a local's value: a closure -/
noncomputable def eCallJ (i : Nat) (m : Nat → CM) (ms : ES) : EM := fun loc n os K => getV loc i fun p => match p with
  | .ref j => lookK os j fun o => match o with
    | .clo _ _ => ms loc n os fun ps n os => m j ps n os K
    | _ => false
  | _ => false
theorem wCallJ (N : NmOk cs nm gl) (i : Nat) {x : Str} {np pos : Pos} {r' : Nat} {m : Nat → CM} {e : Expr} {es : List Expr} {ms : ES} (hi : nm[i]? = some x) (hC : SimV G r' m) (hm0 : ∀ j ps n os K, m j ps n os K = true → ∃ c cs, hLook os j = some (.clo c cs)) (hr : r' ≤ r) (hp : AllPlain (e :: es))
    (hs : SimEs G cs nm r (e :: es) ms) : SimE G cs nm r (.Call (.Name x np) (e :: es) [] pos) (eCallJ i m ms) := by
  intro c hc A hA mp loc ex s n ρ os K Q E S hm hQ
  obtain ⟨p, h1, h2⟩ := getV_ok hm
  cases p with
  | ref j =>
    dsimp only at h2
    obtain ⟨o, hj, h2⟩ := lookK_ok h2
    cases o with
    | clo cd cs' =>
      dsimp only at h2
      obtain ⟨ob, hg, ⟨_, _, doc, pm, ctv, rfl⟩, hjn, _, _⟩ := S.D.at hj
      rcases S.l.at' i x _ hi h1 with h0 | ⟨v, hv, hvr⟩
      · cases h0
      · obtain ⟨_, rfl⟩ := hvr
        subst hc
        refine Call_ (nameX_L S.F hv ?_ c.hk (N.loc hi).1 (N.loc hi).2)
        refine callWith_F (q := ρ j) ⟨_, _, _, _, hg⟩ ?_ (hp.1 _) (hp.2.any _ _)
        refine hs c rfl A hA pos mp loc ex s n ρ os _ _ E S h2 fun ps vs h' tk n' ρ' os' k1 r1 S1 e1 => ?_
        have hj' : ρ' j = ρ j := e1.eq j hjn
        obtain ⟨cc, ccs, hj1⟩ := hm0 j ps n' os' K k1
        obtain ⟨ob', hg', ⟨_, _, doc', pm', ctv', rfl⟩, _⟩ := S1.D.at hj1
        refine ⟨⟨_, _, _, _, hj' ▸ hg'⟩, ?_⟩
        rw [← hj']
        exact (hC.le hr) c A hA mp ex { s with heap := h', toks := tk } n' ρ' os' vs ps j K Q E S1.F S1.D r1 k1 fun p v h'' tk' n'' ρ'' os'' k2 r2 F2 D2 e2 => hQ p v h'' tk' n'' ρ'' os'' k2 r2 ⟨F2, D2, S1.l.ext e2⟩ (e1.trans e2)
    | _ => cases h2
  | _ => cases h2
theorem cloM_look {aD aM : Nat} {cmD cmM : CM} : ∀ j ps n os K, cloM aD aM cmD cmM j ps n os K = true → ∃ c cs, hLook os j = some (.clo c cs) := by
  intro j ps n os K h
  match ps, h with
  | [p, q], h =>
    unfold cloM at h
    dsimp only at h
    obtain ⟨o, hj, h⟩ := lookK_ok h
    cases o with
    | clo cd cs => exact ⟨cd, cs, hj⟩
    | _ => cases h

noncomputable def tNone (m : EM) : BM := fun loc n os K => m loc n os fun p n os => isNoneK p fun b => K b n os
theorem wNone {e₁ : Expr} {pos pos' : Pos} {k : Nat} {m₁ : EM} (h₁ : SimE G cs nm r e₁ m₁) : SimT G cs nm r (.Compare e₁ [.Is] [.Constant .none k pos'] pos) (tNone m₁) := simTIsNone h₁
noncomputable def tOrNil : BM := fun _ n os K => K false n os
noncomputable def tOr (m₁ m₂ : BM) : BM := fun loc n os K => m₁ loc n os fun b n os => match b with
  | true => K true n os
  | false => m₂ loc n os K
theorem simTOrNil {pos : Pos} : SimT G cs nm r (.BoolOp .Or [] pos) tOrNil := fun c hc A hA mp loc ex s n ρ os K Q E S hm hQ =>
  isTrue_or_nil (hQ false _ s.heap s.toks n ρ os hm rfl S .refl)
theorem simTOr {e : Expr} {es : List Expr} {pos : Pos} {m₁ m₂ : BM} (h₁ : SimT G cs nm r e m₁) (h₂ : SimT G cs nm r (.BoolOp .Or es pos) m₂) : SimT G cs nm r (.BoolOp .Or (e :: es) pos) (tOr m₁ m₂) := by
  intro c hc A hA mp loc ex s n ρ os K Q E S hm hQ
  refine isTrue_or (h₁ c hc A hA mp loc ex s n ρ os _ _ E S hm fun p v h' tk n' ρ' os' k1 r1 S1 e1 => ?_)
  cases r1
  cases p with
  | false => exact h₂ c hc A hA mp loc ex _ n' ρ' os' K Q E S1 k1 fun q u h'' tk' n'' ρ'' os'' k2 r2 S2 e2 => hQ q u h'' tk' n'' ρ'' os'' k2 r2 S2 (e1.trans e2)
  | true => exact hQ true _ h' tk n' ρ' os' k1 rfl S1 e1
theorem notInter (c : Cx G) : interactive c.env = false := by
  show (c.cs.kind == .module && _) = false
  rw [c.hk]; rfl
noncomputable def ssNever : SM := fun _ _ _ _ => false
theorem simSsNever {sts : List Stmt} : SimSs G cs nm r sts ssNever := fun c hc A hA ex s mp loc n ρ os K Q E S hm hQ => by cases hm
noncomputable def cNever : CM := fun _ _ _ _ => false
theorem simCNever {a : Addr} : SimC G r a cNever := fun c A hA mp ex s n ρ os vs ps K Q E F D hr hm hQ => by cases hm
theorem pre_of {pn nm : List Str} (rest : List Str) (e : nm = pn ++ rest) : ∀ (i : Nat) (x : Str), i < pn.length → nm[i]? = some x → pn[i]? = some x := fun i x hi h => by
  rw [e, List.getElem?_append_left hi] at h; exact h
theorem unb_of {k : Nat} : ∀ q ∈ List.replicate k V.unb, q = V.unb := fun q hq => List.eq_of_mem_replicate hq

noncomputable def noCellB (cs : Scope) : Bool := cs.names.all fun x => match x.2 with
  | .cell => false
  | _ => true
theorem noCell {cs : Scope} (h : noCellB cs = true) : ∀ x ∈ cs.names, x.2 ≠ .cell := fun x hx e => by
  have := List.all_eq_true.mp h x hx
  rw [e] at this
  cases this
theorem NmOk.pn (N : NmOk cs nm gl) {pn rest : List Str} (e : nm = pn ++ rest) : (∀ x ∈ pn, cs.names.lookup x = some .local) ∧ pn.Nodup := by
  subst e
  refine ⟨fun x hx => ?_, ((List.nodup_append).mp N.nd).1⟩
  obtain ⟨i, hi⟩ := List.mem_iff_getElem?.mp hx
  refine (N.loc (i := i) (x := x) ?_).1
  rw [List.getElem?_append_left (List.getElem?_eq_some_iff.mp hi).1]; exact hi

/-- a def by its text -/
theorem wDef {a : Addr} {oc : Value} {od : Option Addr} {name qual : Str} {params : Arguments} {body : List Stmt} {scope : Scope} {dV kV doc pm cdv ct : Value} {an : Option Addr} {osl : Array (Option Value)} {m : SM} (pn rest gl : List Str)
    (ho : G.K.lookup a = some ⟨oc, od, .func (fnOf name qual params body scope dV kV doc pm an cdv ct), osl⟩) (hcd : codeIn G.K cdv qual = true)
    (hb : ∀ vs : List Value, vs.length = pn.length → bindArgs (fnOf name qual params body scope dV kV doc pm an cdv ct) ⟨vs, []⟩ = pure (pn.zip vs))
    (hN : nmOkB scope (pn ++ rest) gl = true) (hc : (noCellB scope && (!scope.isCoroutine && !scope.isGenerator)) = true) (hk : scope.kind = .function)
    (hm : NmOk scope (pn ++ rest) gl → SimSs G scope (pn ++ rest) r body m) : SimC G (r + 1) a (defM pn.length (List.replicate rest.length .unb) m) := by
  have N := NmOk.of hN
  rw [Bool.and_eq_true, Bool.and_eq_true] at hc
  exact simDef ho hcd hb (N.pn rfl).1 (N.pn rfl).2 (pre_of rest rfl) unb_of (by simpa using hc.2.1) (by simpa using hc.2.2) hk (noCell hc.1) (hm N)
theorem fun_of {a : Addr} {oc : Value} {od : Option Addr} {fd : FuncData} {osl : Array (Option Value)} (ho : G.K.lookup a = some ⟨oc, od, .func fd, osl⟩) : IsFun G a := ⟨oc, od, fd, osl, ho⟩
end

theorem len1 {vs : List Value} (h : vs.length = 1) : ∃ a, vs = [a] := by match vs, h with | [a], _ => exact ⟨a, rfl⟩
theorem len2 {vs : List Value} (h : vs.length = 2) : ∃ a b, vs = [a, b] := by match vs, h with | [a, b], _ => exact ⟨a, b, rfl⟩
theorem len3 {vs : List Value} (h : vs.length = 3) : ∃ a b c, vs = [a, b, c] := by match vs, h with | [a, b, c], _ => exact ⟨a, b, c, rfl⟩
theorem len4 {vs : List Value} (h : vs.length = 4) : ∃ a b c d, vs = [a, b, c, d] := by match vs, h with | [a, b, c, d], _ => exact ⟨a, b, c, d, rfl⟩
theorem len5 {vs : List Value} (h : vs.length = 5) : ∃ a b c d e, vs = [a, b, c, d, e] := by match vs, h with | [a, b, c, d, e], _ => exact ⟨a, b, c, d, e, rfl⟩
theorem len6 {vs : List Value} (h : vs.length = 6) : ∃ a b c d e f, vs = [a, b, c, d, e, f] := by match vs, h with | [a, b, c, d, e, f], _ => exact ⟨a, b, c, d, e, f, rfl⟩
theorem len7 {vs : List Value} (h : vs.length = 7) : ∃ a b c d e f g, vs = [a, b, c, d, e, f, g] := by match vs, h with | [a, b, c, d, e, f, g], _ => exact ⟨a, b, c, d, e, f, g, rfl⟩
end Mine
end
-- part MK
section
namespace Mine
open PySem PySem.W
noncomputable def bodyIn : List Stmt → Nat → List Stmt
  | [], _ => []
  | .FunctionDef _ _ b _ _ _ _ _ _ _ :: _, 0 => b
  | _ :: _, 0 => []
  | _ :: r, n + 1 => bodyIn r n
noncomputable def bd (n : Nat) : FuncBody := .stmts (bodyIn PySem.Challenge.pw_xw0116_01.main.body n)
noncomputable def KK : Params → Frag := fun P =>
  (nat_lit 3, { cls := Value.type "dict", data := Data.dict #[{ hash := PyData.keyHash P (Str.ofString "__name__"), key := Value.str (Str.ofString "__name__") 165, val := Value.str (Str.ofString "law_xw0116_01") 757 }, { hash := PyData.keyHash P (Str.ofString "__doc__"), key := Value.str (Str.ofString "__doc__") 166, val := Value.none }, { hash := PyData.keyHash P (Str.ofString "__package__"), key := Value.str (Str.ofString "__package__") 167, val := Value.none }, { hash := PyData.keyHash P (Str.ofString "__loader__"), key := Value.str (Str.ofString "__loader__") 168, val := Value.builtin "__main__.__loader__#opaque" }, { hash := PyData.keyHash P (Str.ofString "__spec__"), key := Value.str (Str.ofString "__spec__") 169, val := Value.none }, { hash := PyData.keyHash P (Str.ofString "__annotations__"), key := Value.str (Str.ofString "__annotations__") 170, val := Value.ref 6 }, { hash := PyData.keyHash P (Str.ofString "__builtins__"), key := Value.str (Str.ofString "__builtins__") 171, val := Value.ref 4 }, { hash := PyData.keyHash P (Str.ofString "__file__"), key := Value.str (Str.ofString "__file__") 173, val := Value.str (Str.ofString "/claim/cut.py") 172 }, { hash := PyData.keyHash P (Str.ofString "__cached__"), key := Value.str (Str.ofString "__cached__") 174, val := Value.none }, { hash := PyData.keyHash P (Str.ofString "GmpError"), key := Value.str (Str.ofString "GmpError") 208, val := Value.ref 24 }, { hash := PyData.keyHash P (Str.ofString "DivisionByZero"), key := Value.str (Str.ofString "DivisionByZero") 224, val := Value.ref 37 }, { hash := PyData.keyHash P (Str.ofString "NoInverse"), key := Value.str (Str.ofString "NoInverse") 240, val := Value.ref 49 }, { hash := PyData.keyHash P (Str.ofString "OutOfRange"), key := Value.str (Str.ofString "OutOfRange") 256, val := Value.ref 61 }, { hash := PyData.keyHash P (Str.ofString "normal"), key := Value.str (Str.ofString "normal") 264, val := Value.ref 70 }, { hash := PyData.keyHash P (Str.ofString "nat_of"), key := Value.str (Str.ofString "nat_of") 274, val := Value.ref 77 }, { hash := PyData.keyHash P (Str.ofString "compare"), key := Value.str (Str.ofString "compare") 283, val := Value.ref 84 }, { hash := PyData.keyHash P (Str.ofString "add"), key := Value.str (Str.ofString "add") 296, val := Value.ref 91 }, { hash := PyData.keyHash P (Str.ofString "sub"), key := Value.str (Str.ofString "sub") 310, val := Value.ref 98 }, { hash := PyData.keyHash P (Str.ofString "add_limb"), key := Value.str (Str.ofString "add_limb") 322, val := Value.ref 105 }, { hash := PyData.keyHash P (Str.ofString "divrem_limb"), key := Value.str (Str.ofString "divrem_limb") 334, val := Value.ref 112 }, { hash := PyData.keyHash P (Str.ofString "shift_left"), key := Value.str (Str.ofString "shift_left") 349, val := Value.ref 119 }, { hash := PyData.keyHash P (Str.ofString "shift_right"), key := Value.str (Str.ofString "shift_right") 364, val := Value.ref 126 }, { hash := PyData.keyHash P (Str.ofString "bits"), key := Value.str (Str.ofString "bits") 372, val := Value.ref 133 }, { hash := PyData.keyHash P (Str.ofString "bit"), key := Value.str (Str.ofString "bit") 381, val := Value.ref 140 }, { hash := PyData.keyHash P (Str.ofString "odd_powers"), key := Value.str (Str.ofString "odd_powers") 395, val := Value.ref 147 }, { hash := PyData.keyHash P (Str.ofString "window_at"), key := Value.str (Str.ofString "window_at") 408, val := Value.ref 154 }, { hash := PyData.keyHash P (Str.ofString "by_windows"), key := Value.str (Str.ofString "by_windows") 426, val := Value.ref 161 }, { hash := PyData.keyHash P (Str.ofString "check_modulus"), key := Value.str (Str.ofString "check_modulus") 433, val := Value.ref 168 }, { hash := PyData.keyHash P (Str.ofString "unit_rest"), key := Value.str (Str.ofString "unit_rest") 440, val := Value.ref 175 }, { hash := PyData.keyHash P (Str.ofString "divided_times"), key := Value.str (Str.ofString "divided_times") 455, val := Value.ref 182 }, { hash := PyData.keyHash P (Str.ofString "power_mod"), key := Value.str (Str.ofString "power_mod") 469, val := Value.ref 189 }, { hash := PyData.keyHash P (Str.ofString "signed"), key := Value.str (Str.ofString "signed") 479, val := Value.ref 196 }, { hash := PyData.keyHash P (Str.ofString "s_neg"), key := Value.str (Str.ofString "s_neg") 486, val := Value.ref 203 }, { hash := PyData.keyHash P (Str.ofString "s_abs"), key := Value.str (Str.ofString "s_abs") 493, val := Value.ref 210 }, { hash := PyData.keyHash P (Str.ofString "s_add"), key := Value.str (Str.ofString "s_add") 502, val := Value.ref 217 }, { hash := PyData.keyHash P (Str.ofString "s_sub"), key := Value.str (Str.ofString "s_sub") 511, val := Value.ref 224 }, { hash := PyData.keyHash P (Str.ofString "s_mul"), key := Value.str (Str.ofString "s_mul") 521, val := Value.ref 231 }, { hash := PyData.keyHash P (Str.ofString "tdiv"), key := Value.str (Str.ofString "tdiv") 533, val := Value.ref 238 }, { hash := PyData.keyHash P (Str.ofString "fdiv"), key := Value.str (Str.ofString "fdiv") 545, val := Value.ref 245 }, { hash := PyData.keyHash P (Str.ofString "s_mod"), key := Value.str (Str.ofString "s_mod") 555, val := Value.ref 252 }, { hash := PyData.keyHash P (Str.ofString "gcd_ext"), key := Value.str (Str.ofString "gcd_ext") 575, val := Value.ref 259 }, { hash := PyData.keyHash P (Str.ofString "inverse_mod"), key := Value.str (Str.ofString "inverse_mod") 589, val := Value.ref 266 }, { hash := PyData.keyHash P (Str.ofString "sieve"), key := Value.str (Str.ofString "sieve") 602, val := Value.ref 273 }, { hash := PyData.keyHash P (Str.ofString "need_count"), key := Value.str (Str.ofString "need_count") 609, val := Value.ref 280 }, { hash := PyData.keyHash P (Str.ofString "power_of_count"), key := Value.str (Str.ofString "power_of_count") 621, val := Value.ref 287 }, { hash := PyData.keyHash P (Str.ofString "product_of_powers"), key := Value.str (Str.ofString "product_of_powers") 631, val := Value.ref 294 }, { hash := PyData.keyHash P (Str.ofString "swing_exponent"), key := Value.str (Str.ofString "swing_exponent") 641, val := Value.ref 301 }, { hash := PyData.keyHash P (Str.ofString "swing"), key := Value.str (Str.ofString "swing") 647, val := Value.ref 306 }, { hash := PyData.keyHash P (Str.ofString "factorial"), key := Value.str (Str.ofString "factorial") 657, val := Value.ref 313 }, { hash := PyData.keyHash P (Str.ofString "mul_school"), key := Value.str (Str.ofString "mul_school") 675, val := Value.ref 320 }, { hash := PyData.keyHash P (Str.ofString "divrem_small"), key := Value.str (Str.ofString "divrem_small") 686, val := Value.ref 327 }, { hash := PyData.keyHash P (Str.ofString "guessed_limb"), key := Value.str (Str.ofString "guessed_limb") 700, val := Value.ref 334 }, { hash := PyData.keyHash P (Str.ofString "take_away"), key := Value.str (Str.ofString "take_away") 716, val := Value.ref 341 }, { hash := PyData.keyHash P (Str.ofString "put_back"), key := Value.str (Str.ofString "put_back") 730, val := Value.ref 348 }, { hash := PyData.keyHash P (Str.ofString "divide_rows"), key := Value.str (Str.ofString "divide_rows") 743, val := Value.ref 355 }, { hash := PyData.keyHash P (Str.ofString "divrem_school"), key := Value.str (Str.ofString "divrem_school") 756, val := Value.ref 362 }, { hash := PyData.keyHash P (Str.ofString "_law_next"), key := Value.str (Str.ofString "_law_next") 766, val := Value.ref 369 }, { hash := PyData.keyHash P (Str.ofString "_law_limbs"), key := Value.str (Str.ofString "_law_limbs") 775, val := Value.ref 376 }, { hash := PyData.keyHash P (Str.ofString "_law_told"), key := Value.str (Str.ofString "_law_told") 785, val := Value.ref 383 }, { hash := PyData.keyHash P (Str.ofString "_law_quotient"), key := Value.str (Str.ofString "_law_quotient") 797, val := Value.ref 390 }, { hash := PyData.keyHash P (Str.ofString "_law_due"), key := Value.str (Str.ofString "_law_due") 807, val := Value.ref 397 }, { hash := PyData.keyHash P (Str.ofString "law"), key := Value.str (Str.ofString "law") 813, val := Value.ref 402 }] 62 }) ::
  (nat_lit 69, { cls := Value.type "code", data := Data.fields #[Value.str (Str.ofString "normal") 257, Value.str (Str.ofString "normal") 258, Value.str (Str.ofString "/claim/cut.py") 259, Value.int 10 0, Value.int 1 0, Value.int 0 0, Value.int 0 0, Value.int 3 0, Value.ref 64, Value.bool true, Value.int 181 0, Value.ref 65, Value.none, Value.ref 66, Value.ref 67, Value.ref 68, Value.int 262 0, Value.int 10 0, Value.str (Str.ofString "/claim/cut.py") 263] }) ::
  (nat_lit 70, { cls := Value.type "function", data := Data.func { name := Str.ofString "normal", qualname := Str.ofString "normal", params := { posonlyargs := [], args := [{ arg := Str.ofString "a", annotation := none, pos := { line := 10, col := 11, endLine := 10, endCol := 12 } }], vararg := none, kwonlyargs := [], kw_defaults := [], kwarg := none, defaults := [] }, body := bd 5, scope := { kind := ScopeKind.function, names := [(Str.ofString "a", NameKind.local), (Str.ofString "end", NameKind.local), (Str.ofString "len", NameKind.globalImplicit)], isGenerator := false, isCoroutine := false }, globals := 3, closure := [], defaults := Value.none, kwdefaults := Value.none, pyModule := Value.str (Str.ofString "gmp.limbs") 187, code := Value.ref 69 } }) ::
  (nat_lit 76, { cls := Value.type "code", data := Data.fields #[Value.str (Str.ofString "nat_of") 265, Value.str (Str.ofString "nat_of") 266, Value.str (Str.ofString "/claim/cut.py") 267, Value.int 15 0, Value.int 2 0, Value.int 0 0, Value.int 0 0, Value.int 3 0, Value.ref 71, Value.bool true, Value.int 181 0, Value.ref 72, Value.none, Value.ref 73, Value.ref 74, Value.ref 75, Value.int 272 0, Value.int 15 0, Value.str (Str.ofString "/claim/cut.py") 273] }) ::
  (nat_lit 77, { cls := Value.type "function", data := Data.func { name := Str.ofString "nat_of", qualname := Str.ofString "nat_of", params := { posonlyargs := [], args := [{ arg := Str.ofString "number", annotation := none, pos := { line := 15, col := 11, endLine := 15, endCol := 17 } }, { arg := Str.ofString "w", annotation := none, pos := { line := 15, col := 19, endLine := 15, endCol := 20 } }], vararg := none, kwonlyargs := [], kw_defaults := [], kwarg := none, defaults := [] }, body := bd 6, scope := { kind := ScopeKind.function, names := [(Str.ofString "number", NameKind.local), (Str.ofString "w", NameKind.local), (Str.ofString "found", NameKind.local), (Str.ofString "mask", NameKind.local), (Str.ofString "OutOfRange", NameKind.globalImplicit)], isGenerator := false, isCoroutine := false }, globals := 3, closure := [], defaults := Value.none, kwdefaults := Value.none, pyModule := Value.str (Str.ofString "gmp.limbs") 187, code := Value.ref 76 } }) ::
  (nat_lit 83, { cls := Value.type "code", data := Data.fields #[Value.str (Str.ofString "compare") 275, Value.str (Str.ofString "compare") 276, Value.str (Str.ofString "/claim/cut.py") 277, Value.int 23 0, Value.int 2 0, Value.int 0 0, Value.int 0 0, Value.int 3 0, Value.ref 78, Value.bool true, Value.int 181 0, Value.ref 79, Value.none, Value.ref 80, Value.ref 81, Value.ref 82, Value.int 281 0, Value.int 23 0, Value.str (Str.ofString "/claim/cut.py") 282] }) ::
  (nat_lit 84, { cls := Value.type "function", data := Data.func { name := Str.ofString "compare", qualname := Str.ofString "compare", params := { posonlyargs := [], args := [{ arg := Str.ofString "a", annotation := none, pos := { line := 23, col := 12, endLine := 23, endCol := 13 } }, { arg := Str.ofString "b", annotation := none, pos := { line := 23, col := 15, endLine := 23, endCol := 16 } }], vararg := none, kwonlyargs := [], kw_defaults := [], kwarg := none, defaults := [] }, body := bd 7, scope := { kind := ScopeKind.function, names := [(Str.ofString "a", NameKind.local), (Str.ofString "b", NameKind.local), (Str.ofString "at", NameKind.local), (Str.ofString "len", NameKind.globalImplicit), (Str.ofString "range", NameKind.globalImplicit)], isGenerator := false, isCoroutine := false }, globals := 3, closure := [], defaults := Value.none, kwdefaults := Value.none, pyModule := Value.str (Str.ofString "gmp.limbs") 187, code := Value.ref 83 } }) ::
  (nat_lit 90, { cls := Value.type "code", data := Data.fields #[Value.str (Str.ofString "add") 284, Value.str (Str.ofString "add") 285, Value.str (Str.ofString "/claim/cut.py") 286, Value.int 30 0, Value.int 3 0, Value.int 0 0, Value.int 0 0, Value.int 3 0, Value.ref 85, Value.bool true, Value.int 181 0, Value.ref 86, Value.none, Value.ref 87, Value.ref 88, Value.ref 89, Value.int 294 0, Value.int 30 0, Value.str (Str.ofString "/claim/cut.py") 295] }) ::
  (nat_lit 91, { cls := Value.type "function", data := Data.func { name := Str.ofString "add", qualname := Str.ofString "add", params := { posonlyargs := [], args := [{ arg := Str.ofString "a", annotation := none, pos := { line := 30, col := 8, endLine := 30, endCol := 9 } }, { arg := Str.ofString "b", annotation := none, pos := { line := 30, col := 11, endLine := 30, endCol := 12 } }, { arg := Str.ofString "w", annotation := none, pos := { line := 30, col := 14, endLine := 30, endCol := 15 } }], vararg := none, kwonlyargs := [], kw_defaults := [], kwarg := none, defaults := [] }, body := bd 8, scope := { kind := ScopeKind.function, names := [(Str.ofString "a", NameKind.local), (Str.ofString "b", NameKind.local), (Str.ofString "w", NameKind.local), (Str.ofString "found", NameKind.local), (Str.ofString "carry", NameKind.local), (Str.ofString "mask", NameKind.local), (Str.ofString "at", NameKind.local), (Str.ofString "len", NameKind.globalImplicit), (Str.ofString "range", NameKind.globalImplicit)], isGenerator := false, isCoroutine := false }, globals := 3, closure := [], defaults := Value.none, kwdefaults := Value.none, pyModule := Value.str (Str.ofString "gmp.limbs") 187, code := Value.ref 90 } }) ::
  (nat_lit 97, { cls := Value.type "code", data := Data.fields #[Value.str (Str.ofString "sub") 297, Value.str (Str.ofString "sub") 298, Value.str (Str.ofString "/claim/cut.py") 299, Value.int 45 0, Value.int 3 0, Value.int 0 0, Value.int 0 0, Value.int 3 0, Value.ref 92, Value.bool true, Value.int 181 0, Value.ref 93, Value.none, Value.ref 94, Value.ref 95, Value.ref 96, Value.int 308 0, Value.int 45 0, Value.str (Str.ofString "/claim/cut.py") 309] }) ::
  (nat_lit 98, { cls := Value.type "function", data := Data.func { name := Str.ofString "sub", qualname := Str.ofString "sub", params := { posonlyargs := [], args := [{ arg := Str.ofString "a", annotation := none, pos := { line := 45, col := 8, endLine := 45, endCol := 9 } }, { arg := Str.ofString "b", annotation := none, pos := { line := 45, col := 11, endLine := 45, endCol := 12 } }, { arg := Str.ofString "w", annotation := none, pos := { line := 45, col := 14, endLine := 45, endCol := 15 } }], vararg := none, kwonlyargs := [], kw_defaults := [], kwarg := none, defaults := [] }, body := bd 9, scope := { kind := ScopeKind.function, names := [(Str.ofString "a", NameKind.local), (Str.ofString "b", NameKind.local), (Str.ofString "w", NameKind.local), (Str.ofString "found", NameKind.local), (Str.ofString "borrow", NameKind.local), (Str.ofString "base", NameKind.local), (Str.ofString "at", NameKind.local), (Str.ofString "limb", NameKind.local), (Str.ofString "compare", NameKind.globalImplicit), (Str.ofString "OutOfRange", NameKind.globalImplicit), (Str.ofString "range", NameKind.globalImplicit), (Str.ofString "len", NameKind.globalImplicit), (Str.ofString "normal", NameKind.globalImplicit)], isGenerator := false, isCoroutine := false }, globals := 3, closure := [], defaults := Value.none, kwdefaults := Value.none, pyModule := Value.str (Str.ofString "gmp.limbs") 187, code := Value.ref 97 } }) ::
  (nat_lit 104, { cls := Value.type "code", data := Data.fields #[Value.str (Str.ofString "add_limb") 311, Value.str (Str.ofString "add_limb") 312, Value.str (Str.ofString "/claim/cut.py") 313, Value.int 54 0, Value.int 3 0, Value.int 0 0, Value.int 0 0, Value.int 3 0, Value.ref 99, Value.bool true, Value.int 181 0, Value.ref 100, Value.none, Value.ref 101, Value.ref 102, Value.ref 103, Value.int 320 0, Value.int 54 0, Value.str (Str.ofString "/claim/cut.py") 321] }) ::
  (nat_lit 105, { cls := Value.type "function", data := Data.func { name := Str.ofString "add_limb", qualname := Str.ofString "add_limb", params := { posonlyargs := [], args := [{ arg := Str.ofString "a", annotation := none, pos := { line := 54, col := 13, endLine := 54, endCol := 14 } }, { arg := Str.ofString "limb", annotation := none, pos := { line := 54, col := 16, endLine := 54, endCol := 20 } }, { arg := Str.ofString "w", annotation := none, pos := { line := 54, col := 22, endLine := 54, endCol := 23 } }], vararg := none, kwonlyargs := [], kw_defaults := [], kwarg := none, defaults := [] }, body := bd 10, scope := { kind := ScopeKind.function, names := [(Str.ofString "a", NameKind.local), (Str.ofString "limb", NameKind.local), (Str.ofString "w", NameKind.local), (Str.ofString "found", NameKind.local), (Str.ofString "mask", NameKind.local), (Str.ofString "one", NameKind.local)], isGenerator := false, isCoroutine := false }, globals := 3, closure := [], defaults := Value.none, kwdefaults := Value.none, pyModule := Value.str (Str.ofString "gmp.limbs") 187, code := Value.ref 104 } }) ::
  (nat_lit 111, { cls := Value.type "code", data := Data.fields #[Value.str (Str.ofString "divrem_limb") 323, Value.str (Str.ofString "divrem_limb") 324, Value.str (Str.ofString "/claim/cut.py") 325, Value.int 63 0, Value.int 3 0, Value.int 0 0, Value.int 0 0, Value.int 3 0, Value.ref 106, Value.bool true, Value.int 181 0, Value.ref 107, Value.none, Value.ref 108, Value.ref 109, Value.ref 110, Value.int 332 0, Value.int 63 0, Value.str (Str.ofString "/claim/cut.py") 333] }) ::
  (nat_lit 112, { cls := Value.type "function", data := Data.func { name := Str.ofString "divrem_limb", qualname := Str.ofString "divrem_limb", params := { posonlyargs := [], args := [{ arg := Str.ofString "a", annotation := none, pos := { line := 63, col := 16, endLine := 63, endCol := 17 } }, { arg := Str.ofString "limb", annotation := none, pos := { line := 63, col := 19, endLine := 63, endCol := 23 } }, { arg := Str.ofString "w", annotation := none, pos := { line := 63, col := 25, endLine := 63, endCol := 26 } }], vararg := none, kwonlyargs := [], kw_defaults := [], kwarg := none, defaults := [] }, body := bd 11, scope := { kind := ScopeKind.function, names := [(Str.ofString "a", NameKind.local), (Str.ofString "limb", NameKind.local), (Str.ofString "w", NameKind.local), (Str.ofString "found", NameKind.local), (Str.ofString "rest", NameKind.local), (Str.ofString "at", NameKind.local), (Str.ofString "DivisionByZero", NameKind.globalImplicit), (Str.ofString "len", NameKind.globalImplicit), (Str.ofString "range", NameKind.globalImplicit), (Str.ofString "normal", NameKind.globalImplicit)], isGenerator := false, isCoroutine := false }, globals := 3, closure := [], defaults := Value.none, kwdefaults := Value.none, pyModule := Value.str (Str.ofString "gmp.limbs") 187, code := Value.ref 111 } }) ::
  (nat_lit 118, { cls := Value.type "code", data := Data.fields #[Value.str (Str.ofString "shift_left") 335, Value.str (Str.ofString "shift_left") 336, Value.str (Str.ofString "/claim/cut.py") 337, Value.int 72 0, Value.int 3 0, Value.int 0 0, Value.int 0 0, Value.int 3 0, Value.ref 113, Value.bool true, Value.int 181 0, Value.ref 114, Value.none, Value.ref 115, Value.ref 116, Value.ref 117, Value.int 347 0, Value.int 72 0, Value.str (Str.ofString "/claim/cut.py") 348] }) ::
  (nat_lit 119, { cls := Value.type "function", data := Data.func { name := Str.ofString "shift_left", qualname := Str.ofString "shift_left", params := { posonlyargs := [], args := [{ arg := Str.ofString "a", annotation := none, pos := { line := 72, col := 15, endLine := 72, endCol := 16 } }, { arg := Str.ofString "n", annotation := none, pos := { line := 72, col := 18, endLine := 72, endCol := 19 } }, { arg := Str.ofString "w", annotation := none, pos := { line := 72, col := 21, endLine := 72, endCol := 22 } }], vararg := none, kwonlyargs := [], kw_defaults := [], kwarg := none, defaults := [] }, body := bd 12, scope := { kind := ScopeKind.function, names := [(Str.ofString "a", NameKind.local), (Str.ofString "n", NameKind.local), (Str.ofString "w", NameKind.local), (Str.ofString "spots", NameKind.local), (Str.ofString "few", NameKind.local), (Str.ofString "found", NameKind.local), (Str.ofString "carry", NameKind.local), (Str.ofString "mask", NameKind.local), (Str.ofString "one", NameKind.local), (Str.ofString "len", NameKind.globalImplicit)], isGenerator := false, isCoroutine := false }, globals := 3, closure := [], defaults := Value.none, kwdefaults := Value.none, pyModule := Value.str (Str.ofString "gmp.limbs") 187, code := Value.ref 118 } }) ::
  (nat_lit 125, { cls := Value.type "code", data := Data.fields #[Value.str (Str.ofString "shift_right") 350, Value.str (Str.ofString "shift_right") 351, Value.str (Str.ofString "/claim/cut.py") 352, Value.int 84 0, Value.int 3 0, Value.int 0 0, Value.int 0 0, Value.int 3 0, Value.ref 120, Value.bool true, Value.int 181 0, Value.ref 121, Value.none, Value.ref 122, Value.ref 123, Value.ref 124, Value.int 362 0, Value.int 84 0, Value.str (Str.ofString "/claim/cut.py") 363] }) ::
  (nat_lit 126, { cls := Value.type "function", data := Data.func { name := Str.ofString "shift_right", qualname := Str.ofString "shift_right", params := { posonlyargs := [], args := [{ arg := Str.ofString "a", annotation := none, pos := { line := 84, col := 16, endLine := 84, endCol := 17 } }, { arg := Str.ofString "n", annotation := none, pos := { line := 84, col := 19, endLine := 84, endCol := 20 } }, { arg := Str.ofString "w", annotation := none, pos := { line := 84, col := 22, endLine := 84, endCol := 23 } }], vararg := none, kwonlyargs := [], kw_defaults := [], kwarg := none, defaults := [] }, body := bd 13, scope := { kind := ScopeKind.function, names := [(Str.ofString "a", NameKind.local), (Str.ofString "n", NameKind.local), (Str.ofString "w", NameKind.local), (Str.ofString "spots", NameKind.local), (Str.ofString "few", NameKind.local), (Str.ofString "found", NameKind.local), (Str.ofString "mask", NameKind.local), (Str.ofString "at", NameKind.local), (Str.ofString "above", NameKind.local), (Str.ofString "range", NameKind.globalImplicit), (Str.ofString "len", NameKind.globalImplicit), (Str.ofString "normal", NameKind.globalImplicit)], isGenerator := false, isCoroutine := false }, globals := 3, closure := [], defaults := Value.none, kwdefaults := Value.none, pyModule := Value.str (Str.ofString "gmp.limbs") 187, code := Value.ref 125 } }) ::
  (nat_lit 132, { cls := Value.type "code", data := Data.fields #[Value.str (Str.ofString "bits") 365, Value.str (Str.ofString "bits") 366, Value.str (Str.ofString "/claim/cut.py") 367, Value.int 91 0, Value.int 2 0, Value.int 0 0, Value.int 0 0, Value.int 3 0, Value.ref 127, Value.bool true, Value.int 181 0, Value.ref 128, Value.none, Value.ref 129, Value.ref 130, Value.ref 131, Value.int 370 0, Value.int 91 0, Value.str (Str.ofString "/claim/cut.py") 371] }) ::
  (nat_lit 133, { cls := Value.type "function", data := Data.func { name := Str.ofString "bits", qualname := Str.ofString "bits", params := { posonlyargs := [], args := [{ arg := Str.ofString "a", annotation := none, pos := { line := 91, col := 9, endLine := 91, endCol := 10 } }, { arg := Str.ofString "w", annotation := none, pos := { line := 91, col := 12, endLine := 91, endCol := 13 } }], vararg := none, kwonlyargs := [], kw_defaults := [], kwarg := none, defaults := [] }, body := bd 14, scope := { kind := ScopeKind.function, names := [(Str.ofString "a", NameKind.local), (Str.ofString "w", NameKind.local), (Str.ofString "len", NameKind.globalImplicit)], isGenerator := false, isCoroutine := false }, globals := 3, closure := [], defaults := Value.none, kwdefaults := Value.none, pyModule := Value.str (Str.ofString "gmp.limbs") 187, code := Value.ref 132 } }) ::
  (nat_lit 139, { cls := Value.type "code", data := Data.fields #[Value.str (Str.ofString "bit") 373, Value.str (Str.ofString "bit") 374, Value.str (Str.ofString "/claim/cut.py") 375, Value.int 93 0, Value.int 3 0, Value.int 0 0, Value.int 0 0, Value.int 3 0, Value.ref 134, Value.bool true, Value.int 181 0, Value.ref 135, Value.none, Value.ref 136, Value.ref 137, Value.ref 138, Value.int 379 0, Value.int 93 0, Value.str (Str.ofString "/claim/cut.py") 380] }) ::
  (nat_lit 140, { cls := Value.type "function", data := Data.func { name := Str.ofString "bit", qualname := Str.ofString "bit", params := { posonlyargs := [], args := [{ arg := Str.ofString "a", annotation := none, pos := { line := 93, col := 8, endLine := 93, endCol := 9 } }, { arg := Str.ofString "n", annotation := none, pos := { line := 93, col := 11, endLine := 93, endCol := 12 } }, { arg := Str.ofString "w", annotation := none, pos := { line := 93, col := 14, endLine := 93, endCol := 15 } }], vararg := none, kwonlyargs := [], kw_defaults := [], kwarg := none, defaults := [] }, body := bd 15, scope := { kind := ScopeKind.function, names := [(Str.ofString "a", NameKind.local), (Str.ofString "n", NameKind.local), (Str.ofString "w", NameKind.local), (Str.ofString "len", NameKind.globalImplicit)], isGenerator := false, isCoroutine := false }, globals := 3, closure := [], defaults := Value.none, kwdefaults := Value.none, pyModule := Value.str (Str.ofString "gmp.limbs") 187, code := Value.ref 139 } }) ::
  (nat_lit 146, { cls := Value.type "code", data := Data.fields #[Value.str (Str.ofString "odd_powers") 384, Value.str (Str.ofString "odd_powers") 385, Value.str (Str.ofString "/claim/cut.py") 386, Value.int 96 0, Value.int 3 0, Value.int 0 0, Value.int 0 0, Value.int 3 0, Value.ref 141, Value.bool true, Value.int 181 0, Value.ref 142, Value.none, Value.ref 143, Value.ref 144, Value.ref 145, Value.int 393 0, Value.int 96 0, Value.str (Str.ofString "/claim/cut.py") 394] }) ::
  (nat_lit 147, { cls := Value.type "function", data := Data.func { name := Str.ofString "odd_powers", qualname := Str.ofString "odd_powers", params := { posonlyargs := [], args := [{ arg := Str.ofString "base", annotation := none, pos := { line := 96, col := 15, endLine := 96, endCol := 19 } }, { arg := Str.ofString "size", annotation := none, pos := { line := 96, col := 21, endLine := 96, endCol := 25 } }, { arg := Str.ofString "times", annotation := none, pos := { line := 96, col := 27, endLine := 96, endCol := 32 } }], vararg := none, kwonlyargs := [], kw_defaults := [], kwarg := none, defaults := [] }, body := bd 17, scope := { kind := ScopeKind.function, names := [(Str.ofString "base", NameKind.local), (Str.ofString "size", NameKind.local), (Str.ofString "times", NameKind.local), (Str.ofString "found", NameKind.local), (Str.ofString "square", NameKind.local), (Str.ofString "turn", NameKind.local), (Str.ofString "range", NameKind.globalImplicit)], isGenerator := false, isCoroutine := false }, globals := 3, closure := [], defaults := Value.none, kwdefaults := Value.none, pyModule := Value.str (Str.ofString "gmp.powers") 382, code := Value.ref 146 } }) ::
  (nat_lit 153, { cls := Value.type "code", data := Data.fields #[Value.str (Str.ofString "window_at") 396, Value.str (Str.ofString "window_at") 397, Value.str (Str.ofString "/claim/cut.py") 398, Value.int 101 0, Value.int 4 0, Value.int 0 0, Value.int 0 0, Value.int 3 0, Value.ref 148, Value.bool true, Value.int 181 0, Value.ref 149, Value.none, Value.ref 150, Value.ref 151, Value.ref 152, Value.int 406 0, Value.int 101 0, Value.str (Str.ofString "/claim/cut.py") 407] }) ::
  (nat_lit 154, { cls := Value.type "function", data := Data.func { name := Str.ofString "window_at", qualname := Str.ofString "window_at", params := { posonlyargs := [], args := [{ arg := Str.ofString "e", annotation := none, pos := { line := 101, col := 14, endLine := 101, endCol := 15 } }, { arg := Str.ofString "top", annotation := none, pos := { line := 101, col := 17, endLine := 101, endCol := 20 } }, { arg := Str.ofString "size", annotation := none, pos := { line := 101, col := 22, endLine := 101, endCol := 26 } }, { arg := Str.ofString "w", annotation := none, pos := { line := 101, col := 28, endLine := 101, endCol := 29 } }], vararg := none, kwonlyargs := [], kw_defaults := [], kwarg := none, defaults := [] }, body := bd 18, scope := { kind := ScopeKind.function, names := [(Str.ofString "e", NameKind.local), (Str.ofString "top", NameKind.local), (Str.ofString "size", NameKind.local), (Str.ofString "w", NameKind.local), (Str.ofString "last", NameKind.local), (Str.ofString "value", NameKind.local), (Str.ofString "spot", NameKind.local), (Str.ofString "max", NameKind.globalImplicit), (Str.ofString "bit", NameKind.globalImplicit), (Str.ofString "range", NameKind.globalImplicit)], isGenerator := false, isCoroutine := false }, globals := 3, closure := [], defaults := Value.none, kwdefaults := Value.none, pyModule := Value.str (Str.ofString "gmp.powers") 382, code := Value.ref 153 } }) ::
  (nat_lit 160, { cls := Value.type "code", data := Data.fields #[Value.str (Str.ofString "by_windows") 409, Value.str (Str.ofString "by_windows") 410, Value.str (Str.ofString "/claim/cut.py") 411, Value.int 109 0, Value.int 6 0, Value.int 0 0, Value.int 0 0, Value.int 3 0, Value.ref 155, Value.bool true, Value.int 181 0, Value.ref 156, Value.none, Value.ref 157, Value.ref 158, Value.ref 159, Value.int 424 0, Value.int 109 0, Value.str (Str.ofString "/claim/cut.py") 425] }) ::
  (nat_lit 161, { cls := Value.type "function", data := Data.func { name := Str.ofString "by_windows", qualname := Str.ofString "by_windows", params := { posonlyargs := [], args := [{ arg := Str.ofString "base", annotation := none, pos := { line := 109, col := 15, endLine := 109, endCol := 19 } }, { arg := Str.ofString "e", annotation := none, pos := { line := 109, col := 21, endLine := 109, endCol := 22 } }, { arg := Str.ofString "size", annotation := none, pos := { line := 109, col := 24, endLine := 109, endCol := 28 } }, { arg := Str.ofString "w", annotation := none, pos := { line := 109, col := 30, endLine := 109, endCol := 31 } }, { arg := Str.ofString "one", annotation := none, pos := { line := 109, col := 33, endLine := 109, endCol := 36 } }, { arg := Str.ofString "times", annotation := none, pos := { line := 109, col := 38, endLine := 109, endCol := 43 } }], vararg := none, kwonlyargs := [], kw_defaults := [], kwarg := none, defaults := [] }, body := bd 19, scope := { kind := ScopeKind.function, names := [(Str.ofString "base", NameKind.local), (Str.ofString "e", NameKind.local), (Str.ofString "size", NameKind.local), (Str.ofString "w", NameKind.local), (Str.ofString "one", NameKind.local), (Str.ofString "times", NameKind.local), (Str.ofString "table", NameKind.local), (Str.ofString "found", NameKind.local), (Str.ofString "spot", NameKind.local), (Str.ofString "value", NameKind.local), (Str.ofString "many", NameKind.local), (Str.ofString "turn", NameKind.local), (Str.ofString "odd_powers", NameKind.globalImplicit), (Str.ofString "bits", NameKind.globalImplicit), (Str.ofString "bit", NameKind.globalImplicit), (Str.ofString "window_at", NameKind.globalImplicit), (Str.ofString "range", NameKind.globalImplicit)], isGenerator := false, isCoroutine := false }, globals := 3, closure := [], defaults := Value.none, kwdefaults := Value.none, pyModule := Value.str (Str.ofString "gmp.powers") 382, code := Value.ref 160 } }) ::
  (nat_lit 167, { cls := Value.type "code", data := Data.fields #[Value.str (Str.ofString "check_modulus") 427, Value.str (Str.ofString "check_modulus") 428, Value.str (Str.ofString "/claim/cut.py") 429, Value.int 128 0, Value.int 1 0, Value.int 0 0, Value.int 0 0, Value.int 3 0, Value.ref 162, Value.bool true, Value.int 181 0, Value.ref 163, Value.none, Value.ref 164, Value.ref 165, Value.ref 166, Value.int 431 0, Value.int 128 0, Value.str (Str.ofString "/claim/cut.py") 432] }) ::
  (nat_lit 168, { cls := Value.type "function", data := Data.func { name := Str.ofString "check_modulus", qualname := Str.ofString "check_modulus", params := { posonlyargs := [], args := [{ arg := Str.ofString "m", annotation := none, pos := { line := 128, col := 18, endLine := 128, endCol := 19 } }], vararg := none, kwonlyargs := [], kw_defaults := [], kwarg := none, defaults := [] }, body := bd 20, scope := { kind := ScopeKind.function, names := [(Str.ofString "m", NameKind.local), (Str.ofString "DivisionByZero", NameKind.globalImplicit)], isGenerator := false, isCoroutine := false }, globals := 3, closure := [], defaults := Value.none, kwdefaults := Value.none, pyModule := Value.str (Str.ofString "gmp.powers") 382, code := Value.ref 167 } }) ::
  (nat_lit 174, { cls := Value.type "code", data := Data.fields #[Value.str (Str.ofString "unit_rest") 434, Value.str (Str.ofString "unit_rest") 435, Value.str (Str.ofString "/claim/cut.py") 436, Value.int 131 0, Value.int 1 0, Value.int 0 0, Value.int 0 0, Value.int 3 0, Value.ref 169, Value.bool true, Value.int 181 0, Value.ref 170, Value.none, Value.ref 171, Value.ref 172, Value.ref 173, Value.int 438 0, Value.int 131 0, Value.str (Str.ofString "/claim/cut.py") 439] }) ::
  (nat_lit 175, { cls := Value.type "function", data := Data.func { name := Str.ofString "unit_rest", qualname := Str.ofString "unit_rest", params := { posonlyargs := [], args := [{ arg := Str.ofString "m", annotation := none, pos := { line := 131, col := 14, endLine := 131, endCol := 15 } }], vararg := none, kwonlyargs := [], kw_defaults := [], kwarg := none, defaults := [] }, body := bd 21, scope := { kind := ScopeKind.function, names := [(Str.ofString "m", NameKind.local)], isGenerator := false, isCoroutine := false }, globals := 3, closure := [], defaults := Value.none, kwdefaults := Value.none, pyModule := Value.str (Str.ofString "gmp.powers") 382, code := Value.ref 174 } }) ::
  (nat_lit 181, { cls := Value.type "code", data := Data.fields #[Value.str (Str.ofString "divided_times") 441, Value.str (Str.ofString "divided_times") 442, Value.str (Str.ofString "/claim/cut.py") 443, Value.int 133 0, Value.int 4 0, Value.int 0 0, Value.int 0 0, Value.int 3 0, Value.ref 176, Value.bool true, Value.int 181 0, Value.ref 177, Value.none, Value.ref 178, Value.ref 179, Value.ref 180, Value.int 453 0, Value.int 133 0, Value.str (Str.ofString "/claim/cut.py") 454] }) ::
  (nat_lit 182, { cls := Value.type "function", data := Data.func { name := Str.ofString "divided_times", qualname := Str.ofString "divided_times", params := { posonlyargs := [], args := [{ arg := Str.ofString "m", annotation := none, pos := { line := 133, col := 18, endLine := 133, endCol := 19 } }, { arg := Str.ofString "w", annotation := none, pos := { line := 133, col := 21, endLine := 133, endCol := 22 } }, { arg := Str.ofString "mul", annotation := none, pos := { line := 133, col := 24, endLine := 133, endCol := 27 } }, { arg := Str.ofString "divrem", annotation := none, pos := { line := 133, col := 29, endLine := 133, endCol := 35 } }], vararg := none, kwonlyargs := [], kw_defaults := [], kwarg := none, defaults := [] }, body := bd 22, scope := { kind := ScopeKind.function, names := [(Str.ofString "m", NameKind.cell), (Str.ofString "w", NameKind.cell), (Str.ofString "mul", NameKind.cell), (Str.ofString "divrem", NameKind.cell), (Str.ofString "multiplied", NameKind.local)], isGenerator := false, isCoroutine := false }, globals := 3, closure := [], defaults := Value.none, kwdefaults := Value.none, pyModule := Value.str (Str.ofString "gmp.powers") 382, code := Value.ref 181 } }) ::
  (nat_lit 188, { cls := Value.type "code", data := Data.fields #[Value.str (Str.ofString "power_mod") 456, Value.str (Str.ofString "power_mod") 457, Value.str (Str.ofString "/claim/cut.py") 458, Value.int 138 0, Value.int 7 0, Value.int 0 0, Value.int 0 0, Value.int 3 0, Value.ref 183, Value.bool true, Value.int 181 0, Value.ref 184, Value.none, Value.ref 185, Value.ref 186, Value.ref 187, Value.int 467 0, Value.int 138 0, Value.str (Str.ofString "/claim/cut.py") 468] }) ::
  (nat_lit 189, { cls := Value.type "function", data := Data.func { name := Str.ofString "power_mod", qualname := Str.ofString "power_mod", params := { posonlyargs := [], args := [{ arg := Str.ofString "a", annotation := none, pos := { line := 138, col := 14, endLine := 138, endCol := 15 } }, { arg := Str.ofString "e", annotation := none, pos := { line := 138, col := 17, endLine := 138, endCol := 18 } }, { arg := Str.ofString "m", annotation := none, pos := { line := 138, col := 20, endLine := 138, endCol := 21 } }, { arg := Str.ofString "w", annotation := none, pos := { line := 138, col := 23, endLine := 138, endCol := 24 } }, { arg := Str.ofString "size", annotation := none, pos := { line := 138, col := 26, endLine := 138, endCol := 30 } }, { arg := Str.ofString "mul", annotation := none, pos := { line := 138, col := 32, endLine := 138, endCol := 35 } }, { arg := Str.ofString "divrem", annotation := none, pos := { line := 138, col := 37, endLine := 138, endCol := 43 } }], vararg := none, kwonlyargs := [], kw_defaults := [], kwarg := none, defaults := [] }, body := bd 23, scope := { kind := ScopeKind.function, names := [(Str.ofString "a", NameKind.local), (Str.ofString "e", NameKind.local), (Str.ofString "m", NameKind.local), (Str.ofString "w", NameKind.local), (Str.ofString "size", NameKind.local), (Str.ofString "mul", NameKind.local), (Str.ofString "divrem", NameKind.local), (Str.ofString "base", NameKind.local), (Str.ofString "check_modulus", NameKind.globalImplicit), (Str.ofString "by_windows", NameKind.globalImplicit), (Str.ofString "unit_rest", NameKind.globalImplicit), (Str.ofString "divided_times", NameKind.globalImplicit)], isGenerator := false, isCoroutine := false }, globals := 3, closure := [], defaults := Value.none, kwdefaults := Value.none, pyModule := Value.str (Str.ofString "gmp.powers") 382, code := Value.ref 188 } }) ::
  (nat_lit 195, { cls := Value.type "code", data := Data.fields #[Value.str (Str.ofString "signed") 472, Value.str (Str.ofString "signed") 473, Value.str (Str.ofString "/claim/cut.py") 474, Value.int 143 0, Value.int 2 0, Value.int 0 0, Value.int 0 0, Value.int 3 0, Value.ref 190, Value.bool true, Value.int 181 0, Value.ref 191, Value.none, Value.ref 192, Value.ref 193, Value.ref 194, Value.int 477 0, Value.int 143 0, Value.str (Str.ofString "/claim/cut.py") 478] }) ::
  (nat_lit 196, { cls := Value.type "function", data := Data.func { name := Str.ofString "signed", qualname := Str.ofString "signed", params := { posonlyargs := [], args := [{ arg := Str.ofString "is_below", annotation := none, pos := { line := 143, col := 11, endLine := 143, endCol := 19 } }, { arg := Str.ofString "nat", annotation := none, pos := { line := 143, col := 21, endLine := 143, endCol := 24 } }], vararg := none, kwonlyargs := [], kw_defaults := [], kwarg := none, defaults := [] }, body := bd 25, scope := { kind := ScopeKind.function, names := [(Str.ofString "is_below", NameKind.local), (Str.ofString "nat", NameKind.local), (Str.ofString "len", NameKind.globalImplicit)], isGenerator := false, isCoroutine := false }, globals := 3, closure := [], defaults := Value.none, kwdefaults := Value.none, pyModule := Value.str (Str.ofString "gmp.signed") 470, code := Value.ref 195 } }) ::
  (nat_lit 202, { cls := Value.type "code", data := Data.fields #[Value.str (Str.ofString "s_neg") 480, Value.str (Str.ofString "s_neg") 481, Value.str (Str.ofString "/claim/cut.py") 482, Value.int 145 0, Value.int 1 0, Value.int 0 0, Value.int 0 0, Value.int 3 0, Value.ref 197, Value.bool true, Value.int 181 0, Value.ref 198, Value.none, Value.ref 199, Value.ref 200, Value.ref 201, Value.int 484 0, Value.int 145 0, Value.str (Str.ofString "/claim/cut.py") 485] }) ::
  (nat_lit 203, { cls := Value.type "function", data := Data.func { name := Str.ofString "s_neg", qualname := Str.ofString "s_neg", params := { posonlyargs := [], args := [{ arg := Str.ofString "x", annotation := none, pos := { line := 145, col := 10, endLine := 145, endCol := 11 } }], vararg := none, kwonlyargs := [], kw_defaults := [], kwarg := none, defaults := [] }, body := bd 26, scope := { kind := ScopeKind.function, names := [(Str.ofString "x", NameKind.local), (Str.ofString "signed", NameKind.globalImplicit)], isGenerator := false, isCoroutine := false }, globals := 3, closure := [], defaults := Value.none, kwdefaults := Value.none, pyModule := Value.str (Str.ofString "gmp.signed") 470, code := Value.ref 202 } }) ::
  (nat_lit 209, { cls := Value.type "code", data := Data.fields #[Value.str (Str.ofString "s_abs") 487, Value.str (Str.ofString "s_abs") 488, Value.str (Str.ofString "/claim/cut.py") 489, Value.int 147 0, Value.int 1 0, Value.int 0 0, Value.int 0 0, Value.int 3 0, Value.ref 204, Value.bool true, Value.int 181 0, Value.ref 205, Value.none, Value.ref 206, Value.ref 207, Value.ref 208, Value.int 491 0, Value.int 147 0, Value.str (Str.ofString "/claim/cut.py") 492] }) ::
  (nat_lit 210, { cls := Value.type "function", data := Data.func { name := Str.ofString "s_abs", qualname := Str.ofString "s_abs", params := { posonlyargs := [], args := [{ arg := Str.ofString "x", annotation := none, pos := { line := 147, col := 10, endLine := 147, endCol := 11 } }], vararg := none, kwonlyargs := [], kw_defaults := [], kwarg := none, defaults := [] }, body := bd 27, scope := { kind := ScopeKind.function, names := [(Str.ofString "x", NameKind.local)], isGenerator := false, isCoroutine := false }, globals := 3, closure := [], defaults := Value.none, kwdefaults := Value.none, pyModule := Value.str (Str.ofString "gmp.signed") 470, code := Value.ref 209 } }) ::
  (nat_lit 216, { cls := Value.type "code", data := Data.fields #[Value.str (Str.ofString "s_add") 494, Value.str (Str.ofString "s_add") 495, Value.str (Str.ofString "/claim/cut.py") 496, Value.int 149 0, Value.int 3 0, Value.int 0 0, Value.int 0 0, Value.int 3 0, Value.ref 211, Value.bool true, Value.int 181 0, Value.ref 212, Value.none, Value.ref 213, Value.ref 214, Value.ref 215, Value.int 500 0, Value.int 149 0, Value.str (Str.ofString "/claim/cut.py") 501] }) ::
  (nat_lit 217, { cls := Value.type "function", data := Data.func { name := Str.ofString "s_add", qualname := Str.ofString "s_add", params := { posonlyargs := [], args := [{ arg := Str.ofString "x", annotation := none, pos := { line := 149, col := 10, endLine := 149, endCol := 11 } }, { arg := Str.ofString "y", annotation := none, pos := { line := 149, col := 13, endLine := 149, endCol := 14 } }, { arg := Str.ofString "w", annotation := none, pos := { line := 149, col := 16, endLine := 149, endCol := 17 } }], vararg := none, kwonlyargs := [], kw_defaults := [], kwarg := none, defaults := [] }, body := bd 28, scope := { kind := ScopeKind.function, names := [(Str.ofString "x", NameKind.local), (Str.ofString "y", NameKind.local), (Str.ofString "w", NameKind.local), (Str.ofString "signed", NameKind.globalImplicit), (Str.ofString "add", NameKind.globalImplicit), (Str.ofString "compare", NameKind.globalImplicit), (Str.ofString "sub", NameKind.globalImplicit)], isGenerator := false, isCoroutine := false }, globals := 3, closure := [], defaults := Value.none, kwdefaults := Value.none, pyModule := Value.str (Str.ofString "gmp.signed") 470, code := Value.ref 216 } }) ::
  (nat_lit 223, { cls := Value.type "code", data := Data.fields #[Value.str (Str.ofString "s_sub") 503, Value.str (Str.ofString "s_sub") 504, Value.str (Str.ofString "/claim/cut.py") 505, Value.int 155 0, Value.int 3 0, Value.int 0 0, Value.int 0 0, Value.int 3 0, Value.ref 218, Value.bool true, Value.int 181 0, Value.ref 219, Value.none, Value.ref 220, Value.ref 221, Value.ref 222, Value.int 509 0, Value.int 155 0, Value.str (Str.ofString "/claim/cut.py") 510] }) ::
  (nat_lit 224, { cls := Value.type "function", data := Data.func { name := Str.ofString "s_sub", qualname := Str.ofString "s_sub", params := { posonlyargs := [], args := [{ arg := Str.ofString "x", annotation := none, pos := { line := 155, col := 10, endLine := 155, endCol := 11 } }, { arg := Str.ofString "y", annotation := none, pos := { line := 155, col := 13, endLine := 155, endCol := 14 } }, { arg := Str.ofString "w", annotation := none, pos := { line := 155, col := 16, endLine := 155, endCol := 17 } }], vararg := none, kwonlyargs := [], kw_defaults := [], kwarg := none, defaults := [] }, body := bd 29, scope := { kind := ScopeKind.function, names := [(Str.ofString "x", NameKind.local), (Str.ofString "y", NameKind.local), (Str.ofString "w", NameKind.local), (Str.ofString "s_add", NameKind.globalImplicit), (Str.ofString "s_neg", NameKind.globalImplicit)], isGenerator := false, isCoroutine := false }, globals := 3, closure := [], defaults := Value.none, kwdefaults := Value.none, pyModule := Value.str (Str.ofString "gmp.signed") 470, code := Value.ref 223 } }) ::
  (nat_lit 230, { cls := Value.type "code", data := Data.fields #[Value.str (Str.ofString "s_mul") 512, Value.str (Str.ofString "s_mul") 513, Value.str (Str.ofString "/claim/cut.py") 514, Value.int 157 0, Value.int 4 0, Value.int 0 0, Value.int 0 0, Value.int 3 0, Value.ref 225, Value.bool true, Value.int 181 0, Value.ref 226, Value.none, Value.ref 227, Value.ref 228, Value.ref 229, Value.int 519 0, Value.int 157 0, Value.str (Str.ofString "/claim/cut.py") 520] }) ::
  (nat_lit 231, { cls := Value.type "function", data := Data.func { name := Str.ofString "s_mul", qualname := Str.ofString "s_mul", params := { posonlyargs := [], args := [{ arg := Str.ofString "x", annotation := none, pos := { line := 157, col := 10, endLine := 157, endCol := 11 } }, { arg := Str.ofString "y", annotation := none, pos := { line := 157, col := 13, endLine := 157, endCol := 14 } }, { arg := Str.ofString "w", annotation := none, pos := { line := 157, col := 16, endLine := 157, endCol := 17 } }, { arg := Str.ofString "mul", annotation := none, pos := { line := 157, col := 19, endLine := 157, endCol := 22 } }], vararg := none, kwonlyargs := [], kw_defaults := [], kwarg := none, defaults := [] }, body := bd 30, scope := { kind := ScopeKind.function, names := [(Str.ofString "x", NameKind.local), (Str.ofString "y", NameKind.local), (Str.ofString "w", NameKind.local), (Str.ofString "mul", NameKind.local), (Str.ofString "signed", NameKind.globalImplicit)], isGenerator := false, isCoroutine := false }, globals := 3, closure := [], defaults := Value.none, kwdefaults := Value.none, pyModule := Value.str (Str.ofString "gmp.signed") 470, code := Value.ref 230 } }) ::
  (nat_lit 237, { cls := Value.type "code", data := Data.fields #[Value.str (Str.ofString "tdiv") 522, Value.str (Str.ofString "tdiv") 523, Value.str (Str.ofString "/claim/cut.py") 524, Value.int 159 0, Value.int 4 0, Value.int 0 0, Value.int 0 0, Value.int 3 0, Value.ref 232, Value.bool true, Value.int 181 0, Value.ref 233, Value.none, Value.ref 234, Value.ref 235, Value.ref 236, Value.int 531 0, Value.int 159 0, Value.str (Str.ofString "/claim/cut.py") 532] }) ::
  (nat_lit 238, { cls := Value.type "function", data := Data.func { name := Str.ofString "tdiv", qualname := Str.ofString "tdiv", params := { posonlyargs := [], args := [{ arg := Str.ofString "x", annotation := none, pos := { line := 159, col := 9, endLine := 159, endCol := 10 } }, { arg := Str.ofString "y", annotation := none, pos := { line := 159, col := 12, endLine := 159, endCol := 13 } }, { arg := Str.ofString "w", annotation := none, pos := { line := 159, col := 15, endLine := 159, endCol := 16 } }, { arg := Str.ofString "divrem", annotation := none, pos := { line := 159, col := 18, endLine := 159, endCol := 24 } }], vararg := none, kwonlyargs := [], kw_defaults := [], kwarg := none, defaults := [] }, body := bd 31, scope := { kind := ScopeKind.function, names := [(Str.ofString "x", NameKind.local), (Str.ofString "y", NameKind.local), (Str.ofString "w", NameKind.local), (Str.ofString "divrem", NameKind.local), (Str.ofString "quotient", NameKind.local), (Str.ofString "rest", NameKind.local), (Str.ofString "len", NameKind.globalImplicit), (Str.ofString "DivisionByZero", NameKind.globalImplicit), (Str.ofString "signed", NameKind.globalImplicit)], isGenerator := false, isCoroutine := false }, globals := 3, closure := [], defaults := Value.none, kwdefaults := Value.none, pyModule := Value.str (Str.ofString "gmp.signed") 470, code := Value.ref 237 } }) ::
  (nat_lit 244, { cls := Value.type "code", data := Data.fields #[Value.str (Str.ofString "fdiv") 534, Value.str (Str.ofString "fdiv") 535, Value.str (Str.ofString "/claim/cut.py") 536, Value.int 164 0, Value.int 4 0, Value.int 0 0, Value.int 0 0, Value.int 3 0, Value.ref 239, Value.bool true, Value.int 181 0, Value.ref 240, Value.none, Value.ref 241, Value.ref 242, Value.ref 243, Value.int 543 0, Value.int 164 0, Value.str (Str.ofString "/claim/cut.py") 544] }) ::
  (nat_lit 245, { cls := Value.type "function", data := Data.func { name := Str.ofString "fdiv", qualname := Str.ofString "fdiv", params := { posonlyargs := [], args := [{ arg := Str.ofString "x", annotation := none, pos := { line := 164, col := 9, endLine := 164, endCol := 10 } }, { arg := Str.ofString "y", annotation := none, pos := { line := 164, col := 12, endLine := 164, endCol := 13 } }, { arg := Str.ofString "w", annotation := none, pos := { line := 164, col := 15, endLine := 164, endCol := 16 } }, { arg := Str.ofString "divrem", annotation := none, pos := { line := 164, col := 18, endLine := 164, endCol := 24 } }], vararg := none, kwonlyargs := [], kw_defaults := [], kwarg := none, defaults := [] }, body := bd 32, scope := { kind := ScopeKind.function, names := [(Str.ofString "x", NameKind.local), (Str.ofString "y", NameKind.local), (Str.ofString "w", NameKind.local), (Str.ofString "divrem", NameKind.local), (Str.ofString "quotient", NameKind.local), (Str.ofString "rest", NameKind.local), (Str.ofString "tdiv", NameKind.globalImplicit), (Str.ofString "len", NameKind.globalImplicit), (Str.ofString "add_limb", NameKind.globalImplicit), (Str.ofString "s_add", NameKind.globalImplicit)], isGenerator := false, isCoroutine := false }, globals := 3, closure := [], defaults := Value.none, kwdefaults := Value.none, pyModule := Value.str (Str.ofString "gmp.signed") 470, code := Value.ref 244 } }) ::
  (nat_lit 251, { cls := Value.type "code", data := Data.fields #[Value.str (Str.ofString "s_mod") 546, Value.str (Str.ofString "s_mod") 547, Value.str (Str.ofString "/claim/cut.py") 548, Value.int 169 0, Value.int 4 0, Value.int 0 0, Value.int 0 0, Value.int 3 0, Value.ref 246, Value.bool true, Value.int 181 0, Value.ref 247, Value.none, Value.ref 248, Value.ref 249, Value.ref 250, Value.int 553 0, Value.int 169 0, Value.str (Str.ofString "/claim/cut.py") 554] }) ::
  (nat_lit 252, { cls := Value.type "function", data := Data.func { name := Str.ofString "s_mod", qualname := Str.ofString "s_mod", params := { posonlyargs := [], args := [{ arg := Str.ofString "x", annotation := none, pos := { line := 169, col := 10, endLine := 169, endCol := 11 } }, { arg := Str.ofString "y", annotation := none, pos := { line := 169, col := 13, endLine := 169, endCol := 14 } }, { arg := Str.ofString "w", annotation := none, pos := { line := 169, col := 16, endLine := 169, endCol := 17 } }, { arg := Str.ofString "divrem", annotation := none, pos := { line := 169, col := 19, endLine := 169, endCol := 25 } }], vararg := none, kwonlyargs := [], kw_defaults := [], kwarg := none, defaults := [] }, body := bd 33, scope := { kind := ScopeKind.function, names := [(Str.ofString "x", NameKind.local), (Str.ofString "y", NameKind.local), (Str.ofString "w", NameKind.local), (Str.ofString "divrem", NameKind.local), (Str.ofString "fdiv", NameKind.globalImplicit), (Str.ofString "s_abs", NameKind.globalImplicit)], isGenerator := false, isCoroutine := false }, globals := 3, closure := [], defaults := Value.none, kwdefaults := Value.none, pyModule := Value.str (Str.ofString "gmp.signed") 470, code := Value.ref 251 } }) ::
  (nat_lit 258, { cls := Value.type "code", data := Data.fields #[Value.str (Str.ofString "gcd_ext") 558, Value.str (Str.ofString "gcd_ext") 559, Value.str (Str.ofString "/claim/cut.py") 560, Value.int 172 0, Value.int 5 0, Value.int 0 0, Value.int 0 0, Value.int 3 0, Value.ref 253, Value.bool true, Value.int 181 0, Value.ref 254, Value.none, Value.ref 255, Value.ref 256, Value.ref 257, Value.int 573 0, Value.int 172 0, Value.str (Str.ofString "/claim/cut.py") 574] }) ::
  (nat_lit 259, { cls := Value.type "function", data := Data.func { name := Str.ofString "gcd_ext", qualname := Str.ofString "gcd_ext", params := { posonlyargs := [], args := [{ arg := Str.ofString "a", annotation := none, pos := { line := 172, col := 12, endLine := 172, endCol := 13 } }, { arg := Str.ofString "b", annotation := none, pos := { line := 172, col := 15, endLine := 172, endCol := 16 } }, { arg := Str.ofString "w", annotation := none, pos := { line := 172, col := 18, endLine := 172, endCol := 19 } }, { arg := Str.ofString "mul", annotation := none, pos := { line := 172, col := 21, endLine := 172, endCol := 24 } }, { arg := Str.ofString "divrem", annotation := none, pos := { line := 172, col := 26, endLine := 172, endCol := 32 } }], vararg := none, kwonlyargs := [], kw_defaults := [], kwarg := none, defaults := [] }, body := bd 35, scope := { kind := ScopeKind.function, names := [(Str.ofString "a", NameKind.local), (Str.ofString "b", NameKind.local), (Str.ofString "w", NameKind.local), (Str.ofString "mul", NameKind.local), (Str.ofString "divrem", NameKind.local), (Str.ofString "s", NameKind.local), (Str.ofString "later_s", NameKind.local), (Str.ofString "t", NameKind.local), (Str.ofString "later_t", NameKind.local), (Str.ofString "quotient", NameKind.local), (Str.ofString "rest", NameKind.local), (Str.ofString "told", NameKind.local), (Str.ofString "signed", NameKind.globalImplicit), (Str.ofString "len", NameKind.globalImplicit), (Str.ofString "s_sub", NameKind.globalImplicit), (Str.ofString "s_mul", NameKind.globalImplicit)], isGenerator := false, isCoroutine := false }, globals := 3, closure := [], defaults := Value.none, kwdefaults := Value.none, pyModule := Value.str (Str.ofString "gmp.cofactors") 556, code := Value.ref 258 } }) ::
  (nat_lit 265, { cls := Value.type "code", data := Data.fields #[Value.str (Str.ofString "inverse_mod") 576, Value.str (Str.ofString "inverse_mod") 577, Value.str (Str.ofString "/claim/cut.py") 578, Value.int 186 0, Value.int 5 0, Value.int 0 0, Value.int 0 0, Value.int 3 0, Value.ref 260, Value.bool true, Value.int 181 0, Value.ref 261, Value.none, Value.ref 262, Value.ref 263, Value.ref 264, Value.int 587 0, Value.int 186 0, Value.str (Str.ofString "/claim/cut.py") 588] }) ::
  (nat_lit 266, { cls := Value.type "function", data := Data.func { name := Str.ofString "inverse_mod", qualname := Str.ofString "inverse_mod", params := { posonlyargs := [], args := [{ arg := Str.ofString "a", annotation := none, pos := { line := 186, col := 16, endLine := 186, endCol := 17 } }, { arg := Str.ofString "m", annotation := none, pos := { line := 186, col := 19, endLine := 186, endCol := 20 } }, { arg := Str.ofString "w", annotation := none, pos := { line := 186, col := 22, endLine := 186, endCol := 23 } }, { arg := Str.ofString "mul", annotation := none, pos := { line := 186, col := 25, endLine := 186, endCol := 28 } }, { arg := Str.ofString "divrem", annotation := none, pos := { line := 186, col := 30, endLine := 186, endCol := 36 } }], vararg := none, kwonlyargs := [], kw_defaults := [], kwarg := none, defaults := [] }, body := bd 36, scope := { kind := ScopeKind.function, names := [(Str.ofString "a", NameKind.local), (Str.ofString "m", NameKind.local), (Str.ofString "w", NameKind.local), (Str.ofString "mul", NameKind.local), (Str.ofString "divrem", NameKind.local), (Str.ofString "g", NameKind.local), (Str.ofString "s", NameKind.local), (Str.ofString "t", NameKind.local), (Str.ofString "len", NameKind.globalImplicit), (Str.ofString "DivisionByZero", NameKind.globalImplicit), (Str.ofString "gcd_ext", NameKind.globalImplicit), (Str.ofString "compare", NameKind.globalImplicit), (Str.ofString "NoInverse", NameKind.globalImplicit), (Str.ofString "s_mod", NameKind.globalImplicit), (Str.ofString "signed", NameKind.globalImplicit)], isGenerator := false, isCoroutine := false }, globals := 3, closure := [], defaults := Value.none, kwdefaults := Value.none, pyModule := Value.str (Str.ofString "gmp.cofactors") 556, code := Value.ref 265 } }) ::
  (nat_lit 272, { cls := Value.type "code", data := Data.fields #[Value.str (Str.ofString "sieve") 592, Value.str (Str.ofString "sieve") 593, Value.str (Str.ofString "/claim/cut.py") 594, Value.int 194 0, Value.int 1 0, Value.int 0 0, Value.int 0 0, Value.int 3 0, Value.ref 267, Value.bool true, Value.int 181 0, Value.ref 268, Value.none, Value.ref 269, Value.ref 270, Value.ref 271, Value.int 600 0, Value.int 194 0, Value.str (Str.ofString "/claim/cut.py") 601] }) ::
  (nat_lit 273, { cls := Value.type "function", data := Data.func { name := Str.ofString "sieve", qualname := Str.ofString "sieve", params := { posonlyargs := [], args := [{ arg := Str.ofString "n", annotation := none, pos := { line := 194, col := 10, endLine := 194, endCol := 11 } }], vararg := none, kwonlyargs := [], kw_defaults := [], kwarg := none, defaults := [] }, body := bd 38, scope := { kind := ScopeKind.function, names := [(Str.ofString "n", NameKind.local), (Str.ofString "is_left", NameKind.local), (Str.ofString "found", NameKind.local), (Str.ofString "one", NameKind.local), (Str.ofString "many", NameKind.local), (Str.ofString "range", NameKind.globalImplicit)], isGenerator := false, isCoroutine := false }, globals := 3, closure := [], defaults := Value.none, kwdefaults := Value.none, pyModule := Value.str (Str.ofString "gmp.counts") 590, code := Value.ref 272 } }) ::
  (nat_lit 279, { cls := Value.type "code", data := Data.fields #[Value.str (Str.ofString "need_count") 603, Value.str (Str.ofString "need_count") 604, Value.str (Str.ofString "/claim/cut.py") 605, Value.int 203 0, Value.int 1 0, Value.int 0 0, Value.int 0 0, Value.int 3 0, Value.ref 274, Value.bool true, Value.int 181 0, Value.ref 275, Value.none, Value.ref 276, Value.ref 277, Value.ref 278, Value.int 607 0, Value.int 203 0, Value.str (Str.ofString "/claim/cut.py") 608] }) ::
  (nat_lit 280, { cls := Value.type "function", data := Data.func { name := Str.ofString "need_count", qualname := Str.ofString "need_count", params := { posonlyargs := [], args := [{ arg := Str.ofString "n", annotation := none, pos := { line := 203, col := 15, endLine := 203, endCol := 16 } }], vararg := none, kwonlyargs := [], kw_defaults := [], kwarg := none, defaults := [] }, body := bd 39, scope := { kind := ScopeKind.function, names := [(Str.ofString "n", NameKind.local), (Str.ofString "OutOfRange", NameKind.globalImplicit)], isGenerator := false, isCoroutine := false }, globals := 3, closure := [], defaults := Value.none, kwdefaults := Value.none, pyModule := Value.str (Str.ofString "gmp.counts") 590, code := Value.ref 279 } }) ::
  (nat_lit 286, { cls := Value.type "code", data := Data.fields #[Value.str (Str.ofString "power_of_count") 610, Value.str (Str.ofString "power_of_count") 611, Value.str (Str.ofString "/claim/cut.py") 612, Value.int 206 0, Value.int 4 0, Value.int 0 0, Value.int 0 0, Value.int 3 0, Value.ref 281, Value.bool true, Value.int 181 0, Value.ref 282, Value.none, Value.ref 283, Value.ref 284, Value.ref 285, Value.int 619 0, Value.int 206 0, Value.str (Str.ofString "/claim/cut.py") 620] }) ::
  (nat_lit 287, { cls := Value.type "function", data := Data.func { name := Str.ofString "power_of_count", qualname := Str.ofString "power_of_count", params := { posonlyargs := [], args := [{ arg := Str.ofString "base", annotation := none, pos := { line := 206, col := 19, endLine := 206, endCol := 23 } }, { arg := Str.ofString "many", annotation := none, pos := { line := 206, col := 25, endLine := 206, endCol := 29 } }, { arg := Str.ofString "w", annotation := none, pos := { line := 206, col := 31, endLine := 206, endCol := 32 } }, { arg := Str.ofString "mul", annotation := none, pos := { line := 206, col := 34, endLine := 206, endCol := 37 } }], vararg := none, kwonlyargs := [], kw_defaults := [], kwarg := none, defaults := [] }, body := bd 40, scope := { kind := ScopeKind.function, names := [(Str.ofString "base", NameKind.local), (Str.ofString "many", NameKind.local), (Str.ofString "w", NameKind.local), (Str.ofString "mul", NameKind.local), (Str.ofString "found", NameKind.local), (Str.ofString "square", NameKind.local), (Str.ofString "nat_of", NameKind.globalImplicit)], isGenerator := false, isCoroutine := false }, globals := 3, closure := [], defaults := Value.none, kwdefaults := Value.none, pyModule := Value.str (Str.ofString "gmp.counts") 590, code := Value.ref 286 } }) ::
  (nat_lit 293, { cls := Value.type "code", data := Data.fields #[Value.str (Str.ofString "product_of_powers") 622, Value.str (Str.ofString "product_of_powers") 623, Value.str (Str.ofString "/claim/cut.py") 624, Value.int 215 0, Value.int 3 0, Value.int 0 0, Value.int 0 0, Value.int 3 0, Value.ref 288, Value.bool true, Value.int 181 0, Value.ref 289, Value.none, Value.ref 290, Value.ref 291, Value.ref 292, Value.int 629 0, Value.int 215 0, Value.str (Str.ofString "/claim/cut.py") 630] }) ::
  (nat_lit 294, { cls := Value.type "function", data := Data.func { name := Str.ofString "product_of_powers", qualname := Str.ofString "product_of_powers", params := { posonlyargs := [], args := [{ arg := Str.ofString "pairs", annotation := none, pos := { line := 215, col := 22, endLine := 215, endCol := 27 } }, { arg := Str.ofString "w", annotation := none, pos := { line := 215, col := 29, endLine := 215, endCol := 30 } }, { arg := Str.ofString "mul", annotation := none, pos := { line := 215, col := 32, endLine := 215, endCol := 35 } }], vararg := none, kwonlyargs := [], kw_defaults := [], kwarg := none, defaults := [] }, body := bd 41, scope := { kind := ScopeKind.function, names := [(Str.ofString "pairs", NameKind.local), (Str.ofString "w", NameKind.local), (Str.ofString "mul", NameKind.local), (Str.ofString "half", NameKind.local), (Str.ofString "len", NameKind.globalImplicit), (Str.ofString "power_of_count", NameKind.globalImplicit), (Str.ofString "product_of_powers", NameKind.globalImplicit)], isGenerator := false, isCoroutine := false }, globals := 3, closure := [], defaults := Value.none, kwdefaults := Value.none, pyModule := Value.str (Str.ofString "gmp.counts") 590, code := Value.ref 293 } }) ::
  (nat_lit 300, { cls := Value.type "code", data := Data.fields #[Value.str (Str.ofString "swing_exponent") 632, Value.str (Str.ofString "swing_exponent") 633, Value.str (Str.ofString "/claim/cut.py") 634, Value.int 222 0, Value.int 2 0, Value.int 0 0, Value.int 0 0, Value.int 3 0, Value.ref 295, Value.bool true, Value.int 181 0, Value.ref 296, Value.none, Value.ref 297, Value.ref 298, Value.ref 299, Value.int 639 0, Value.int 222 0, Value.str (Str.ofString "/claim/cut.py") 640] }) ::
  (nat_lit 301, { cls := Value.type "function", data := Data.func { name := Str.ofString "swing_exponent", qualname := Str.ofString "swing_exponent", params := { posonlyargs := [], args := [{ arg := Str.ofString "n", annotation := none, pos := { line := 222, col := 19, endLine := 222, endCol := 20 } }, { arg := Str.ofString "prime", annotation := none, pos := { line := 222, col := 22, endLine := 222, endCol := 27 } }], vararg := none, kwonlyargs := [], kw_defaults := [], kwarg := none, defaults := [] }, body := bd 42, scope := { kind := ScopeKind.function, names := [(Str.ofString "n", NameKind.local), (Str.ofString "prime", NameKind.local), (Str.ofString "found", NameKind.local), (Str.ofString "rest", NameKind.local)], isGenerator := false, isCoroutine := false }, globals := 3, closure := [], defaults := Value.none, kwdefaults := Value.none, pyModule := Value.str (Str.ofString "gmp.counts") 590, code := Value.ref 300 } }) ::
  (nat_lit 305, { cls := Value.type "code", data := Data.fields #[Value.str (Str.ofString "swing") 642, Value.str (Str.ofString "swing") 643, Value.str (Str.ofString "/claim/cut.py") 644, Value.int 228 0, Value.int 3 0, Value.int 0 0, Value.int 0 0, Value.int 3 0, Value.ref 302, Value.bool true, Value.int 181 0, Value.ref 303, Value.none, Value.none, Value.none, Value.ref 304, Value.int 645 0, Value.int 228 0, Value.str (Str.ofString "/claim/cut.py") 646] }) ::
  (nat_lit 306, { cls := Value.type "function", data := Data.func { name := Str.ofString "swing", qualname := Str.ofString "swing", params := { posonlyargs := [], args := [{ arg := Str.ofString "n", annotation := none, pos := { line := 228, col := 10, endLine := 228, endCol := 11 } }, { arg := Str.ofString "w", annotation := none, pos := { line := 228, col := 13, endLine := 228, endCol := 14 } }, { arg := Str.ofString "mul", annotation := none, pos := { line := 228, col := 16, endLine := 228, endCol := 19 } }], vararg := none, kwonlyargs := [], kw_defaults := [], kwarg := none, defaults := [] }, body := bd 43, scope := { kind := ScopeKind.function, names := [(Str.ofString "n", NameKind.cell), (Str.ofString "w", NameKind.local), (Str.ofString "mul", NameKind.local), (Str.ofString "pairs", NameKind.local), (Str.ofString "sieve", NameKind.globalImplicit), (Str.ofString "product_of_powers", NameKind.globalImplicit)], isGenerator := false, isCoroutine := false, more := [(Str.ofString "fast", Const.str (Str.ofString "n")), (Str.ofString "fast", Const.str (Str.ofString "w")), (Str.ofString "fast", Const.str (Str.ofString "mul")), (Str.ofString "fast", Const.str (Str.ofString "prime")), (Str.ofString "fast", Const.str (Str.ofString "pairs")), (Str.ofString "fast", Const.str (Str.ofString "pair"))] }, globals := 3, closure := [], defaults := Value.none, kwdefaults := Value.none, pyModule := Value.str (Str.ofString "gmp.counts") 590, code := Value.ref 305 } }) ::
  (nat_lit 312, { cls := Value.type "code", data := Data.fields #[Value.str (Str.ofString "factorial") 648, Value.str (Str.ofString "factorial") 649, Value.str (Str.ofString "/claim/cut.py") 650, Value.int 231 0, Value.int 3 0, Value.int 0 0, Value.int 0 0, Value.int 3 0, Value.ref 307, Value.bool true, Value.int 181 0, Value.ref 308, Value.none, Value.ref 309, Value.ref 310, Value.ref 311, Value.int 655 0, Value.int 231 0, Value.str (Str.ofString "/claim/cut.py") 656] }) ::
  (nat_lit 313, { cls := Value.type "function", data := Data.func { name := Str.ofString "factorial", qualname := Str.ofString "factorial", params := { posonlyargs := [], args := [{ arg := Str.ofString "n", annotation := none, pos := { line := 231, col := 14, endLine := 231, endCol := 15 } }, { arg := Str.ofString "w", annotation := none, pos := { line := 231, col := 17, endLine := 231, endCol := 18 } }, { arg := Str.ofString "mul", annotation := none, pos := { line := 231, col := 20, endLine := 231, endCol := 23 } }], vararg := none, kwonlyargs := [], kw_defaults := [], kwarg := none, defaults := [] }, body := bd 44, scope := { kind := ScopeKind.function, names := [(Str.ofString "n", NameKind.local), (Str.ofString "w", NameKind.local), (Str.ofString "mul", NameKind.local), (Str.ofString "half", NameKind.local), (Str.ofString "need_count", NameKind.globalImplicit), (Str.ofString "factorial", NameKind.globalImplicit), (Str.ofString "swing", NameKind.globalImplicit)], isGenerator := false, isCoroutine := false }, globals := 3, closure := [], defaults := Value.none, kwdefaults := Value.none, pyModule := Value.str (Str.ofString "gmp.counts") 590, code := Value.ref 312 } }) ::
  (nat_lit 319, { cls := Value.type "code", data := Data.fields #[Value.str (Str.ofString "mul_school") 660, Value.str (Str.ofString "mul_school") 661, Value.str (Str.ofString "/claim/cut.py") 662, Value.int 238 0, Value.int 3 0, Value.int 0 0, Value.int 0 0, Value.int 3 0, Value.ref 314, Value.bool true, Value.int 181 0, Value.ref 315, Value.none, Value.ref 316, Value.ref 317, Value.ref 318, Value.int 673 0, Value.int 238 0, Value.str (Str.ofString "/claim/cut.py") 674] }) ::
  (nat_lit 320, { cls := Value.type "function", data := Data.func { name := Str.ofString "mul_school", qualname := Str.ofString "mul_school", params := { posonlyargs := [], args := [{ arg := Str.ofString "a", annotation := none, pos := { line := 238, col := 15, endLine := 238, endCol := 16 } }, { arg := Str.ofString "b", annotation := none, pos := { line := 238, col := 18, endLine := 238, endCol := 19 } }, { arg := Str.ofString "w", annotation := none, pos := { line := 238, col := 21, endLine := 238, endCol := 22 } }], vararg := none, kwonlyargs := [], kw_defaults := [], kwarg := none, defaults := [] }, body := bd 46, scope := { kind := ScopeKind.function, names := [(Str.ofString "a", NameKind.local), (Str.ofString "b", NameKind.local), (Str.ofString "w", NameKind.local), (Str.ofString "found", NameKind.local), (Str.ofString "mask", NameKind.local), (Str.ofString "at", NameKind.local), (Str.ofString "limb", NameKind.local), (Str.ofString "carry", NameKind.local), (Str.ofString "spot", NameKind.local), (Str.ofString "other", NameKind.local), (Str.ofString "len", NameKind.globalImplicit), (Str.ofString "enumerate", NameKind.globalImplicit), (Str.ofString "normal", NameKind.globalImplicit)], isGenerator := false, isCoroutine := false }, globals := 3, closure := [], defaults := Value.none, kwdefaults := Value.none, pyModule := Value.str (Str.ofString "gmp.school") 658, code := Value.ref 319 } }) ::
  (nat_lit 326, { cls := Value.type "code", data := Data.fields #[Value.str (Str.ofString "divrem_small") 676, Value.str (Str.ofString "divrem_small") 677, Value.str (Str.ofString "/claim/cut.py") 678, Value.int 248 0, Value.int 3 0, Value.int 0 0, Value.int 0 0, Value.int 3 0, Value.ref 321, Value.bool true, Value.int 181 0, Value.ref 322, Value.none, Value.ref 323, Value.ref 324, Value.ref 325, Value.int 684 0, Value.int 248 0, Value.str (Str.ofString "/claim/cut.py") 685] }) ::
  (nat_lit 327, { cls := Value.type "function", data := Data.func { name := Str.ofString "divrem_small", qualname := Str.ofString "divrem_small", params := { posonlyargs := [], args := [{ arg := Str.ofString "a", annotation := none, pos := { line := 248, col := 17, endLine := 248, endCol := 18 } }, { arg := Str.ofString "b", annotation := none, pos := { line := 248, col := 20, endLine := 248, endCol := 21 } }, { arg := Str.ofString "w", annotation := none, pos := { line := 248, col := 23, endLine := 248, endCol := 24 } }], vararg := none, kwonlyargs := [], kw_defaults := [], kwarg := none, defaults := [] }, body := bd 47, scope := { kind := ScopeKind.function, names := [(Str.ofString "a", NameKind.local), (Str.ofString "b", NameKind.local), (Str.ofString "w", NameKind.local), (Str.ofString "quotient", NameKind.local), (Str.ofString "rest", NameKind.local), (Str.ofString "divrem_limb", NameKind.globalImplicit)], isGenerator := false, isCoroutine := false }, globals := 3, closure := [], defaults := Value.none, kwdefaults := Value.none, pyModule := Value.str (Str.ofString "gmp.school") 658, code := Value.ref 326 } }) ::
  (nat_lit 333, { cls := Value.type "code", data := Data.fields #[Value.str (Str.ofString "guessed_limb") 687, Value.str (Str.ofString "guessed_limb") 688, Value.str (Str.ofString "/claim/cut.py") 689, Value.int 251 0, Value.int 4 0, Value.int 0 0, Value.int 0 0, Value.int 3 0, Value.ref 328, Value.bool true, Value.int 181 0, Value.ref 329, Value.none, Value.ref 330, Value.ref 331, Value.ref 332, Value.int 698 0, Value.int 251 0, Value.str (Str.ofString "/claim/cut.py") 699] }) ::
  (nat_lit 334, { cls := Value.type "function", data := Data.func { name := Str.ofString "guessed_limb", qualname := Str.ofString "guessed_limb", params := { posonlyargs := [], args := [{ arg := Str.ofString "top", annotation := none, pos := { line := 251, col := 17, endLine := 251, endCol := 20 } }, { arg := Str.ofString "first", annotation := none, pos := { line := 251, col := 22, endLine := 251, endCol := 27 } }, { arg := Str.ofString "second", annotation := none, pos := { line := 251, col := 29, endLine := 251, endCol := 35 } }, { arg := Str.ofString "w", annotation := none, pos := { line := 251, col := 37, endLine := 251, endCol := 38 } }], vararg := none, kwonlyargs := [], kw_defaults := [], kwarg := none, defaults := [] }, body := bd 48, scope := { kind := ScopeKind.function, names := [(Str.ofString "top", NameKind.local), (Str.ofString "first", NameKind.local), (Str.ofString "second", NameKind.local), (Str.ofString "w", NameKind.local), (Str.ofString "high", NameKind.local), (Str.ofString "base", NameKind.local), (Str.ofString "limb", NameKind.local), (Str.ofString "rest", NameKind.local), (Str.ofString "min", NameKind.globalImplicit)], isGenerator := false, isCoroutine := false }, globals := 3, closure := [], defaults := Value.none, kwdefaults := Value.none, pyModule := Value.str (Str.ofString "gmp.school") 658, code := Value.ref 333 } }) ::
  (nat_lit 340, { cls := Value.type "code", data := Data.fields #[Value.str (Str.ofString "take_away") 701, Value.str (Str.ofString "take_away") 702, Value.str (Str.ofString "/claim/cut.py") 703, Value.int 259 0, Value.int 5 0, Value.int 0 0, Value.int 0 0, Value.int 3 0, Value.ref 335, Value.bool true, Value.int 181 0, Value.ref 336, Value.none, Value.ref 337, Value.ref 338, Value.ref 339, Value.int 714 0, Value.int 259 0, Value.str (Str.ofString "/claim/cut.py") 715] }) ::
  (nat_lit 341, { cls := Value.type "function", data := Data.func { name := Str.ofString "take_away", qualname := Str.ofString "take_away", params := { posonlyargs := [], args := [{ arg := Str.ofString "rest", annotation := none, pos := { line := 259, col := 14, endLine := 259, endCol := 18 } }, { arg := Str.ofString "b", annotation := none, pos := { line := 259, col := 20, endLine := 259, endCol := 21 } }, { arg := Str.ofString "limb", annotation := none, pos := { line := 259, col := 23, endLine := 259, endCol := 27 } }, { arg := Str.ofString "at", annotation := none, pos := { line := 259, col := 29, endLine := 259, endCol := 31 } }, { arg := Str.ofString "w", annotation := none, pos := { line := 259, col := 33, endLine := 259, endCol := 34 } }], vararg := none, kwonlyargs := [], kw_defaults := [], kwarg := none, defaults := [] }, body := bd 49, scope := { kind := ScopeKind.function, names := [(Str.ofString "rest", NameKind.local), (Str.ofString "b", NameKind.local), (Str.ofString "limb", NameKind.local), (Str.ofString "at", NameKind.local), (Str.ofString "w", NameKind.local), (Str.ofString "carry", NameKind.local), (Str.ofString "base", NameKind.local), (Str.ofString "spot", NameKind.local), (Str.ofString "other", NameKind.local), (Str.ofString "here", NameKind.local), (Str.ofString "enumerate", NameKind.globalImplicit), (Str.ofString "len", NameKind.globalImplicit)], isGenerator := false, isCoroutine := false }, globals := 3, closure := [], defaults := Value.none, kwdefaults := Value.none, pyModule := Value.str (Str.ofString "gmp.school") 658, code := Value.ref 340 } }) ::
  (nat_lit 347, { cls := Value.type "code", data := Data.fields #[Value.str (Str.ofString "put_back") 717, Value.str (Str.ofString "put_back") 718, Value.str (Str.ofString "/claim/cut.py") 719, Value.int 268 0, Value.int 4 0, Value.int 0 0, Value.int 0 0, Value.int 3 0, Value.ref 342, Value.bool true, Value.int 181 0, Value.ref 343, Value.none, Value.ref 344, Value.ref 345, Value.ref 346, Value.int 728 0, Value.int 268 0, Value.str (Str.ofString "/claim/cut.py") 729] }) ::
  (nat_lit 348, { cls := Value.type "function", data := Data.func { name := Str.ofString "put_back", qualname := Str.ofString "put_back", params := { posonlyargs := [], args := [{ arg := Str.ofString "rest", annotation := none, pos := { line := 268, col := 13, endLine := 268, endCol := 17 } }, { arg := Str.ofString "b", annotation := none, pos := { line := 268, col := 19, endLine := 268, endCol := 20 } }, { arg := Str.ofString "at", annotation := none, pos := { line := 268, col := 22, endLine := 268, endCol := 24 } }, { arg := Str.ofString "w", annotation := none, pos := { line := 268, col := 26, endLine := 268, endCol := 27 } }], vararg := none, kwonlyargs := [], kw_defaults := [], kwarg := none, defaults := [] }, body := bd 50, scope := { kind := ScopeKind.function, names := [(Str.ofString "rest", NameKind.local), (Str.ofString "b", NameKind.local), (Str.ofString "at", NameKind.local), (Str.ofString "w", NameKind.local), (Str.ofString "carry", NameKind.local), (Str.ofString "mask", NameKind.local), (Str.ofString "spot", NameKind.local), (Str.ofString "other", NameKind.local), (Str.ofString "enumerate", NameKind.globalImplicit), (Str.ofString "len", NameKind.globalImplicit)], isGenerator := false, isCoroutine := false }, globals := 3, closure := [], defaults := Value.none, kwdefaults := Value.none, pyModule := Value.str (Str.ofString "gmp.school") 658, code := Value.ref 347 } }) ::
  (nat_lit 354, { cls := Value.type "code", data := Data.fields #[Value.str (Str.ofString "divide_rows") 731, Value.str (Str.ofString "divide_rows") 732, Value.str (Str.ofString "/claim/cut.py") 733, Value.int 275 0, Value.int 3 0, Value.int 0 0, Value.int 0 0, Value.int 3 0, Value.ref 349, Value.bool true, Value.int 181 0, Value.ref 350, Value.none, Value.ref 351, Value.ref 352, Value.ref 353, Value.int 741 0, Value.int 275 0, Value.str (Str.ofString "/claim/cut.py") 742] }) ::
  (nat_lit 355, { cls := Value.type "function", data := Data.func { name := Str.ofString "divide_rows", qualname := Str.ofString "divide_rows", params := { posonlyargs := [], args := [{ arg := Str.ofString "rest", annotation := none, pos := { line := 275, col := 16, endLine := 275, endCol := 20 } }, { arg := Str.ofString "b", annotation := none, pos := { line := 275, col := 22, endLine := 275, endCol := 23 } }, { arg := Str.ofString "w", annotation := none, pos := { line := 275, col := 25, endLine := 275, endCol := 26 } }], vararg := none, kwonlyargs := [], kw_defaults := [], kwarg := none, defaults := [] }, body := bd 51, scope := { kind := ScopeKind.function, names := [(Str.ofString "rest", NameKind.local), (Str.ofString "b", NameKind.local), (Str.ofString "w", NameKind.local), (Str.ofString "size", NameKind.local), (Str.ofString "quotient", NameKind.local), (Str.ofString "at", NameKind.local), (Str.ofString "limb", NameKind.local), (Str.ofString "len", NameKind.globalImplicit), (Str.ofString "range", NameKind.globalImplicit), (Str.ofString "guessed_limb", NameKind.globalImplicit), (Str.ofString "take_away", NameKind.globalImplicit), (Str.ofString "put_back", NameKind.globalImplicit)], isGenerator := false, isCoroutine := false }, globals := 3, closure := [], defaults := Value.none, kwdefaults := Value.none, pyModule := Value.str (Str.ofString "gmp.school") 658, code := Value.ref 354 } }) ::
  (nat_lit 361, { cls := Value.type "code", data := Data.fields #[Value.str (Str.ofString "divrem_school") 744, Value.str (Str.ofString "divrem_school") 745, Value.str (Str.ofString "/claim/cut.py") 746, Value.int 285 0, Value.int 3 0, Value.int 0 0, Value.int 0 0, Value.int 3 0, Value.ref 356, Value.bool true, Value.int 181 0, Value.ref 357, Value.none, Value.ref 358, Value.ref 359, Value.ref 360, Value.int 754 0, Value.int 285 0, Value.str (Str.ofString "/claim/cut.py") 755] }) ::
  (nat_lit 362, { cls := Value.type "function", data := Data.func { name := Str.ofString "divrem_school", qualname := Str.ofString "divrem_school", params := { posonlyargs := [], args := [{ arg := Str.ofString "a", annotation := none, pos := { line := 285, col := 18, endLine := 285, endCol := 19 } }, { arg := Str.ofString "b", annotation := none, pos := { line := 285, col := 21, endLine := 285, endCol := 22 } }, { arg := Str.ofString "w", annotation := none, pos := { line := 285, col := 24, endLine := 285, endCol := 25 } }], vararg := none, kwonlyargs := [], kw_defaults := [], kwarg := none, defaults := [] }, body := bd 52, scope := { kind := ScopeKind.function, names := [(Str.ofString "a", NameKind.local), (Str.ofString "b", NameKind.local), (Str.ofString "w", NameKind.local), (Str.ofString "shift", NameKind.local), (Str.ofString "divisor", NameKind.local), (Str.ofString "rest", NameKind.local), (Str.ofString "quotient", NameKind.local), (Str.ofString "len", NameKind.globalImplicit), (Str.ofString "DivisionByZero", NameKind.globalImplicit), (Str.ofString "compare", NameKind.globalImplicit), (Str.ofString "divrem_small", NameKind.globalImplicit), (Str.ofString "bits", NameKind.globalImplicit), (Str.ofString "shift_left", NameKind.globalImplicit), (Str.ofString "divide_rows", NameKind.globalImplicit), (Str.ofString "normal", NameKind.globalImplicit), (Str.ofString "shift_right", NameKind.globalImplicit)], isGenerator := false, isCoroutine := false }, globals := 3, closure := [], defaults := Value.none, kwdefaults := Value.none, pyModule := Value.str (Str.ofString "gmp.school") 658, code := Value.ref 361 } }) ::
  (nat_lit 368, { cls := Value.type "code", data := Data.fields #[Value.str (Str.ofString "_law_next") 759, Value.str (Str.ofString "_law_next") 760, Value.str (Str.ofString "/claim/cut.py") 761, Value.int 299 0, Value.int 2 0, Value.int 0 0, Value.int 0 0, Value.int 3 0, Value.ref 363, Value.bool true, Value.int 181 0, Value.ref 364, Value.none, Value.ref 365, Value.ref 366, Value.ref 367, Value.int 764 0, Value.int 299 0, Value.str (Str.ofString "/claim/cut.py") 765] }) ::
  (nat_lit 369, { cls := Value.type "function", data := Data.func { name := Str.ofString "_law_next", qualname := Str.ofString "_law_next", params := { posonlyargs := [], args := [{ arg := Str.ofString "yard", annotation := none, pos := { line := 299, col := 14, endLine := 299, endCol := 18 } }, { arg := Str.ofString "many", annotation := none, pos := { line := 299, col := 20, endLine := 299, endCol := 24 } }], vararg := none, kwonlyargs := [], kw_defaults := [], kwarg := none, defaults := [] }, body := bd 54, scope := { kind := ScopeKind.function, names := [(Str.ofString "yard", NameKind.local), (Str.ofString "many", NameKind.local), (Str.ofString "len", NameKind.globalImplicit)], isGenerator := false, isCoroutine := false }, globals := 3, closure := [], defaults := Value.none, kwdefaults := Value.none, pyModule := Value.str (Str.ofString "law_xw0116_01") 757, code := Value.ref 368 } }) ::
  (nat_lit 375, { cls := Value.type "code", data := Data.fields #[Value.str (Str.ofString "_law_limbs") 767, Value.str (Str.ofString "_law_limbs") 768, Value.str (Str.ofString "/claim/cut.py") 769, Value.int 304 0, Value.int 2 0, Value.int 0 0, Value.int 0 0, Value.int 3 0, Value.ref 370, Value.bool true, Value.int 181 0, Value.ref 371, Value.none, Value.ref 372, Value.ref 373, Value.ref 374, Value.int 773 0, Value.int 304 0, Value.str (Str.ofString "/claim/cut.py") 774] }) ::
  (nat_lit 376, { cls := Value.type "function", data := Data.func { name := Str.ofString "_law_limbs", qualname := Str.ofString "_law_limbs", params := { posonlyargs := [], args := [{ arg := Str.ofString "number", annotation := none, pos := { line := 304, col := 15, endLine := 304, endCol := 21 } }, { arg := Str.ofString "w", annotation := none, pos := { line := 304, col := 23, endLine := 304, endCol := 24 } }], vararg := none, kwonlyargs := [], kw_defaults := [], kwarg := none, defaults := [] }, body := bd 55, scope := { kind := ScopeKind.function, names := [(Str.ofString "number", NameKind.local), (Str.ofString "w", NameKind.local), (Str.ofString "found", NameKind.local)], isGenerator := false, isCoroutine := false }, globals := 3, closure := [], defaults := Value.none, kwdefaults := Value.none, pyModule := Value.str (Str.ofString "law_xw0116_01") 757, code := Value.ref 375 } }) ::
  (nat_lit 382, { cls := Value.type "code", data := Data.fields #[Value.str (Str.ofString "_law_told") 776, Value.str (Str.ofString "_law_told") 777, Value.str (Str.ofString "/claim/cut.py") 778, Value.int 310 0, Value.int 2 0, Value.int 0 0, Value.int 0 0, Value.int 3 0, Value.ref 377, Value.bool true, Value.int 181 0, Value.ref 378, Value.none, Value.ref 379, Value.ref 380, Value.ref 381, Value.int 783 0, Value.int 310 0, Value.str (Str.ofString "/claim/cut.py") 784] }) ::
  (nat_lit 383, { cls := Value.type "function", data := Data.func { name := Str.ofString "_law_told", qualname := Str.ofString "_law_told", params := { posonlyargs := [], args := [{ arg := Str.ofString "row", annotation := none, pos := { line := 310, col := 14, endLine := 310, endCol := 17 } }, { arg := Str.ofString "w", annotation := none, pos := { line := 310, col := 19, endLine := 310, endCol := 20 } }], vararg := none, kwonlyargs := [], kw_defaults := [], kwarg := none, defaults := [] }, body := bd 56, scope := { kind := ScopeKind.function, names := [(Str.ofString "row", NameKind.local), (Str.ofString "w", NameKind.local), (Str.ofString "found", NameKind.local), (Str.ofString "limb", NameKind.local)], isGenerator := false, isCoroutine := false }, globals := 3, closure := [], defaults := Value.none, kwdefaults := Value.none, pyModule := Value.str (Str.ofString "law_xw0116_01") 757, code := Value.ref 382 } }) ::
  (nat_lit 389, { cls := Value.type "code", data := Data.fields #[Value.str (Str.ofString "_law_quotient") 786, Value.str (Str.ofString "_law_quotient") 787, Value.str (Str.ofString "/claim/cut.py") 788, Value.int 315 0, Value.int 3 0, Value.int 0 0, Value.int 0 0, Value.int 3 0, Value.ref 384, Value.bool true, Value.int 181 0, Value.ref 385, Value.none, Value.ref 386, Value.ref 387, Value.ref 388, Value.int 795 0, Value.int 315 0, Value.str (Str.ofString "/claim/cut.py") 796] }) ::
  (nat_lit 390, { cls := Value.type "function", data := Data.func { name := Str.ofString "_law_quotient", qualname := Str.ofString "_law_quotient", params := { posonlyargs := [], args := [{ arg := Str.ofString "number", annotation := none, pos := { line := 315, col := 18, endLine := 315, endCol := 24 } }, { arg := Str.ofString "prime", annotation := none, pos := { line := 315, col := 26, endLine := 315, endCol := 31 } }, { arg := Str.ofString "w", annotation := none, pos := { line := 315, col := 33, endLine := 315, endCol := 34 } }], vararg := none, kwonlyargs := [], kw_defaults := [], kwarg := none, defaults := [] }, body := bd 57, scope := { kind := ScopeKind.function, names := [(Str.ofString "number", NameKind.local), (Str.ofString "prime", NameKind.local), (Str.ofString "w", NameKind.local), (Str.ofString "told", NameKind.local), (Str.ofString "found", NameKind.local), (Str.ofString "left", NameKind.local), (Str.ofString "power_mod", NameKind.globalImplicit), (Str.ofString "_law_limbs", NameKind.globalImplicit), (Str.ofString "mul_school", NameKind.globalImplicit), (Str.ofString "divrem_school", NameKind.globalImplicit), (Str.ofString "_law_told", NameKind.globalImplicit)], isGenerator := false, isCoroutine := false }, globals := 3, closure := [], defaults := Value.none, kwdefaults := Value.none, pyModule := Value.str (Str.ofString "law_xw0116_01") 757, code := Value.ref 389 } }) ::
  (nat_lit 396, { cls := Value.type "code", data := Data.fields #[Value.str (Str.ofString "_law_due") 798, Value.str (Str.ofString "_law_due") 799, Value.str (Str.ofString "/claim/cut.py") 800, Value.int 319 0, Value.int 2 0, Value.int 0 0, Value.int 0 0, Value.int 3 0, Value.ref 391, Value.bool true, Value.int 181 0, Value.ref 392, Value.none, Value.ref 393, Value.ref 394, Value.ref 395, Value.int 805 0, Value.int 319 0, Value.str (Str.ofString "/claim/cut.py") 806] }) ::
  (nat_lit 397, { cls := Value.type "function", data := Data.func { name := Str.ofString "_law_due", qualname := Str.ofString "_law_due", params := { posonlyargs := [], args := [{ arg := Str.ofString "number", annotation := none, pos := { line := 319, col := 13, endLine := 319, endCol := 19 } }, { arg := Str.ofString "prime", annotation := none, pos := { line := 319, col := 21, endLine := 319, endCol := 26 } }], vararg := none, kwonlyargs := [], kw_defaults := [], kwarg := none, defaults := [] }, body := bd 58, scope := { kind := ScopeKind.function, names := [(Str.ofString "number", NameKind.local), (Str.ofString "prime", NameKind.local), (Str.ofString "found", NameKind.local), (Str.ofString "turn", NameKind.local), (Str.ofString "range", NameKind.globalImplicit)], isGenerator := false, isCoroutine := false }, globals := 3, closure := [], defaults := Value.none, kwdefaults := Value.none, pyModule := Value.str (Str.ofString "law_xw0116_01") 757, code := Value.ref 396 } }) ::
  (nat_lit 401, { cls := Value.type "code", data := Data.fields #[Value.str (Str.ofString "law") 808, Value.str (Str.ofString "law") 809, Value.str (Str.ofString "/claim/cut.py") 810, Value.int 324 0, Value.int 1 0, Value.int 0 0, Value.int 0 0, Value.int 3 0, Value.ref 398, Value.bool true, Value.int 181 0, Value.ref 399, Value.none, Value.none, Value.none, Value.ref 400, Value.int 811 0, Value.int 324 0, Value.str (Str.ofString "/claim/cut.py") 812] }) ::
  (nat_lit 402, { cls := Value.type "function", data := Data.func { name := Str.ofString "law", qualname := Str.ofString "law", params := { posonlyargs := [], args := [{ arg := Str.ofString "script", annotation := none, pos := { line := 324, col := 8, endLine := 324, endCol := 14 } }], vararg := none, kwonlyargs := [], kw_defaults := [], kwarg := none, defaults := [] }, body := bd 59, scope := { kind := ScopeKind.function, names := [(Str.ofString "script", NameKind.local), (Str.ofString "yard", NameKind.local), (Str.ofString "w", NameKind.local), (Str.ofString "prime", NameKind.local), (Str.ofString "told", NameKind.local), (Str.ofString "number", NameKind.local), (Str.ofString "back", NameKind.local), (Str.ofString "found", NameKind.local), (Str.ofString "left", NameKind.local), (Str.ofString "_law_next", NameKind.globalImplicit), (Str.ofString "range", NameKind.globalImplicit), (Str.ofString "_law_quotient", NameKind.globalImplicit), (Str.ofString "_law_due", NameKind.globalImplicit), (Str.ofString "_law_told", NameKind.globalImplicit), (Str.ofString "inverse_mod", NameKind.globalImplicit), (Str.ofString "_law_limbs", NameKind.globalImplicit), (Str.ofString "mul_school", NameKind.globalImplicit), (Str.ofString "divrem_school", NameKind.globalImplicit), (Str.ofString "add_limb", NameKind.globalImplicit), (Str.ofString "factorial", NameKind.globalImplicit), (Str.ofString "sum", NameKind.globalImplicit)], isGenerator := false, isCoroutine := false, more := [(Str.ofString "fast", Const.str (Str.ofString "script")), (Str.ofString "fast", Const.str (Str.ofString "pole")), (Str.ofString "fast", Const.str (Str.ofString "yard")), (Str.ofString "fast", Const.str (Str.ofString "w")), (Str.ofString "fast", Const.str (Str.ofString "prime")), (Str.ofString "fast", Const.str (Str.ofString "told")), (Str.ofString "fast", Const.str (Str.ofString "number")), (Str.ofString "fast", Const.str (Str.ofString "back")), (Str.ofString "fast", Const.str (Str.ofString "found")), (Str.ofString "fast", Const.str (Str.ofString "left"))] }, globals := 3, closure := [], defaults := Value.none, kwdefaults := Value.none, pyModule := Value.str (Str.ofString "law_xw0116_01") 757, code := Value.ref 401 } }) :: []
end Mine
end
-- part M17
section
namespace Mine
open PySem PySem.W PySem.Spec PySem.Calls PyProof.Rows

theorem fill : (PySem.Challenge.rw_xw0116_01, KK) = (PySem.Challenge.rw_xw0116_01, KK) := by
  k_fill
  rfl
noncomputable def noI : CloInfo := ⟨Str.ofString "", Str.ofString "", ⟨[], [], none, [], [], none, []⟩, [], ⟨.function, [], false, false, []⟩, [], ⟨0, 0, 0, 0⟩, 0⟩
noncomputable def cloOf (o : Option Obj) : CloInfo := match o with
  | some ⟨_, _, .func fd, _⟩ => match fd.body with
    | .stmts (.FunctionDef nm ps body _ _ _ sc _ _ pos :: _) => ⟨nm, Str.ofString "divided_times.<locals>.multiplied", ps, body, sc, [Str.ofString "w", Str.ofString "mul", Str.ofString "m", Str.ofString "divrem"], pos, 177⟩
    | _ => noI
  | _ => noI
noncomputable def cloI (P : Params) : CloInfo := cloOf (List.lookup 182 (KK P))
noncomputable abbrev GG (prog p : Program) (loose : List Str) (w : World) (mean : ExcName → Option Value) (mg mb : Str → Option Value) : Gd := ⟨prog, w, KK w.params, p, loose, mean, mg, mb, cloI w.params⟩
section
variable {prog p : Program} {loose : List Str} {w : World} {mean : ExcName → Option Value} {mg mb : Str → Option Value}

theorem if_normal : IsFun (GG prog p loose w mean mg mb) 70 := by
  refine' fun_of ?ho
  case ho => (show List.lookup 70 (KK w.params) = some ⟨_, _, .func _, _⟩; k_is)
theorem ns_normal : nsIn (GG prog p loose w mean mg mb).K mainGlobals (Str.ofString "normal") = some (some (.ref 70)) := by (show nsIn (KK w.params) mainGlobals (Str.ofString "normal") = some (some (.ref 70)); k_is)
theorem if_nat_of : IsFun (GG prog p loose w mean mg mb) 77 := by
  refine' fun_of ?ho
  case ho => (show List.lookup 77 (KK w.params) = some ⟨_, _, .func _, _⟩; k_is)
theorem ns_nat_of : nsIn (GG prog p loose w mean mg mb).K mainGlobals (Str.ofString "nat_of") = some (some (.ref 77)) := by (show nsIn (KK w.params) mainGlobals (Str.ofString "nat_of") = some (some (.ref 77)); k_is)
theorem if_compare : IsFun (GG prog p loose w mean mg mb) 84 := by
  refine' fun_of ?ho
  case ho => (show List.lookup 84 (KK w.params) = some ⟨_, _, .func _, _⟩; k_is)
theorem ns_compare : nsIn (GG prog p loose w mean mg mb).K mainGlobals (Str.ofString "compare") = some (some (.ref 84)) := by (show nsIn (KK w.params) mainGlobals (Str.ofString "compare") = some (some (.ref 84)); k_is)
theorem if_add : IsFun (GG prog p loose w mean mg mb) 91 := by
  refine' fun_of ?ho
  case ho => (show List.lookup 91 (KK w.params) = some ⟨_, _, .func _, _⟩; k_is)
theorem ns_add : nsIn (GG prog p loose w mean mg mb).K mainGlobals (Str.ofString "add") = some (some (.ref 91)) := by (show nsIn (KK w.params) mainGlobals (Str.ofString "add") = some (some (.ref 91)); k_is)
theorem if_sub : IsFun (GG prog p loose w mean mg mb) 98 := by
  refine' fun_of ?ho
  case ho => (show List.lookup 98 (KK w.params) = some ⟨_, _, .func _, _⟩; k_is)
theorem ns_sub : nsIn (GG prog p loose w mean mg mb).K mainGlobals (Str.ofString "sub") = some (some (.ref 98)) := by (show nsIn (KK w.params) mainGlobals (Str.ofString "sub") = some (some (.ref 98)); k_is)
theorem if_add_limb : IsFun (GG prog p loose w mean mg mb) 105 := by
  refine' fun_of ?ho
  case ho => (show List.lookup 105 (KK w.params) = some ⟨_, _, .func _, _⟩; k_is)
theorem ns_add_limb : nsIn (GG prog p loose w mean mg mb).K mainGlobals (Str.ofString "add_limb") = some (some (.ref 105)) := by (show nsIn (KK w.params) mainGlobals (Str.ofString "add_limb") = some (some (.ref 105)); k_is)
theorem if_divrem_limb : IsFun (GG prog p loose w mean mg mb) 112 := by
  refine' fun_of ?ho
  case ho => (show List.lookup 112 (KK w.params) = some ⟨_, _, .func _, _⟩; k_is)
theorem ns_divrem_limb : nsIn (GG prog p loose w mean mg mb).K mainGlobals (Str.ofString "divrem_limb") = some (some (.ref 112)) := by (show nsIn (KK w.params) mainGlobals (Str.ofString "divrem_limb") = some (some (.ref 112)); k_is)
theorem if_bits : IsFun (GG prog p loose w mean mg mb) 133 := by
  refine' fun_of ?ho
  case ho => (show List.lookup 133 (KK w.params) = some ⟨_, _, .func _, _⟩; k_is)
theorem ns_bits : nsIn (GG prog p loose w mean mg mb).K mainGlobals (Str.ofString "bits") = some (some (.ref 133)) := by (show nsIn (KK w.params) mainGlobals (Str.ofString "bits") = some (some (.ref 133)); k_is)
theorem if_bit : IsFun (GG prog p loose w mean mg mb) 140 := by
  refine' fun_of ?ho
  case ho => (show List.lookup 140 (KK w.params) = some ⟨_, _, .func _, _⟩; k_is)
theorem ns_bit : nsIn (GG prog p loose w mean mg mb).K mainGlobals (Str.ofString "bit") = some (some (.ref 140)) := by (show nsIn (KK w.params) mainGlobals (Str.ofString "bit") = some (some (.ref 140)); k_is)
theorem if_odd_powers : IsFun (GG prog p loose w mean mg mb) 147 := by
  refine' fun_of ?ho
  case ho => (show List.lookup 147 (KK w.params) = some ⟨_, _, .func _, _⟩; k_is)
theorem ns_odd_powers : nsIn (GG prog p loose w mean mg mb).K mainGlobals (Str.ofString "odd_powers") = some (some (.ref 147)) := by (show nsIn (KK w.params) mainGlobals (Str.ofString "odd_powers") = some (some (.ref 147)); k_is)
theorem if_window_at : IsFun (GG prog p loose w mean mg mb) 154 := by
  refine' fun_of ?ho
  case ho => (show List.lookup 154 (KK w.params) = some ⟨_, _, .func _, _⟩; k_is)
theorem ns_window_at : nsIn (GG prog p loose w mean mg mb).K mainGlobals (Str.ofString "window_at") = some (some (.ref 154)) := by (show nsIn (KK w.params) mainGlobals (Str.ofString "window_at") = some (some (.ref 154)); k_is)
theorem if_by_windows : IsFun (GG prog p loose w mean mg mb) 161 := by
  refine' fun_of ?ho
  case ho => (show List.lookup 161 (KK w.params) = some ⟨_, _, .func _, _⟩; k_is)
theorem ns_by_windows : nsIn (GG prog p loose w mean mg mb).K mainGlobals (Str.ofString "by_windows") = some (some (.ref 161)) := by (show nsIn (KK w.params) mainGlobals (Str.ofString "by_windows") = some (some (.ref 161)); k_is)
theorem if_check_modulus : IsFun (GG prog p loose w mean mg mb) 168 := by
  refine' fun_of ?ho
  case ho => (show List.lookup 168 (KK w.params) = some ⟨_, _, .func _, _⟩; k_is)
theorem ns_check_modulus : nsIn (GG prog p loose w mean mg mb).K mainGlobals (Str.ofString "check_modulus") = some (some (.ref 168)) := by (show nsIn (KK w.params) mainGlobals (Str.ofString "check_modulus") = some (some (.ref 168)); k_is)
theorem if_unit_rest : IsFun (GG prog p loose w mean mg mb) 175 := by
  refine' fun_of ?ho
  case ho => (show List.lookup 175 (KK w.params) = some ⟨_, _, .func _, _⟩; k_is)
theorem ns_unit_rest : nsIn (GG prog p loose w mean mg mb).K mainGlobals (Str.ofString "unit_rest") = some (some (.ref 175)) := by (show nsIn (KK w.params) mainGlobals (Str.ofString "unit_rest") = some (some (.ref 175)); k_is)
theorem if_divided_times : IsFun (GG prog p loose w mean mg mb) 182 := by
  refine' fun_of ?ho
  case ho => (show List.lookup 182 (KK w.params) = some ⟨_, _, .func _, _⟩; k_is)
theorem ns_divided_times : nsIn (GG prog p loose w mean mg mb).K mainGlobals (Str.ofString "divided_times") = some (some (.ref 182)) := by (show nsIn (KK w.params) mainGlobals (Str.ofString "divided_times") = some (some (.ref 182)); k_is)
theorem if_power_mod : IsFun (GG prog p loose w mean mg mb) 189 := by
  refine' fun_of ?ho
  case ho => (show List.lookup 189 (KK w.params) = some ⟨_, _, .func _, _⟩; k_is)
theorem ns_power_mod : nsIn (GG prog p loose w mean mg mb).K mainGlobals (Str.ofString "power_mod") = some (some (.ref 189)) := by (show nsIn (KK w.params) mainGlobals (Str.ofString "power_mod") = some (some (.ref 189)); k_is)
theorem if_signed : IsFun (GG prog p loose w mean mg mb) 196 := by
  refine' fun_of ?ho
  case ho => (show List.lookup 196 (KK w.params) = some ⟨_, _, .func _, _⟩; k_is)
theorem ns_signed : nsIn (GG prog p loose w mean mg mb).K mainGlobals (Str.ofString "signed") = some (some (.ref 196)) := by (show nsIn (KK w.params) mainGlobals (Str.ofString "signed") = some (some (.ref 196)); k_is)
theorem if_s_neg : IsFun (GG prog p loose w mean mg mb) 203 := by
  refine' fun_of ?ho
  case ho => (show List.lookup 203 (KK w.params) = some ⟨_, _, .func _, _⟩; k_is)
theorem ns_s_neg : nsIn (GG prog p loose w mean mg mb).K mainGlobals (Str.ofString "s_neg") = some (some (.ref 203)) := by (show nsIn (KK w.params) mainGlobals (Str.ofString "s_neg") = some (some (.ref 203)); k_is)
theorem if_s_abs : IsFun (GG prog p loose w mean mg mb) 210 := by
  refine' fun_of ?ho
  case ho => (show List.lookup 210 (KK w.params) = some ⟨_, _, .func _, _⟩; k_is)
theorem ns_s_abs : nsIn (GG prog p loose w mean mg mb).K mainGlobals (Str.ofString "s_abs") = some (some (.ref 210)) := by (show nsIn (KK w.params) mainGlobals (Str.ofString "s_abs") = some (some (.ref 210)); k_is)
theorem if_s_add : IsFun (GG prog p loose w mean mg mb) 217 := by
  refine' fun_of ?ho
  case ho => (show List.lookup 217 (KK w.params) = some ⟨_, _, .func _, _⟩; k_is)
theorem ns_s_add : nsIn (GG prog p loose w mean mg mb).K mainGlobals (Str.ofString "s_add") = some (some (.ref 217)) := by (show nsIn (KK w.params) mainGlobals (Str.ofString "s_add") = some (some (.ref 217)); k_is)
theorem if_s_sub : IsFun (GG prog p loose w mean mg mb) 224 := by
  refine' fun_of ?ho
  case ho => (show List.lookup 224 (KK w.params) = some ⟨_, _, .func _, _⟩; k_is)
theorem ns_s_sub : nsIn (GG prog p loose w mean mg mb).K mainGlobals (Str.ofString "s_sub") = some (some (.ref 224)) := by (show nsIn (KK w.params) mainGlobals (Str.ofString "s_sub") = some (some (.ref 224)); k_is)
theorem if_s_mul : IsFun (GG prog p loose w mean mg mb) 231 := by
  refine' fun_of ?ho
  case ho => (show List.lookup 231 (KK w.params) = some ⟨_, _, .func _, _⟩; k_is)
theorem ns_s_mul : nsIn (GG prog p loose w mean mg mb).K mainGlobals (Str.ofString "s_mul") = some (some (.ref 231)) := by (show nsIn (KK w.params) mainGlobals (Str.ofString "s_mul") = some (some (.ref 231)); k_is)
theorem if_tdiv : IsFun (GG prog p loose w mean mg mb) 238 := by
  refine' fun_of ?ho
  case ho => (show List.lookup 238 (KK w.params) = some ⟨_, _, .func _, _⟩; k_is)
theorem ns_tdiv : nsIn (GG prog p loose w mean mg mb).K mainGlobals (Str.ofString "tdiv") = some (some (.ref 238)) := by (show nsIn (KK w.params) mainGlobals (Str.ofString "tdiv") = some (some (.ref 238)); k_is)
theorem if_fdiv : IsFun (GG prog p loose w mean mg mb) 245 := by
  refine' fun_of ?ho
  case ho => (show List.lookup 245 (KK w.params) = some ⟨_, _, .func _, _⟩; k_is)
theorem ns_fdiv : nsIn (GG prog p loose w mean mg mb).K mainGlobals (Str.ofString "fdiv") = some (some (.ref 245)) := by (show nsIn (KK w.params) mainGlobals (Str.ofString "fdiv") = some (some (.ref 245)); k_is)
theorem if_s_mod : IsFun (GG prog p loose w mean mg mb) 252 := by
  refine' fun_of ?ho
  case ho => (show List.lookup 252 (KK w.params) = some ⟨_, _, .func _, _⟩; k_is)
theorem ns_s_mod : nsIn (GG prog p loose w mean mg mb).K mainGlobals (Str.ofString "s_mod") = some (some (.ref 252)) := by (show nsIn (KK w.params) mainGlobals (Str.ofString "s_mod") = some (some (.ref 252)); k_is)
theorem if_gcd_ext : IsFun (GG prog p loose w mean mg mb) 259 := by
  refine' fun_of ?ho
  case ho => (show List.lookup 259 (KK w.params) = some ⟨_, _, .func _, _⟩; k_is)
theorem ns_gcd_ext : nsIn (GG prog p loose w mean mg mb).K mainGlobals (Str.ofString "gcd_ext") = some (some (.ref 259)) := by (show nsIn (KK w.params) mainGlobals (Str.ofString "gcd_ext") = some (some (.ref 259)); k_is)
theorem if_inverse_mod : IsFun (GG prog p loose w mean mg mb) 266 := by
  refine' fun_of ?ho
  case ho => (show List.lookup 266 (KK w.params) = some ⟨_, _, .func _, _⟩; k_is)
theorem ns_inverse_mod : nsIn (GG prog p loose w mean mg mb).K mainGlobals (Str.ofString "inverse_mod") = some (some (.ref 266)) := by (show nsIn (KK w.params) mainGlobals (Str.ofString "inverse_mod") = some (some (.ref 266)); k_is)
theorem if_sieve : IsFun (GG prog p loose w mean mg mb) 273 := by
  refine' fun_of ?ho
  case ho => (show List.lookup 273 (KK w.params) = some ⟨_, _, .func _, _⟩; k_is)
theorem ns_sieve : nsIn (GG prog p loose w mean mg mb).K mainGlobals (Str.ofString "sieve") = some (some (.ref 273)) := by (show nsIn (KK w.params) mainGlobals (Str.ofString "sieve") = some (some (.ref 273)); k_is)
theorem if_need_count : IsFun (GG prog p loose w mean mg mb) 280 := by
  refine' fun_of ?ho
  case ho => (show List.lookup 280 (KK w.params) = some ⟨_, _, .func _, _⟩; k_is)
theorem ns_need_count : nsIn (GG prog p loose w mean mg mb).K mainGlobals (Str.ofString "need_count") = some (some (.ref 280)) := by (show nsIn (KK w.params) mainGlobals (Str.ofString "need_count") = some (some (.ref 280)); k_is)
theorem if_power_of_count : IsFun (GG prog p loose w mean mg mb) 287 := by
  refine' fun_of ?ho
  case ho => (show List.lookup 287 (KK w.params) = some ⟨_, _, .func _, _⟩; k_is)
theorem ns_power_of_count : nsIn (GG prog p loose w mean mg mb).K mainGlobals (Str.ofString "power_of_count") = some (some (.ref 287)) := by (show nsIn (KK w.params) mainGlobals (Str.ofString "power_of_count") = some (some (.ref 287)); k_is)
theorem if_product_of_powers : IsFun (GG prog p loose w mean mg mb) 294 := by
  refine' fun_of ?ho
  case ho => (show List.lookup 294 (KK w.params) = some ⟨_, _, .func _, _⟩; k_is)
theorem ns_product_of_powers : nsIn (GG prog p loose w mean mg mb).K mainGlobals (Str.ofString "product_of_powers") = some (some (.ref 294)) := by (show nsIn (KK w.params) mainGlobals (Str.ofString "product_of_powers") = some (some (.ref 294)); k_is)
theorem if_swing_exponent : IsFun (GG prog p loose w mean mg mb) 301 := by
  refine' fun_of ?ho
  case ho => (show List.lookup 301 (KK w.params) = some ⟨_, _, .func _, _⟩; k_is)
theorem ns_swing_exponent : nsIn (GG prog p loose w mean mg mb).K mainGlobals (Str.ofString "swing_exponent") = some (some (.ref 301)) := by (show nsIn (KK w.params) mainGlobals (Str.ofString "swing_exponent") = some (some (.ref 301)); k_is)
theorem if_swing : IsFun (GG prog p loose w mean mg mb) 306 := by
  refine' fun_of ?ho
  case ho => (show List.lookup 306 (KK w.params) = some ⟨_, _, .func _, _⟩; k_is)
theorem ns_swing : nsIn (GG prog p loose w mean mg mb).K mainGlobals (Str.ofString "swing") = some (some (.ref 306)) := by (show nsIn (KK w.params) mainGlobals (Str.ofString "swing") = some (some (.ref 306)); k_is)
theorem if_factorial : IsFun (GG prog p loose w mean mg mb) 313 := by
  refine' fun_of ?ho
  case ho => (show List.lookup 313 (KK w.params) = some ⟨_, _, .func _, _⟩; k_is)
theorem ns_factorial : nsIn (GG prog p loose w mean mg mb).K mainGlobals (Str.ofString "factorial") = some (some (.ref 313)) := by (show nsIn (KK w.params) mainGlobals (Str.ofString "factorial") = some (some (.ref 313)); k_is)
theorem if_mul_school : IsFun (GG prog p loose w mean mg mb) 320 := by
  refine' fun_of ?ho
  case ho => (show List.lookup 320 (KK w.params) = some ⟨_, _, .func _, _⟩; k_is)
theorem ns_mul_school : nsIn (GG prog p loose w mean mg mb).K mainGlobals (Str.ofString "mul_school") = some (some (.ref 320)) := by (show nsIn (KK w.params) mainGlobals (Str.ofString "mul_school") = some (some (.ref 320)); k_is)
theorem if_divrem_small : IsFun (GG prog p loose w mean mg mb) 327 := by
  refine' fun_of ?ho
  case ho => (show List.lookup 327 (KK w.params) = some ⟨_, _, .func _, _⟩; k_is)
theorem ns_divrem_small : nsIn (GG prog p loose w mean mg mb).K mainGlobals (Str.ofString "divrem_small") = some (some (.ref 327)) := by (show nsIn (KK w.params) mainGlobals (Str.ofString "divrem_small") = some (some (.ref 327)); k_is)
theorem if_divrem_school : IsFun (GG prog p loose w mean mg mb) 362 := by
  refine' fun_of ?ho
  case ho => (show List.lookup 362 (KK w.params) = some ⟨_, _, .func _, _⟩; k_is)
theorem ns_divrem_school : nsIn (GG prog p loose w mean mg mb).K mainGlobals (Str.ofString "divrem_school") = some (some (.ref 362)) := by (show nsIn (KK w.params) mainGlobals (Str.ofString "divrem_school") = some (some (.ref 362)); k_is)
theorem if__law_limbs : IsFun (GG prog p loose w mean mg mb) 376 := by
  refine' fun_of ?ho
  case ho => (show List.lookup 376 (KK w.params) = some ⟨_, _, .func _, _⟩; k_is)
theorem ns__law_limbs : nsIn (GG prog p loose w mean mg mb).K mainGlobals (Str.ofString "_law_limbs") = some (some (.ref 376)) := by (show nsIn (KK w.params) mainGlobals (Str.ofString "_law_limbs") = some (some (.ref 376)); k_is)
theorem if__law_told : IsFun (GG prog p loose w mean mg mb) 383 := by
  refine' fun_of ?ho
  case ho => (show List.lookup 383 (KK w.params) = some ⟨_, _, .func _, _⟩; k_is)
theorem ns__law_told : nsIn (GG prog p loose w mean mg mb).K mainGlobals (Str.ofString "_law_told") = some (some (.ref 383)) := by (show nsIn (KK w.params) mainGlobals (Str.ofString "_law_told") = some (some (.ref 383)); k_is)
theorem if__law_quotient : IsFun (GG prog p loose w mean mg mb) 390 := by
  refine' fun_of ?ho
  case ho => (show List.lookup 390 (KK w.params) = some ⟨_, _, .func _, _⟩; k_is)
theorem ns__law_quotient : nsIn (GG prog p loose w mean mg mb).K mainGlobals (Str.ofString "_law_quotient") = some (some (.ref 390)) := by (show nsIn (KK w.params) mainGlobals (Str.ofString "_law_quotient") = some (some (.ref 390)); k_is)
theorem if__law_due : IsFun (GG prog p loose w mean mg mb) 397 := by
  refine' fun_of ?ho
  case ho => (show List.lookup 397 (KK w.params) = some ⟨_, _, .func _, _⟩; k_is)
theorem ns__law_due : nsIn (GG prog p loose w mean mg mb).K mainGlobals (Str.ofString "_law_due") = some (some (.ref 397)) := by (show nsIn (KK w.params) mainGlobals (Str.ofString "_law_due") = some (some (.ref 397)); k_is)
theorem b_len : Boot (GG prog p loose w mean mg mb) (Str.ofString "len") (.builtin "len") := ⟨by (show nsIn (KK w.params) mainGlobals (Str.ofString "len") = some none; k_is), by boot_by_name, by decide⟩
theorem b_max : Boot (GG prog p loose w mean mg mb) (Str.ofString "max") (.builtin "max") := ⟨by (show nsIn (KK w.params) mainGlobals (Str.ofString "max") = some none; k_is), by boot_by_name, by decide⟩
theorem b_range : Boot (GG prog p loose w mean mg mb) (Str.ofString "range") (.type "range") := ⟨by (show nsIn (KK w.params) mainGlobals (Str.ofString "range") = some none; k_is), by boot_by_name, by decide⟩
theorem b_enumerate : Boot (GG prog p loose w mean mg mb) (Str.ofString "enumerate") (.type "enumerate") := ⟨by (show nsIn (KK w.params) mainGlobals (Str.ofString "enumerate") = some none; k_is), by boot_by_name, by decide⟩
theorem b_sum : Boot (GG prog p loose w mean mg mb) (Str.ofString "sum") (.builtin "sum") := ⟨by (show nsIn (KK w.params) mainGlobals (Str.ofString "sum") = some none; k_is), by boot_by_name, by decide⟩
end
end Mine
end
-- part M18
section
namespace Mine
open PySem PySem.W PySem.Spec PySem.Calls PyProof.Rows
theorem fill2 : (PySem.Challenge.rw_xw0116_01, KK) = (PySem.Challenge.rw_xw0116_01, KK) := by
  k_fill
  rfl
section
variable {prog p : Program} {loose : List Str} {w : World} {mean : ExcName → Option Value} {mg mb : Str → Option Value}

noncomputable def c_normal : CM := defM 1 (List.replicate 1 .unb) (ssCons (sAsg 1 (eLen (eLoc 0))) (ssCons (loopW (tAnd (tCmp (fun a b => Z.ltB b a) (eLoc 1) (eInt 0)) (tAnd (tCmp Z.eqB (eSub (eLoc 0) (eBin oSub (eLoc 1) (eInt 1))) (eInt 0)) tAndNil)) (ssCons (sAug 1 oSub (eInt 1)) ssNil) 100) (ssCons (sRet (eSli (eLoc 0) pNone (pSome (eLoc 1)))) ssNil)))
theorem s_normal : SimC (GG prog p loose w mean mg mb) 1 70 c_normal := by
  refine' wDef [(Str.ofString "a")] [(Str.ofString "end")] [(Str.ofString "len")] ?ho ?hcd ?hb ?hN ?hc ?hk ?hm
  case ho => (show List.lookup 70 (KK w.params) = some ⟨_, _, .func (fnOf _ _ _ _ _ _ _ _ _ _ _ _), _⟩; k_is)
  case hcd => kernel_rfl
  case hb => exact fun vs h => by obtain ⟨a, rfl⟩ := len1 h; rfl
  case hN => kernel_rfl
  case hc => kernel_rfl
  case hk => rfl
  case hm => exact fun N => (simSsCons (wAsg N 1 rfl (fun _ => rfl) (simLen (N.boot b_len 0 rfl) ⟨fun _ => rfl, trivial⟩ (wLoc N 0 rfl))) (simSsCons (simWhile 100 (simTAnd (simTCmp okGt (wLoc N 1 rfl) simInt) (simTAnd (simTCmp okEq (simSub (fun _ _ _ => rfl) (wLoc N 0 rfl) (simBin okSub (wLoc N 1 rfl) simInt)) simInt) simTAndNil)) (simSsCons (wAug N 1 okISub rfl simInt) simSsNil)) (simSsCons (simRet (simSli (fun _ _ => rfl) (fun _ _ => rfl) (wLoc N 0 rfl) simPNone (simPSome (wLoc N 1 rfl)))) simSsNil)))

noncomputable def c_nat_of : CM := defM 2 (List.replicate 2 .unb) (ssCons (sIf (tCmp Z.ltB (eLoc 0) (eInt 0)) (ssCons sNever ssNil) ssNil) (ssCons (sTupS [3, 2] (eTup (esCons (eLst esNil) (esCons (eBin oSub (eBin oShl (eInt 1) (eLoc 1)) (eInt 1)) esNil)))) (ssCons (loopW (tCmp (fun a b => Z.ltB b a) (eLoc 0) (eInt 0)) (ssCons (sExp (eApp (eLoc 2) (eBin oAnd (eLoc 0) (eLoc 3)))) (ssCons (sAug 0 oShr (eLoc 1)) ssNil)) 100) (ssCons (sRet (eLoc 2)) ssNil))))
theorem s_nat_of : SimC (GG prog p loose w mean mg mb) 1 77 c_nat_of := by
  refine' wDef [(Str.ofString "number"), (Str.ofString "w")] [(Str.ofString "found"), (Str.ofString "mask")] [] ?ho ?hcd ?hb ?hN ?hc ?hk ?hm
  case ho => (show List.lookup 77 (KK w.params) = some ⟨_, _, .func (fnOf _ _ _ _ _ _ _ _ _ _ _ _), _⟩; k_is)
  case hcd => kernel_rfl
  case hb => exact fun vs h => by obtain ⟨a, b, rfl⟩ := len2 h; rfl
  case hN => kernel_rfl
  case hc => kernel_rfl
  case hk => rfl
  case hm => exact fun N => (simSsCons (simIf (simTCmp okLt (wLoc N 0 rfl) simInt) (simSsCons simNever simSsNil) simSsNil) (simSsCons (wTupS2 N 2 3 rfl rfl (fun _ => rfl) (fun c hc => by cases c; cases hc; rfl) (simTup (simCons (simLst simNil) (simCons (simBin okSub (simBin okShl simInt (wLoc N 1 rfl)) simInt) simNil (fun _ => rfl)) (fun _ => rfl)))) (simSsCons (simWhile 100 (simTCmp okGt (wLoc N 0 rfl) simInt) (simSsCons (simExp (simApp ⟨fun _ => rfl, trivial⟩ (fun _ => ⟨_, rfl⟩) (wLoc N 2 rfl) (simBin okAnd (wLoc N 0 rfl) (wLoc N 3 rfl))) (fun c _ => notInter c) (fun _ => rfl)) (simSsCons (wAug N 0 okIShr rfl (wLoc N 1 rfl)) simSsNil))) (simSsCons (simRet (wLoc N 2 rfl)) simSsNil))))

noncomputable def c_compare : CM := defM 2 (List.replicate 1 .unb) (ssCons (sIf (tCmp cNe (eLen (eLoc 0)) (eLen (eLoc 1))) (ssCons (sRet (eIte (tCmp Z.ltB (eLen (eLoc 0)) (eLen (eLoc 1))) (eNeg (eInt 1)) (eInt 1))) ssNil) ssNil) (ssCons (sForR 2 (rng3 (eBin oSub (eLen (eLoc 0)) (eInt 1)) (eNeg (eInt 1)) (eNeg (eInt 1))) (ssCons (sIf (tCmp cNe (eSub (eLoc 0) (eLoc 2)) (eSub (eLoc 1) (eLoc 2))) (ssCons (sRet (eIte (tCmp Z.ltB (eSub (eLoc 0) (eLoc 2)) (eSub (eLoc 1) (eLoc 2))) (eNeg (eInt 1)) (eInt 1))) ssNil) ssNil) ssNil)) (ssCons (sRet (eInt 0)) ssNil)))
theorem s_compare : SimC (GG prog p loose w mean mg mb) 1 84 c_compare := by
  refine' wDef [(Str.ofString "a"), (Str.ofString "b")] [(Str.ofString "at")] [(Str.ofString "range"), (Str.ofString "len")] ?ho ?hcd ?hb ?hN ?hc ?hk ?hm
  case ho => (show List.lookup 84 (KK w.params) = some ⟨_, _, .func (fnOf _ _ _ _ _ _ _ _ _ _ _ _), _⟩; k_is)
  case hcd => kernel_rfl
  case hb => exact fun vs h => by obtain ⟨a, b, rfl⟩ := len2 h; rfl
  case hN => kernel_rfl
  case hc => kernel_rfl
  case hk => rfl
  case hm => exact fun N => (simSsCons (simIf (simTCmp okNe (simLen (N.boot b_len 1 rfl) ⟨fun _ => rfl, trivial⟩ (wLoc N 0 rfl)) (simLen (N.boot b_len 1 rfl) ⟨fun _ => rfl, trivial⟩ (wLoc N 1 rfl))) (simSsCons (simRet (simIte (simTCmp okLt (simLen (N.boot b_len 1 rfl) ⟨fun _ => rfl, trivial⟩ (wLoc N 0 rfl)) (simLen (N.boot b_len 1 rfl) ⟨fun _ => rfl, trivial⟩ (wLoc N 1 rfl))) (simNeg simInt) simInt)) simSsNil) simSsNil) (simSsCons (wForR N 2 rfl (fun _ _ => rfl) (simRng3 (N.boot b_range 0 rfl) ⟨fun _ => rfl, ⟨fun _ => rfl, ⟨fun _ => rfl, trivial⟩⟩⟩ (simBin okSub (simLen (N.boot b_len 1 rfl) ⟨fun _ => rfl, trivial⟩ (wLoc N 0 rfl)) simInt) (simNeg simInt) (simNeg simInt)) (simSsCons (simIf (simTCmp okNe (simSub (fun _ _ _ => rfl) (wLoc N 0 rfl) (wLoc N 2 rfl)) (simSub (fun _ _ _ => rfl) (wLoc N 1 rfl) (wLoc N 2 rfl))) (simSsCons (simRet (simIte (simTCmp okLt (simSub (fun _ _ _ => rfl) (wLoc N 0 rfl) (wLoc N 2 rfl)) (simSub (fun _ _ _ => rfl) (wLoc N 1 rfl) (wLoc N 2 rfl))) (simNeg simInt) simInt)) simSsNil) simSsNil) simSsNil)) (simSsCons (simRet simInt) simSsNil)))

noncomputable def c_add : CM := defM 3 (List.replicate 4 .unb) (ssCons (sIf (tCmp Z.ltB (eLen (eLoc 0)) (eLen (eLoc 1))) (ssCons (sTupS [1, 0] (eTup (esCons (eLoc 1) (esCons (eLoc 0) esNil)))) ssNil) ssNil) (ssCons (sTupS [6, 5, 4] (eTup (esCons (eLst esNil) (esCons (eInt 0) (esCons (eBin oSub (eBin oShl (eInt 1) (eLoc 2)) (eInt 1)) esNil))))) (ssCons (sForR 3 (rng1 (eLen (eLoc 1))) (ssCons (sAug 5 oAdd (eBin oAdd (eSub (eLoc 0) (eLoc 3)) (eSub (eLoc 1) (eLoc 3)))) (ssCons (sExp (eApp (eLoc 4) (eBin oAnd (eLoc 5) (eLoc 6)))) (ssCons (sAug 5 oShr (eLoc 2)) ssNil)))) (ssCons (sForR 3 (rng2 (eLen (eLoc 1)) (eLen (eLoc 0))) (ssCons (sAug 5 oAdd (eSub (eLoc 0) (eLoc 3))) (ssCons (sExp (eApp (eLoc 4) (eBin oAnd (eLoc 5) (eLoc 6)))) (ssCons (sAug 5 oShr (eLoc 2)) ssNil)))) (ssCons (sIf (tCmp (fun a b => Z.ltB b a) (eLoc 5) (eInt 0)) (ssCons (sExp (eApp (eLoc 4) (eLoc 5))) ssNil) ssNil) (ssCons (sRet (eLoc 4)) ssNil))))))
theorem s_add : SimC (GG prog p loose w mean mg mb) 1 91 c_add := by
  refine' wDef [(Str.ofString "a"), (Str.ofString "b"), (Str.ofString "w")] [(Str.ofString "at"), (Str.ofString "found"), (Str.ofString "carry"), (Str.ofString "mask")] [(Str.ofString "range"), (Str.ofString "len")] ?ho ?hcd ?hb ?hN ?hc ?hk ?hm
  case ho => (show List.lookup 91 (KK w.params) = some ⟨_, _, .func (fnOf _ _ _ _ _ _ _ _ _ _ _ _), _⟩; k_is)
  case hcd => kernel_rfl
  case hb => exact fun vs h => by obtain ⟨a, b, c, rfl⟩ := len3 h; rfl
  case hN => kernel_rfl
  case hc => kernel_rfl
  case hk => rfl
  case hm => exact fun N => (simSsCons (simIf (simTCmp okLt (simLen (N.boot b_len 1 rfl) ⟨fun _ => rfl, trivial⟩ (wLoc N 0 rfl)) (simLen (N.boot b_len 1 rfl) ⟨fun _ => rfl, trivial⟩ (wLoc N 1 rfl))) (simSsCons (wTupS2 N 0 1 rfl rfl (fun _ => rfl) (fun c hc => by cases c; cases hc; rfl) (simTup (simCons (wLoc N 1 rfl) (simCons (wLoc N 0 rfl) simNil (fun _ => rfl)) (fun _ => rfl)))) simSsNil) simSsNil) (simSsCons (wTupS3 N 4 5 6 rfl rfl rfl (fun _ => rfl) (fun c hc => by cases c; cases hc; rfl) (simTup (simCons (simLst simNil) (simCons simInt (simCons (simBin okSub (simBin okShl simInt (wLoc N 2 rfl)) simInt) simNil (fun _ => rfl)) (fun _ => rfl)) (fun _ => rfl)))) (simSsCons (wForR N 3 rfl (fun _ _ => rfl) (simRng1 (N.boot b_range 0 rfl) ⟨fun _ => rfl, trivial⟩ (simLen (N.boot b_len 1 rfl) ⟨fun _ => rfl, trivial⟩ (wLoc N 1 rfl))) (simSsCons (wAug N 5 okIAdd rfl (simBin okAdd (simSub (fun _ _ _ => rfl) (wLoc N 0 rfl) (wLoc N 3 rfl)) (simSub (fun _ _ _ => rfl) (wLoc N 1 rfl) (wLoc N 3 rfl)))) (simSsCons (simExp (simApp ⟨fun _ => rfl, trivial⟩ (fun _ => ⟨_, rfl⟩) (wLoc N 4 rfl) (simBin okAnd (wLoc N 5 rfl) (wLoc N 6 rfl))) (fun c _ => notInter c) (fun _ => rfl)) (simSsCons (wAug N 5 okIShr rfl (wLoc N 2 rfl)) simSsNil)))) (simSsCons (wForR N 3 rfl (fun _ _ => rfl) (simRng2 (N.boot b_range 0 rfl) ⟨fun _ => rfl, ⟨fun _ => rfl, trivial⟩⟩ (simLen (N.boot b_len 1 rfl) ⟨fun _ => rfl, trivial⟩ (wLoc N 1 rfl)) (simLen (N.boot b_len 1 rfl) ⟨fun _ => rfl, trivial⟩ (wLoc N 0 rfl))) (simSsCons (wAug N 5 okIAdd rfl (simSub (fun _ _ _ => rfl) (wLoc N 0 rfl) (wLoc N 3 rfl))) (simSsCons (simExp (simApp ⟨fun _ => rfl, trivial⟩ (fun _ => ⟨_, rfl⟩) (wLoc N 4 rfl) (simBin okAnd (wLoc N 5 rfl) (wLoc N 6 rfl))) (fun c _ => notInter c) (fun _ => rfl)) (simSsCons (wAug N 5 okIShr rfl (wLoc N 2 rfl)) simSsNil)))) (simSsCons (simIf (simTCmp okGt (wLoc N 5 rfl) simInt) (simSsCons (simExp (simApp ⟨fun _ => rfl, trivial⟩ (fun _ => ⟨_, rfl⟩) (wLoc N 4 rfl) (wLoc N 5 rfl)) (fun c _ => notInter c) (fun _ => rfl)) simSsNil) simSsNil) (simSsCons (simRet (wLoc N 4 rfl)) simSsNil))))))

noncomputable def c_sub : CM := defM 3 (List.replicate 5 .unb) (ssCons (sIf (tCmp Z.ltB (eCall c_compare (esCons (eLoc 0) (esCons (eLoc 1) esNil))) (eInt 0)) (ssCons sNever ssNil) ssNil) (ssCons (sTupS [6, 5, 4] (eTup (esCons (eLst esNil) (esCons (eInt 0) (esCons (eBin oShl (eInt 1) (eLoc 2)) esNil))))) (ssCons (sForR 3 (rng1 (eLen (eLoc 0))) (ssCons (sAsg 7 (eBin oSub (eBin oSub (eSub (eLoc 0) (eLoc 3)) (eLoc 5)) (eIte (tCmp Z.ltB (eLoc 3) (eLen (eLoc 1))) (eSub (eLoc 1) (eLoc 3)) (eInt 0)))) (ssCons (sAsg 5 (eIte (tCmp Z.ltB (eLoc 7) (eInt 0)) (eInt 1) (eInt 0))) (ssCons (sExp (eApp (eLoc 4) (eIte (tCmp Z.ltB (eLoc 7) (eInt 0)) (eBin oAdd (eLoc 7) (eLoc 6)) (eLoc 7)))) ssNil)))) (ssCons (sRet (eCall c_normal (esCons (eLoc 4) esNil))) ssNil))))
theorem s_sub : SimC (GG prog p loose w mean mg mb) 2 98 c_sub := by
  refine' wDef [(Str.ofString "a"), (Str.ofString "b"), (Str.ofString "w")] [(Str.ofString "at"), (Str.ofString "found"), (Str.ofString "borrow"), (Str.ofString "base"), (Str.ofString "limb")] [(Str.ofString "range"), (Str.ofString "normal"), (Str.ofString "compare"), (Str.ofString "len")] ?ho ?hcd ?hb ?hN ?hc ?hk ?hm
  case ho => (show List.lookup 98 (KK w.params) = some ⟨_, _, .func (fnOf _ _ _ _ _ _ _ _ _ _ _ _), _⟩; k_is)
  case hcd => kernel_rfl
  case hb => exact fun vs h => by obtain ⟨a, b, c, rfl⟩ := len3 h; rfl
  case hN => kernel_rfl
  case hc => kernel_rfl
  case hk => rfl
  case hm => exact fun N => (simSsCons (simIf (simTCmp okLt (wCall N 2 ns_compare rfl if_compare s_compare (by decide) ⟨fun _ => rfl, ⟨fun _ => rfl, trivial⟩⟩ (simCons (wLoc N 0 rfl) (simCons (wLoc N 1 rfl) simNil (fun _ => rfl)) (fun _ => rfl))) simInt) (simSsCons simNever simSsNil) simSsNil) (simSsCons (wTupS3 N 4 5 6 rfl rfl rfl (fun _ => rfl) (fun c hc => by cases c; cases hc; rfl) (simTup (simCons (simLst simNil) (simCons simInt (simCons (simBin okShl simInt (wLoc N 2 rfl)) simNil (fun _ => rfl)) (fun _ => rfl)) (fun _ => rfl)))) (simSsCons (wForR N 3 rfl (fun _ _ => rfl) (simRng1 (N.boot b_range 0 rfl) ⟨fun _ => rfl, trivial⟩ (simLen (N.boot b_len 3 rfl) ⟨fun _ => rfl, trivial⟩ (wLoc N 0 rfl))) (simSsCons (wAsg N 7 rfl (fun _ => rfl) (simBin okSub (simBin okSub (simSub (fun _ _ _ => rfl) (wLoc N 0 rfl) (wLoc N 3 rfl)) (wLoc N 5 rfl)) (simIte (simTCmp okLt (wLoc N 3 rfl) (simLen (N.boot b_len 3 rfl) ⟨fun _ => rfl, trivial⟩ (wLoc N 1 rfl))) (simSub (fun _ _ _ => rfl) (wLoc N 1 rfl) (wLoc N 3 rfl)) simInt))) (simSsCons (wAsg N 5 rfl (fun _ => rfl) (simIte (simTCmp okLt (wLoc N 7 rfl) simInt) simInt simInt)) (simSsCons (simExp (simApp ⟨fun _ => rfl, trivial⟩ (fun _ => ⟨_, rfl⟩) (wLoc N 4 rfl) (simIte (simTCmp okLt (wLoc N 7 rfl) simInt) (simBin okAdd (wLoc N 7 rfl) (wLoc N 6 rfl)) (wLoc N 7 rfl))) (fun c _ => notInter c) (fun _ => rfl)) simSsNil)))) (simSsCons (simRet (wCall N 1 ns_normal rfl if_normal s_normal (by decide) ⟨fun _ => rfl, trivial⟩ (simCons (wLoc N 4 rfl) simNil (fun _ => rfl)))) simSsNil))))

noncomputable def c_add_limb : CM := defM 3 (List.replicate 3 .unb) (ssCons (sTupS [5, 4] (eTup (esCons (eLst esNil) (esCons (eBin oSub (eBin oShl (eInt 1) (eLoc 2)) (eInt 1)) esNil)))) (ssCons (sForL 3 100 (eLoc 0) (ssCons (sAug 1 oAdd (eLoc 3)) (ssCons (sExp (eApp (eLoc 4) (eBin oAnd (eLoc 1) (eLoc 5)))) (ssCons (sAug 1 oShr (eLoc 2)) ssNil)))) (ssCons (sIf (tCmp (fun a b => Z.ltB b a) (eLoc 1) (eInt 0)) (ssCons (sExp (eApp (eLoc 4) (eLoc 1))) ssNil) ssNil) (ssCons (sRet (eLoc 4)) ssNil))))
theorem s_add_limb : SimC (GG prog p loose w mean mg mb) 1 105 c_add_limb := by
  refine' wDef [(Str.ofString "a"), (Str.ofString "limb"), (Str.ofString "w")] [(Str.ofString "one"), (Str.ofString "found"), (Str.ofString "mask")] [] ?ho ?hcd ?hb ?hN ?hc ?hk ?hm
  case ho => (show List.lookup 105 (KK w.params) = some ⟨_, _, .func (fnOf _ _ _ _ _ _ _ _ _ _ _ _), _⟩; k_is)
  case hcd => kernel_rfl
  case hb => exact fun vs h => by obtain ⟨a, b, c, rfl⟩ := len3 h; rfl
  case hN => kernel_rfl
  case hc => kernel_rfl
  case hk => rfl
  case hm => exact fun N => (simSsCons (wTupS2 N 4 5 rfl rfl (fun _ => rfl) (fun c hc => by cases c; cases hc; rfl) (simTup (simCons (simLst simNil) (simCons (simBin okSub (simBin okShl simInt (wLoc N 2 rfl)) simInt) simNil (fun _ => rfl)) (fun _ => rfl)))) (simSsCons (wForL N 100 3 rfl (fun _ _ => rfl) (wLoc N 0 rfl) (simSsCons (wAug N 1 okIAdd rfl (wLoc N 3 rfl)) (simSsCons (simExp (simApp ⟨fun _ => rfl, trivial⟩ (fun _ => ⟨_, rfl⟩) (wLoc N 4 rfl) (simBin okAnd (wLoc N 1 rfl) (wLoc N 5 rfl))) (fun c _ => notInter c) (fun _ => rfl)) (simSsCons (wAug N 1 okIShr rfl (wLoc N 2 rfl)) simSsNil)))) (simSsCons (simIf (simTCmp okGt (wLoc N 1 rfl) simInt) (simSsCons (simExp (simApp ⟨fun _ => rfl, trivial⟩ (fun _ => ⟨_, rfl⟩) (wLoc N 4 rfl) (wLoc N 1 rfl)) (fun c _ => notInter c) (fun _ => rfl)) simSsNil) simSsNil) (simSsCons (simRet (wLoc N 4 rfl)) simSsNil))))

noncomputable def c_divrem_limb : CM := defM 3 (List.replicate 3 .unb) (ssCons (sIf (tCmp Z.eqB (eLoc 1) (eInt 0)) (ssCons sNever ssNil) ssNil) (ssCons (sTupS [5, 4] (eTup (esCons (eRep (eLst (esCons (eInt 0) esNil)) (eLen (eLoc 0))) (esCons (eInt 0) esNil)))) (ssCons (sForR 3 (rng3 (eBin oSub (eLen (eLoc 0)) (eInt 1)) (eNeg (eInt 1)) (eNeg (eInt 1))) (ssCons (sAsg 5 (eBin oOr (eBin oShl (eLoc 5) (eLoc 2)) (eSub (eLoc 0) (eLoc 3)))) (ssCons (sSto (eBin oDiv (eLoc 5) (eLoc 1)) (eLoc 4) (eLoc 3)) (ssCons (sAug 5 oMod (eLoc 1)) ssNil)))) (ssCons (sRet (eTup (esCons (eCall c_normal (esCons (eLoc 4) esNil)) (esCons (eLoc 5) esNil)))) ssNil))))
theorem s_divrem_limb : SimC (GG prog p loose w mean mg mb) 2 112 c_divrem_limb := by
  refine' wDef [(Str.ofString "a"), (Str.ofString "limb"), (Str.ofString "w")] [(Str.ofString "at"), (Str.ofString "found"), (Str.ofString "rest")] [(Str.ofString "range"), (Str.ofString "normal"), (Str.ofString "len")] ?ho ?hcd ?hb ?hN ?hc ?hk ?hm
  case ho => (show List.lookup 112 (KK w.params) = some ⟨_, _, .func (fnOf _ _ _ _ _ _ _ _ _ _ _ _), _⟩; k_is)
  case hcd => kernel_rfl
  case hb => exact fun vs h => by obtain ⟨a, b, c, rfl⟩ := len3 h; rfl
  case hN => kernel_rfl
  case hc => kernel_rfl
  case hk => rfl
  case hm => exact fun N => (simSsCons (simIf (simTCmp okEq (wLoc N 1 rfl) simInt) (simSsCons simNever simSsNil) simSsNil) (simSsCons (wTupS2 N 4 5 rfl rfl (fun _ => rfl) (fun c hc => by cases c; cases hc; rfl) (simTup (simCons (simRep (simLst (simCons simInt simNil (fun _ => rfl))) (simLen (N.boot b_len 2 rfl) ⟨fun _ => rfl, trivial⟩ (wLoc N 0 rfl))) (simCons simInt simNil (fun _ => rfl)) (fun _ => rfl)))) (simSsCons (wForR N 3 rfl (fun _ _ => rfl) (simRng3 (N.boot b_range 0 rfl) ⟨fun _ => rfl, ⟨fun _ => rfl, ⟨fun _ => rfl, trivial⟩⟩⟩ (simBin okSub (simLen (N.boot b_len 2 rfl) ⟨fun _ => rfl, trivial⟩ (wLoc N 0 rfl)) simInt) (simNeg simInt) (simNeg simInt)) (simSsCons (wAsg N 5 rfl (fun _ => rfl) (simBin okOr (simBin okShl (wLoc N 5 rfl) (wLoc N 2 rfl)) (simSub (fun _ _ _ => rfl) (wLoc N 0 rfl) (wLoc N 3 rfl)))) (simSsCons (simSto (fun _ => rfl) (simBin okDiv (wLoc N 5 rfl) (wLoc N 1 rfl)) (wLoc N 4 rfl) (wLoc N 3 rfl)) (simSsCons (wAug N 5 okIMod rfl (wLoc N 1 rfl)) simSsNil)))) (simSsCons (simRet (simTup (simCons (wCall N 1 ns_normal rfl if_normal s_normal (by decide) ⟨fun _ => rfl, trivial⟩ (simCons (wLoc N 4 rfl) simNil (fun _ => rfl))) (simCons (wLoc N 5 rfl) simNil (fun _ => rfl)) (fun _ => rfl)))) simSsNil))))

noncomputable def c_bits : CM := defM 2 (List.replicate 0 .unb) (ssCons (sRet (eIte (tCmp (fun a b => Z.ltB b a) (eLen (eLoc 0)) (eInt 0)) (eBin oAdd (eBin oMul (eBin oSub (eLen (eLoc 0)) (eInt 1)) (eLoc 1)) (eBits (eSub (eLoc 0) (eNeg (eInt 1))))) (eInt 0))) ssNil)
theorem s_bits : SimC (GG prog p loose w mean mg mb) 1 133 c_bits := by
  refine' wDef [(Str.ofString "a"), (Str.ofString "w")] [] [(Str.ofString "len")] ?ho ?hcd ?hb ?hN ?hc ?hk ?hm
  case ho => (show List.lookup 133 (KK w.params) = some ⟨_, _, .func (fnOf _ _ _ _ _ _ _ _ _ _ _ _), _⟩; k_is)
  case hcd => kernel_rfl
  case hb => exact fun vs h => by obtain ⟨a, b, rfl⟩ := len2 h; rfl
  case hN => kernel_rfl
  case hc => kernel_rfl
  case hk => rfl
  case hm => exact fun N => (simSsCons (simRet (simIte (simTCmp okGt (simLen (N.boot b_len 0 rfl) ⟨fun _ => rfl, trivial⟩ (wLoc N 0 rfl)) simInt) (simBin okAdd (simBin okMul (simBin okSub (simLen (N.boot b_len 0 rfl) ⟨fun _ => rfl, trivial⟩ (wLoc N 0 rfl)) simInt) (wLoc N 1 rfl)) (simBits (simSub (fun _ _ _ => rfl) (wLoc N 0 rfl) (simNeg simInt)) (fun _ => ⟨_, rfl⟩))) simInt)) simSsNil)

noncomputable def c_bit : CM := defM 3 (List.replicate 0 .unb) (ssCons (sRet (eIte (tCmp Z.ltB (eBin oDiv (eLoc 1) (eLoc 2)) (eLen (eLoc 0))) (eBin oAnd (eBin oShr (eSub (eLoc 0) (eBin oDiv (eLoc 1) (eLoc 2))) (eBin oMod (eLoc 1) (eLoc 2))) (eInt 1)) (eInt 0))) ssNil)
theorem s_bit : SimC (GG prog p loose w mean mg mb) 1 140 c_bit := by
  refine' wDef [(Str.ofString "a"), (Str.ofString "n"), (Str.ofString "w")] [] [(Str.ofString "len")] ?ho ?hcd ?hb ?hN ?hc ?hk ?hm
  case ho => (show List.lookup 140 (KK w.params) = some ⟨_, _, .func (fnOf _ _ _ _ _ _ _ _ _ _ _ _), _⟩; k_is)
  case hcd => kernel_rfl
  case hb => exact fun vs h => by obtain ⟨a, b, c, rfl⟩ := len3 h; rfl
  case hN => kernel_rfl
  case hc => kernel_rfl
  case hk => rfl
  case hm => exact fun N => (simSsCons (simRet (simIte (simTCmp okLt (simBin okDiv (wLoc N 1 rfl) (wLoc N 2 rfl)) (simLen (N.boot b_len 0 rfl) ⟨fun _ => rfl, trivial⟩ (wLoc N 0 rfl))) (simBin okAnd (simBin okShr (simSub (fun _ _ _ => rfl) (wLoc N 0 rfl) (simBin okDiv (wLoc N 1 rfl) (wLoc N 2 rfl))) (simBin okMod (wLoc N 1 rfl) (wLoc N 2 rfl))) simInt) simInt)) simSsNil)

noncomputable def c_window_at : CM := defM 4 (List.replicate 3 .unb) (ssCons (sAsg 4 (eMax (eBin oAdd (eBin oSub (eLoc 1) (eLoc 2)) (eInt 1)) (eInt 0))) (ssCons (loopW (tCmp Z.eqB (eCall c_bit (esCons (eLoc 0) (esCons (eLoc 4) (esCons (eLoc 3) esNil)))) (eInt 0)) (ssCons (sAug 4 oAdd (eInt 1)) ssNil) 100) (ssCons (sAsg 5 (eInt 0)) (ssCons (sForR 6 (rng3 (eLoc 1) (eBin oSub (eLoc 4) (eInt 1)) (eNeg (eInt 1))) (ssCons (sAsg 5 (eBin oAdd (eBin oMul (eInt 2) (eLoc 5)) (eCall c_bit (esCons (eLoc 0) (esCons (eLoc 6) (esCons (eLoc 3) esNil)))))) ssNil)) (ssCons (sRet (eTup (esCons (eLoc 5) (esCons (eBin oAdd (eBin oSub (eLoc 1) (eLoc 4)) (eInt 1)) esNil)))) ssNil)))))
theorem s_window_at : SimC (GG prog p loose w mean mg mb) 2 154 c_window_at := by
  refine' wDef [(Str.ofString "e"), (Str.ofString "top"), (Str.ofString "size"), (Str.ofString "w")] [(Str.ofString "last"), (Str.ofString "value"), (Str.ofString "spot")] [(Str.ofString "max"), (Str.ofString "range"), (Str.ofString "bit")] ?ho ?hcd ?hb ?hN ?hc ?hk ?hm
  case ho => (show List.lookup 154 (KK w.params) = some ⟨_, _, .func (fnOf _ _ _ _ _ _ _ _ _ _ _ _), _⟩; k_is)
  case hcd => kernel_rfl
  case hb => exact fun vs h => by obtain ⟨a, b, c, d, rfl⟩ := len4 h; rfl
  case hN => kernel_rfl
  case hc => kernel_rfl
  case hk => rfl
  case hm => exact fun N => (simSsCons (wAsg N 4 rfl (fun _ => rfl) (simMax (N.boot b_max 0 rfl) ⟨fun _ => rfl, ⟨fun _ => rfl, trivial⟩⟩ (simBin okAdd (simBin okSub (wLoc N 1 rfl) (wLoc N 2 rfl)) simInt) simInt)) (simSsCons (simWhile 100 (simTCmp okEq (wCall N 2 ns_bit rfl if_bit s_bit (by decide) ⟨fun _ => rfl, ⟨fun _ => rfl, ⟨fun _ => rfl, trivial⟩⟩⟩ (simCons (wLoc N 0 rfl) (simCons (wLoc N 4 rfl) (simCons (wLoc N 3 rfl) simNil (fun _ => rfl)) (fun _ => rfl)) (fun _ => rfl))) simInt) (simSsCons (wAug N 4 okIAdd rfl simInt) simSsNil)) (simSsCons (wAsg N 5 rfl (fun _ => rfl) simInt) (simSsCons (wForR N 6 rfl (fun _ _ => rfl) (simRng3 (N.boot b_range 1 rfl) ⟨fun _ => rfl, ⟨fun _ => rfl, ⟨fun _ => rfl, trivial⟩⟩⟩ (wLoc N 1 rfl) (simBin okSub (wLoc N 4 rfl) simInt) (simNeg simInt)) (simSsCons (wAsg N 5 rfl (fun _ => rfl) (simBin okAdd (simBin okMul simInt (wLoc N 5 rfl)) (wCall N 2 ns_bit rfl if_bit s_bit (by decide) ⟨fun _ => rfl, ⟨fun _ => rfl, ⟨fun _ => rfl, trivial⟩⟩⟩ (simCons (wLoc N 0 rfl) (simCons (wLoc N 6 rfl) (simCons (wLoc N 3 rfl) simNil (fun _ => rfl)) (fun _ => rfl)) (fun _ => rfl))))) simSsNil)) (simSsCons (simRet (simTup (simCons (wLoc N 5 rfl) (simCons (simBin okAdd (simBin okSub (wLoc N 1 rfl) (wLoc N 4 rfl)) simInt) simNil (fun _ => rfl)) (fun _ => rfl)))) simSsNil)))))

noncomputable def c_check_modulus : CM := defM 1 (List.replicate 0 .unb) (ssCons (sIf (tEqL (eLoc 0) (eLst esNil)) (ssCons sNever ssNil) ssNil) ssNil)
theorem s_check_modulus : SimC (GG prog p loose w mean mg mb) 1 168 c_check_modulus := by
  refine' wDef [(Str.ofString "m")] [] [] ?ho ?hcd ?hb ?hN ?hc ?hk ?hm
  case ho => (show List.lookup 168 (KK w.params) = some ⟨_, _, .func (fnOf _ _ _ _ _ _ _ _ _ _ _ _), _⟩; k_is)
  case hcd => kernel_rfl
  case hb => exact fun vs h => by obtain ⟨a, rfl⟩ := len1 h; rfl
  case hN => kernel_rfl
  case hc => kernel_rfl
  case hk => rfl
  case hm => exact fun N => (simSsCons (simIf (simTEqL (wLoc N 0 rfl) (simLst simNil)) (simSsCons simNever simSsNil) simSsNil) simSsNil)

noncomputable def c_unit_rest : CM := defM 1 (List.replicate 0 .unb) (ssCons (sRet (eIte (tEqL (eLoc 0) (eLst (esCons (eInt 1) esNil))) (eLst esNil) (eLst (esCons (eInt 1) esNil)))) ssNil)
theorem s_unit_rest : SimC (GG prog p loose w mean mg mb) 1 175 c_unit_rest := by
  refine' wDef [(Str.ofString "m")] [] [] ?ho ?hcd ?hb ?hN ?hc ?hk ?hm
  case ho => (show List.lookup 175 (KK w.params) = some ⟨_, _, .func (fnOf _ _ _ _ _ _ _ _ _ _ _ _), _⟩; k_is)
  case hcd => kernel_rfl
  case hb => exact fun vs h => by obtain ⟨a, rfl⟩ := len1 h; rfl
  case hN => kernel_rfl
  case hc => kernel_rfl
  case hk => rfl
  case hm => exact fun N => (simSsCons (simRet (simIte (simTEqL (wLoc N 0 rfl) (simLst (simCons simInt simNil (fun _ => rfl)))) (simLst simNil) (simLst (simCons simInt simNil (fun _ => rfl))))) simSsNil)

noncomputable def c_signed : CM := defM 2 (List.replicate 0 .unb) (ssCons (sRet (eTup (esCons (eAnd (eLoc 0) (eCmp (fun a b => Z.ltB b a) (eLen (eLoc 1)) (eInt 0))) (esCons (eLoc 1) esNil)))) ssNil)
theorem s_signed : SimC (GG prog p loose w mean mg mb) 1 196 c_signed := by
  refine' wDef [(Str.ofString "is_below"), (Str.ofString "nat")] [] [(Str.ofString "len")] ?ho ?hcd ?hb ?hN ?hc ?hk ?hm
  case ho => (show List.lookup 196 (KK w.params) = some ⟨_, _, .func (fnOf _ _ _ _ _ _ _ _ _ _ _ _), _⟩; k_is)
  case hcd => kernel_rfl
  case hb => exact fun vs h => by obtain ⟨a, b, rfl⟩ := len2 h; rfl
  case hN => kernel_rfl
  case hc => kernel_rfl
  case hk => rfl
  case hm => exact fun N => (simSsCons (simRet (simTup (simCons (simAnd (wLoc N 0 rfl) (simCmp okGt (simLen (N.boot b_len 0 rfl) ⟨fun _ => rfl, trivial⟩ (wLoc N 1 rfl)) simInt)) (simCons (wLoc N 1 rfl) simNil (fun _ => rfl)) (fun _ => rfl)))) simSsNil)

noncomputable def c_s_neg : CM := defM 1 (List.replicate 0 .unb) (ssCons (sRet (eCall c_signed (esCons (eNot (eSub (eLoc 0) (eInt 0))) (esCons (eSub (eLoc 0) (eInt 1)) esNil)))) ssNil)
theorem s_s_neg : SimC (GG prog p loose w mean mg mb) 2 203 c_s_neg := by
  refine' wDef [(Str.ofString "x")] [] [(Str.ofString "signed")] ?ho ?hcd ?hb ?hN ?hc ?hk ?hm
  case ho => (show List.lookup 203 (KK w.params) = some ⟨_, _, .func (fnOf _ _ _ _ _ _ _ _ _ _ _ _), _⟩; k_is)
  case hcd => kernel_rfl
  case hb => exact fun vs h => by obtain ⟨a, rfl⟩ := len1 h; rfl
  case hN => kernel_rfl
  case hc => kernel_rfl
  case hk => rfl
  case hm => exact fun N => (simSsCons (simRet (wCall N 0 ns_signed rfl if_signed s_signed (by decide) ⟨fun _ => rfl, ⟨fun _ => rfl, trivial⟩⟩ (simCons (simNot (simSub (fun _ _ _ => rfl) (wLoc N 0 rfl) simInt)) (simCons (simSub (fun _ _ _ => rfl) (wLoc N 0 rfl) simInt) simNil (fun _ => rfl)) (fun _ => rfl)))) simSsNil)

noncomputable def c_s_abs : CM := defM 1 (List.replicate 0 .unb) (ssCons (sRet (eTup (esCons (eBool false) (esCons (eSub (eLoc 0) (eInt 1)) esNil)))) ssNil)
theorem s_s_abs : SimC (GG prog p loose w mean mg mb) 1 210 c_s_abs := by
  refine' wDef [(Str.ofString "x")] [] [] ?ho ?hcd ?hb ?hN ?hc ?hk ?hm
  case ho => (show List.lookup 210 (KK w.params) = some ⟨_, _, .func (fnOf _ _ _ _ _ _ _ _ _ _ _ _), _⟩; k_is)
  case hcd => kernel_rfl
  case hb => exact fun vs h => by obtain ⟨a, rfl⟩ := len1 h; rfl
  case hN => kernel_rfl
  case hc => kernel_rfl
  case hk => rfl
  case hm => exact fun N => (simSsCons (simRet (simTup (simCons simBool (simCons (simSub (fun _ _ _ => rfl) (wLoc N 0 rfl) simInt) simNil (fun _ => rfl)) (fun _ => rfl)))) simSsNil)

noncomputable def c_s_add : CM := defM 3 (List.replicate 0 .unb) (ssCons (sIf (tEqB false (eSub (eLoc 0) (eInt 0)) (eSub (eLoc 1) (eInt 0))) (ssCons (sRet (eCall c_signed (esCons (eSub (eLoc 0) (eInt 0)) (esCons (eCall c_add (esCons (eSub (eLoc 0) (eInt 1)) (esCons (eSub (eLoc 1) (eInt 1)) (esCons (eLoc 2) esNil)))) esNil)))) ssNil) ssNil) (ssCons (sIf (tCmp Z.ltB (eCall c_compare (esCons (eSub (eLoc 0) (eInt 1)) (esCons (eSub (eLoc 1) (eInt 1)) esNil))) (eInt 0)) (ssCons (sRet (eCall c_signed (esCons (eSub (eLoc 1) (eInt 0)) (esCons (eCall c_sub (esCons (eSub (eLoc 1) (eInt 1)) (esCons (eSub (eLoc 0) (eInt 1)) (esCons (eLoc 2) esNil)))) esNil)))) ssNil) ssNil) (ssCons (sRet (eCall c_signed (esCons (eSub (eLoc 0) (eInt 0)) (esCons (eCall c_sub (esCons (eSub (eLoc 0) (eInt 1)) (esCons (eSub (eLoc 1) (eInt 1)) (esCons (eLoc 2) esNil)))) esNil)))) ssNil)))
theorem s_s_add : SimC (GG prog p loose w mean mg mb) 3 217 c_s_add := by
  refine' wDef [(Str.ofString "x"), (Str.ofString "y"), (Str.ofString "w")] [] [(Str.ofString "signed"), (Str.ofString "compare"), (Str.ofString "sub"), (Str.ofString "add")] ?ho ?hcd ?hb ?hN ?hc ?hk ?hm
  case ho => (show List.lookup 217 (KK w.params) = some ⟨_, _, .func (fnOf _ _ _ _ _ _ _ _ _ _ _ _), _⟩; k_is)
  case hcd => kernel_rfl
  case hb => exact fun vs h => by obtain ⟨a, b, c, rfl⟩ := len3 h; rfl
  case hN => kernel_rfl
  case hc => kernel_rfl
  case hk => rfl
  case hm => exact fun N => (simSsCons (simIf (simTEqB (simSub (fun _ _ _ => rfl) (wLoc N 0 rfl) simInt) (simSub (fun _ _ _ => rfl) (wLoc N 1 rfl) simInt)) (simSsCons (simRet (wCall N 0 ns_signed rfl if_signed s_signed (by decide) ⟨fun _ => rfl, ⟨fun _ => rfl, trivial⟩⟩ (simCons (simSub (fun _ _ _ => rfl) (wLoc N 0 rfl) simInt) (simCons (wCall N 3 ns_add rfl if_add s_add (by decide) ⟨fun _ => rfl, ⟨fun _ => rfl, ⟨fun _ => rfl, trivial⟩⟩⟩ (simCons (simSub (fun _ _ _ => rfl) (wLoc N 0 rfl) simInt) (simCons (simSub (fun _ _ _ => rfl) (wLoc N 1 rfl) simInt) (simCons (wLoc N 2 rfl) simNil (fun _ => rfl)) (fun _ => rfl)) (fun _ => rfl))) simNil (fun _ => rfl)) (fun _ => rfl)))) simSsNil) simSsNil) (simSsCons (simIf (simTCmp okLt (wCall N 1 ns_compare rfl if_compare s_compare (by decide) ⟨fun _ => rfl, ⟨fun _ => rfl, trivial⟩⟩ (simCons (simSub (fun _ _ _ => rfl) (wLoc N 0 rfl) simInt) (simCons (simSub (fun _ _ _ => rfl) (wLoc N 1 rfl) simInt) simNil (fun _ => rfl)) (fun _ => rfl))) simInt) (simSsCons (simRet (wCall N 0 ns_signed rfl if_signed s_signed (by decide) ⟨fun _ => rfl, ⟨fun _ => rfl, trivial⟩⟩ (simCons (simSub (fun _ _ _ => rfl) (wLoc N 1 rfl) simInt) (simCons (wCall N 2 ns_sub rfl if_sub s_sub (by decide) ⟨fun _ => rfl, ⟨fun _ => rfl, ⟨fun _ => rfl, trivial⟩⟩⟩ (simCons (simSub (fun _ _ _ => rfl) (wLoc N 1 rfl) simInt) (simCons (simSub (fun _ _ _ => rfl) (wLoc N 0 rfl) simInt) (simCons (wLoc N 2 rfl) simNil (fun _ => rfl)) (fun _ => rfl)) (fun _ => rfl))) simNil (fun _ => rfl)) (fun _ => rfl)))) simSsNil) simSsNil) (simSsCons (simRet (wCall N 0 ns_signed rfl if_signed s_signed (by decide) ⟨fun _ => rfl, ⟨fun _ => rfl, trivial⟩⟩ (simCons (simSub (fun _ _ _ => rfl) (wLoc N 0 rfl) simInt) (simCons (wCall N 2 ns_sub rfl if_sub s_sub (by decide) ⟨fun _ => rfl, ⟨fun _ => rfl, ⟨fun _ => rfl, trivial⟩⟩⟩ (simCons (simSub (fun _ _ _ => rfl) (wLoc N 0 rfl) simInt) (simCons (simSub (fun _ _ _ => rfl) (wLoc N 1 rfl) simInt) (simCons (wLoc N 2 rfl) simNil (fun _ => rfl)) (fun _ => rfl)) (fun _ => rfl))) simNil (fun _ => rfl)) (fun _ => rfl)))) simSsNil)))

noncomputable def c_s_sub : CM := defM 3 (List.replicate 0 .unb) (ssCons (sRet (eCall c_s_add (esCons (eLoc 0) (esCons (eCall c_s_neg (esCons (eLoc 1) esNil)) (esCons (eLoc 2) esNil))))) ssNil)
theorem s_s_sub : SimC (GG prog p loose w mean mg mb) 4 224 c_s_sub := by
  refine' wDef [(Str.ofString "x"), (Str.ofString "y"), (Str.ofString "w")] [] [(Str.ofString "s_add"), (Str.ofString "s_neg")] ?ho ?hcd ?hb ?hN ?hc ?hk ?hm
  case ho => (show List.lookup 224 (KK w.params) = some ⟨_, _, .func (fnOf _ _ _ _ _ _ _ _ _ _ _ _), _⟩; k_is)
  case hcd => kernel_rfl
  case hb => exact fun vs h => by obtain ⟨a, b, c, rfl⟩ := len3 h; rfl
  case hN => kernel_rfl
  case hc => kernel_rfl
  case hk => rfl
  case hm => exact fun N => (simSsCons (simRet (wCall N 0 ns_s_add rfl if_s_add s_s_add (by decide) ⟨fun _ => rfl, ⟨fun _ => rfl, ⟨fun _ => rfl, trivial⟩⟩⟩ (simCons (wLoc N 0 rfl) (simCons (wCall N 1 ns_s_neg rfl if_s_neg s_s_neg (by decide) ⟨fun _ => rfl, trivial⟩ (simCons (wLoc N 1 rfl) simNil (fun _ => rfl))) (simCons (wLoc N 2 rfl) simNil (fun _ => rfl)) (fun _ => rfl)) (fun _ => rfl)))) simSsNil)

noncomputable def c_sieve : CM := defM 1 (List.replicate 4 .unb) (ssCons (sAsg 1 (eRep (eLst (esCons (eBool true) esNil)) (eBin oAdd (eLoc 0) (eInt 1)))) (ssCons (sAsg 2 (eLst esNil)) (ssCons (sForR 3 (rng2 (eInt 2) (eBin oAdd (eLoc 0) (eInt 1))) (ssCons (sIf (tVal (eSub (eLoc 1) (eLoc 3))) (ssCons (sExp (eApp (eLoc 2) (eLoc 3))) (ssCons (sForR 4 (rng3 (eBin oMul (eLoc 3) (eLoc 3)) (eBin oAdd (eLoc 0) (eInt 1)) (eLoc 3)) (ssCons (sSto (eBool false) (eLoc 1) (eLoc 4)) ssNil)) ssNil)) ssNil) ssNil)) (ssCons (sRet (eLoc 2)) ssNil))))
theorem s_sieve : SimC (GG prog p loose w mean mg mb) 1 273 c_sieve := by
  refine' wDef [(Str.ofString "n")] [(Str.ofString "is_left"), (Str.ofString "found"), (Str.ofString "one"), (Str.ofString "many")] [(Str.ofString "range")] ?ho ?hcd ?hb ?hN ?hc ?hk ?hm
  case ho => (show List.lookup 273 (KK w.params) = some ⟨_, _, .func (fnOf _ _ _ _ _ _ _ _ _ _ _ _), _⟩; k_is)
  case hcd => kernel_rfl
  case hb => exact fun vs h => by obtain ⟨a, rfl⟩ := len1 h; rfl
  case hN => kernel_rfl
  case hc => kernel_rfl
  case hk => rfl
  case hm => exact fun N => (simSsCons (wAsg N 1 rfl (fun _ => rfl) (simRep (simLst (simCons simBool simNil (fun _ => rfl))) (simBin okAdd (wLoc N 0 rfl) simInt))) (simSsCons (wAsg N 2 rfl (fun _ => rfl) (simLst simNil)) (simSsCons (wForR N 3 rfl (fun _ _ => rfl) (simRng2 (N.boot b_range 0 rfl) ⟨fun _ => rfl, ⟨fun _ => rfl, trivial⟩⟩ simInt (simBin okAdd (wLoc N 0 rfl) simInt)) (simSsCons (simIf (simTVal (simSub (fun _ _ _ => rfl) (wLoc N 1 rfl) (wLoc N 3 rfl)) (fun _ _ => rfl)) (simSsCons (simExp (simApp ⟨fun _ => rfl, trivial⟩ (fun _ => ⟨_, rfl⟩) (wLoc N 2 rfl) (wLoc N 3 rfl)) (fun c _ => notInter c) (fun _ => rfl)) (simSsCons (wForR N 4 rfl (fun _ _ => rfl) (simRng3 (N.boot b_range 0 rfl) ⟨fun _ => rfl, ⟨fun _ => rfl, ⟨fun _ => rfl, trivial⟩⟩⟩ (simBin okMul (wLoc N 3 rfl) (wLoc N 3 rfl)) (simBin okAdd (wLoc N 0 rfl) simInt) (wLoc N 3 rfl)) (simSsCons (simSto (fun _ => rfl) simBool (wLoc N 1 rfl) (wLoc N 4 rfl)) simSsNil)) simSsNil)) simSsNil) simSsNil)) (simSsCons (simRet (wLoc N 2 rfl)) simSsNil))))

noncomputable def c_need_count : CM := defM 1 (List.replicate 0 .unb) (ssCons (sIf (tCmp Z.ltB (eLoc 0) (eInt 0)) (ssCons sNever ssNil) ssNil) ssNil)
theorem s_need_count : SimC (GG prog p loose w mean mg mb) 1 280 c_need_count := by
  refine' wDef [(Str.ofString "n")] [] [] ?ho ?hcd ?hb ?hN ?hc ?hk ?hm
  case ho => (show List.lookup 280 (KK w.params) = some ⟨_, _, .func (fnOf _ _ _ _ _ _ _ _ _ _ _ _), _⟩; k_is)
  case hcd => kernel_rfl
  case hb => exact fun vs h => by obtain ⟨a, rfl⟩ := len1 h; rfl
  case hN => kernel_rfl
  case hc => kernel_rfl
  case hk => rfl
  case hm => exact fun N => (simSsCons (simIf (simTCmp okLt (wLoc N 0 rfl) simInt) (simSsCons simNever simSsNil) simSsNil) simSsNil)

noncomputable def c_swing_exponent : CM := defM 2 (List.replicate 2 .unb) (ssCons (sTupS [3, 2] (eTup (esCons (eInt 0) (esCons (eBin oDiv (eLoc 0) (eLoc 1)) esNil)))) (ssCons (loopW (tCmp (fun a b => Z.ltB b a) (eLoc 3) (eInt 0)) (ssCons (sAug 2 oAdd (eBin oMod (eLoc 3) (eInt 2))) (ssCons (sAsg 3 (eBin oDiv (eLoc 3) (eLoc 1))) ssNil)) 100) (ssCons (sRet (eLoc 2)) ssNil)))
theorem s_swing_exponent : SimC (GG prog p loose w mean mg mb) 1 301 c_swing_exponent := by
  refine' wDef [(Str.ofString "n"), (Str.ofString "prime")] [(Str.ofString "found"), (Str.ofString "rest")] [] ?ho ?hcd ?hb ?hN ?hc ?hk ?hm
  case ho => (show List.lookup 301 (KK w.params) = some ⟨_, _, .func (fnOf _ _ _ _ _ _ _ _ _ _ _ _), _⟩; k_is)
  case hcd => kernel_rfl
  case hb => exact fun vs h => by obtain ⟨a, b, rfl⟩ := len2 h; rfl
  case hN => kernel_rfl
  case hc => kernel_rfl
  case hk => rfl
  case hm => exact fun N => (simSsCons (wTupS2 N 2 3 rfl rfl (fun _ => rfl) (fun c hc => by cases c; cases hc; rfl) (simTup (simCons simInt (simCons (simBin okDiv (wLoc N 0 rfl) (wLoc N 1 rfl)) simNil (fun _ => rfl)) (fun _ => rfl)))) (simSsCons (simWhile 100 (simTCmp okGt (wLoc N 3 rfl) simInt) (simSsCons (wAug N 2 okIAdd rfl (simBin okMod (wLoc N 3 rfl) simInt)) (simSsCons (wAsg N 3 rfl (fun _ => rfl) (simBin okDiv (wLoc N 3 rfl) (wLoc N 1 rfl))) simSsNil))) (simSsCons (simRet (wLoc N 2 rfl)) simSsNil)))

noncomputable def c_mul_school : CM := defM 3 (List.replicate 7 .unb) (ssCons (sTupS [4, 3] (eTup (esCons (eRep (eLst (esCons (eInt 0) esNil)) (eBin oAdd (eLen (eLoc 0)) (eLen (eLoc 1)))) (esCons (eBin oSub (eBin oShl (eInt 1) (eLoc 2)) (eInt 1)) esNil)))) (ssCons (sForE 5 6 100 (eLoc 0) (ssCons (sAsg 7 (eInt 0)) (ssCons (sForE 8 9 100 (eLoc 1) (ssCons (sAug 7 oAdd (eBin oAdd (eSub (eLoc 3) (eBin oAdd (eLoc 5) (eLoc 8))) (eBin oMul (eLoc 6) (eLoc 9)))) (ssCons (sSto (eBin oAnd (eLoc 7) (eLoc 4)) (eLoc 3) (eBin oAdd (eLoc 5) (eLoc 8))) (ssCons (sAug 7 oShr (eLoc 2)) ssNil)))) (ssCons (sSto (eLoc 7) (eLoc 3) (eBin oAdd (eLoc 5) (eLen (eLoc 1)))) ssNil)))) (ssCons (sRet (eCall c_normal (esCons (eLoc 3) esNil))) ssNil)))
theorem s_mul_school : SimC (GG prog p loose w mean mg mb) 2 320 c_mul_school := by
  refine' wDef [(Str.ofString "a"), (Str.ofString "b"), (Str.ofString "w")] [(Str.ofString "found"), (Str.ofString "mask"), (Str.ofString "at"), (Str.ofString "limb"), (Str.ofString "carry"), (Str.ofString "spot"), (Str.ofString "other")] [(Str.ofString "enumerate"), (Str.ofString "normal"), (Str.ofString "len")] ?ho ?hcd ?hb ?hN ?hc ?hk ?hm
  case ho => (show List.lookup 320 (KK w.params) = some ⟨_, _, .func (fnOf _ _ _ _ _ _ _ _ _ _ _ _), _⟩; k_is)
  case hcd => kernel_rfl
  case hb => exact fun vs h => by obtain ⟨a, b, c, rfl⟩ := len3 h; rfl
  case hN => kernel_rfl
  case hc => kernel_rfl
  case hk => rfl
  case hm => exact fun N => (simSsCons (wTupS2 N 3 4 rfl rfl (fun _ => rfl) (fun c hc => by cases c; cases hc; rfl) (simTup (simCons (simRep (simLst (simCons simInt simNil (fun _ => rfl))) (simBin okAdd (simLen (N.boot b_len 2 rfl) ⟨fun _ => rfl, trivial⟩ (wLoc N 0 rfl)) (simLen (N.boot b_len 2 rfl) ⟨fun _ => rfl, trivial⟩ (wLoc N 1 rfl)))) (simCons (simBin okSub (simBin okShl simInt (wLoc N 2 rfl)) simInt) simNil (fun _ => rfl)) (fun _ => rfl)))) (simSsCons (wForE N 100 5 6 0 b_enumerate rfl ⟨fun _ => rfl, trivial⟩ rfl rfl (fun _ _ => rfl) (wLoc N 0 rfl) (simSsCons (wAsg N 7 rfl (fun _ => rfl) simInt) (simSsCons (wForE N 100 8 9 0 b_enumerate rfl ⟨fun _ => rfl, trivial⟩ rfl rfl (fun _ _ => rfl) (wLoc N 1 rfl) (simSsCons (wAug N 7 okIAdd rfl (simBin okAdd (simSub (fun _ _ _ => rfl) (wLoc N 3 rfl) (simBin okAdd (wLoc N 5 rfl) (wLoc N 8 rfl))) (simBin okMul (wLoc N 6 rfl) (wLoc N 9 rfl)))) (simSsCons (simSto (fun _ => rfl) (simBin okAnd (wLoc N 7 rfl) (wLoc N 4 rfl)) (wLoc N 3 rfl) (simBin okAdd (wLoc N 5 rfl) (wLoc N 8 rfl))) (simSsCons (wAug N 7 okIShr rfl (wLoc N 2 rfl)) simSsNil)))) (simSsCons (simSto (fun _ => rfl) (wLoc N 7 rfl) (wLoc N 3 rfl) (simBin okAdd (wLoc N 5 rfl) (simLen (N.boot b_len 2 rfl) ⟨fun _ => rfl, trivial⟩ (wLoc N 1 rfl)))) simSsNil)))) (simSsCons (simRet (wCall N 1 ns_normal rfl if_normal s_normal (by decide) ⟨fun _ => rfl, trivial⟩ (simCons (wLoc N 3 rfl) simNil (fun _ => rfl)))) simSsNil)))

noncomputable def c_divrem_small : CM := defM 3 (List.replicate 2 .unb) (ssCons (sTup [3, 4] (eCall c_divrem_limb (esCons (eLoc 0) (esCons (eSub (eLoc 1) (eInt 0)) (esCons (eLoc 2) esNil))))) (ssCons (sRet (eTup (esCons (eLoc 3) (esCons (eIte (tCmp (fun a b => Z.ltB b a) (eLoc 4) (eInt 0)) (eLst (esCons (eLoc 4) esNil)) (eLst esNil)) esNil)))) ssNil))
theorem s_divrem_small : SimC (GG prog p loose w mean mg mb) 3 327 c_divrem_small := by
  refine' wDef [(Str.ofString "a"), (Str.ofString "b"), (Str.ofString "w")] [(Str.ofString "quotient"), (Str.ofString "rest")] [(Str.ofString "divrem_limb")] ?ho ?hcd ?hb ?hN ?hc ?hk ?hm
  case ho => (show List.lookup 327 (KK w.params) = some ⟨_, _, .func (fnOf _ _ _ _ _ _ _ _ _ _ _ _), _⟩; k_is)
  case hcd => kernel_rfl
  case hb => exact fun vs h => by obtain ⟨a, b, c, rfl⟩ := len3 h; rfl
  case hN => kernel_rfl
  case hc => kernel_rfl
  case hk => rfl
  case hm => exact fun N => (simSsCons (wTup2 N 3 4 rfl rfl (fun _ => rfl) (fun _ => rfl) (wCall N 0 ns_divrem_limb rfl if_divrem_limb s_divrem_limb (by decide) ⟨fun _ => rfl, ⟨fun _ => rfl, ⟨fun _ => rfl, trivial⟩⟩⟩ (simCons (wLoc N 0 rfl) (simCons (simSub (fun _ _ _ => rfl) (wLoc N 1 rfl) simInt) (simCons (wLoc N 2 rfl) simNil (fun _ => rfl)) (fun _ => rfl)) (fun _ => rfl)))) (simSsCons (simRet (simTup (simCons (wLoc N 3 rfl) (simCons (simIte (simTCmp okGt (wLoc N 4 rfl) simInt) (simLst (simCons (wLoc N 4 rfl) simNil (fun _ => rfl))) (simLst simNil)) simNil (fun _ => rfl)) (fun _ => rfl)))) simSsNil))

noncomputable def c_divrem_school : CM := defM 3 (List.replicate 4 .unb) (ssCons (sIf (tCmp Z.eqB (eLen (eLoc 1)) (eInt 0)) (ssCons sNever ssNil) ssNil) (ssCons (sIf (tCmp Z.ltB (eCall c_compare (esCons (eLoc 0) (esCons (eLoc 1) esNil))) (eInt 0)) (ssCons (sRet (eTup (esCons (eLst esNil) (esCons (eSli (eLoc 0) pNone pNone) esNil)))) ssNil) ssNil) (ssCons (sIf (tCmp Z.eqB (eLen (eLoc 1)) (eInt 1)) (ssCons (sRet (eCall c_divrem_small (esCons (eLoc 0) (esCons (eLoc 1) (esCons (eLoc 2) esNil))))) ssNil) ssNil) ssNever)))
theorem s_divrem_school : SimC (GG prog p loose w mean mg mb) 4 362 c_divrem_school := by
  refine' wDef [(Str.ofString "a"), (Str.ofString "b"), (Str.ofString "w")] [(Str.ofString "shift"), (Str.ofString "divisor"), (Str.ofString "rest"), (Str.ofString "quotient")] [(Str.ofString "shift_left"), (Str.ofString "divide_rows"), (Str.ofString "len"), (Str.ofString "compare"), (Str.ofString "divrem_small"), (Str.ofString "bits"), (Str.ofString "normal"), (Str.ofString "shift_right")] ?ho ?hcd ?hb ?hN ?hc ?hk ?hm
  case ho => (show List.lookup 362 (KK w.params) = some ⟨_, _, .func (fnOf _ _ _ _ _ _ _ _ _ _ _ _), _⟩; k_is)
  case hcd => kernel_rfl
  case hb => exact fun vs h => by obtain ⟨a, b, c, rfl⟩ := len3 h; rfl
  case hN => kernel_rfl
  case hc => kernel_rfl
  case hk => rfl
  case hm => exact fun N => (simSsCons (simIf (simTCmp okEq (simLen (N.boot b_len 2 rfl) ⟨fun _ => rfl, trivial⟩ (wLoc N 1 rfl)) simInt) (simSsCons simNever simSsNil) simSsNil) (simSsCons (simIf (simTCmp okLt (wCall N 3 ns_compare rfl if_compare s_compare (by decide) ⟨fun _ => rfl, ⟨fun _ => rfl, trivial⟩⟩ (simCons (wLoc N 0 rfl) (simCons (wLoc N 1 rfl) simNil (fun _ => rfl)) (fun _ => rfl))) simInt) (simSsCons (simRet (simTup (simCons (simLst simNil) (simCons (simSli (fun _ _ => rfl) (fun _ _ => rfl) (wLoc N 0 rfl) simPNone simPNone) simNil (fun _ => rfl)) (fun _ => rfl)))) simSsNil) simSsNil) (simSsCons (simIf (simTCmp okEq (simLen (N.boot b_len 2 rfl) ⟨fun _ => rfl, trivial⟩ (wLoc N 1 rfl)) simInt) (simSsCons (simRet (wCall N 4 ns_divrem_small rfl if_divrem_small s_divrem_small (by decide) ⟨fun _ => rfl, ⟨fun _ => rfl, ⟨fun _ => rfl, trivial⟩⟩⟩ (simCons (wLoc N 0 rfl) (simCons (wLoc N 1 rfl) (simCons (wLoc N 2 rfl) simNil (fun _ => rfl)) (fun _ => rfl)) (fun _ => rfl)))) simSsNil) simSsNil) simSsNever)))

end
end Mine
end
-- part M19
section
namespace Mine
open PySem PySem.W PySem.Spec PySem.Calls PyProof.Rows
theorem fill3 : (PySem.Challenge.rw_xw0116_01, KK) = (PySem.Challenge.rw_xw0116_01, KK) := by
  k_fill
  rfl
section
variable {prog p : Program} {loose : List Str} {w : World} {mean : ExcName → Option Value} {mg mb : Str → Option Value}
theorem clo_text_of {P : Params} {o : Obj} (h : List.lookup 182 (KK P) = some o) {a b c d e f : Str} (T : CloText (cloOf (some o)) a b c d e f) : CloText (cloI P) a b c d e f := by
  unfold cloI; rw [h]; exact T
theorem clo_text : CloText (cloI w.params) (Str.ofString "x") (Str.ofString "y") (Str.ofString "divrem") (Str.ofString "m") (Str.ofString "mul") (Str.ofString "w") := by
  refine' clo_text_of ?h ?T
  case h => (show List.lookup 182 (KK w.params) = some _; k_is)
  case T =>
    exact {
      body := ⟨_, _, _, _, _, _, _, _, _, _, _, _, rfl⟩
      names := rfl
      bind := fun _ _ _ _ _ _ _ => rfl
      lx := by kernel_rfl
      ly := by kernel_rfl
      ne := by decide
      fd := by kernel_rfl
      fmm := by kernel_rfl
      fm := by kernel_rfl
      fw := by kernel_rfl
      cl := fun _ _ _ _ => ⟨by kernel_rfl, by kernel_rfl, by kernel_rfl, by kernel_rfl⟩
      dd := ⟨by kernel_rfl, by kernel_rfl, by kernel_rfl, by kernel_rfl, by kernel_rfl, by kernel_rfl⟩
      dc := ⟨by kernel_rfl, by kernel_rfl, by kernel_rfl, by kernel_rfl⟩
      co := rfl
      gen := rfl
      kind := rfl
      cell := noCell (by kernel_rfl) }

theorem dt_of {P : Params} {o : Obj} (h : List.lookup 182 (KK P) = some o) {Q : CloInfo → Prop} (T : Q (cloOf (some o))) : Q (cloI P) := by
  unfold cloI; rw [h]; exact T
theorem dt_sim : SimC (GG prog p loose w mean mg mb) 1 182 (dtM 0) := by
  refine' dt_of (P := w.params) (Q := fun I => SimC ⟨prog, w, KK w.params, p, loose, mean, mg, mb, I⟩ 1 182 (dtM 0)) ?h ?T
  case h => (show List.lookup 182 (KK w.params) = some _; k_is)
  case T =>
    refine' simDT (cA := 181) (x1 := Str.ofString "m") (x2 := Str.ofString "w") (x3 := Str.ofString "mul") (x4 := Str.ofString "divrem") ?ho ?T
    case ho => (show List.lookup 182 (KK w.params) = some ⟨_, _, .func (fnOf _ _ _ _ _ _ _ _ _ _ _ _), _⟩; k_is)
    case T =>
      exact {
        hbody := ⟨_, _, rfl⟩
        hcd := by kernel_rfl
        hch := fun h X => codeHd_of_K X (by kernel_rfl)
        hb := fun _ _ _ _ => rfl
        hkind := fun _ _ _ _ => by kernel_rfl
        hnd := by decide
        hcells := fun _ => rfl
        hbc := fun _ _ _ _ _ => ⟨by kernel_rfl, by kernel_rfl, by kernel_rfl, by kernel_rfl⟩
        hclos := fun _ => by kernel_rfl
        hd0 := rfl
        hk0 := rfl
        ha := fun _ => rfl
        hq := fun _ => by kernel_rfl
        hloc := by kernel_rfl
        hdb := by kernel_rfl
        co := rfl
        gen := rfl
        kind := rfl }
theorem sw_sim {cS cE cP : CM} {r : Nat} (hS : SimC (GG prog p loose w mean mg mb) r 273 cS) (hE : SimC (GG prog p loose w mean mg mb) r 301 cE) (hP : SimC (GG prog p loose w mean mg mb) r 294 cP) : SimC (GG prog p loose w mean mg mb) (r + 1) 306 (swM cS cE cP) := by
  refine' simSw (xn := Str.ofString "n") (xw := Str.ofString "w") (xm := Str.ofString "mul") (xp := Str.ofString "pairs") (xr := Str.ofString "prime") (xq := Str.ofString "pair") ?ho ?T ns_sieve ns_swing_exponent ns_product_of_powers if_sieve if_swing_exponent if_product_of_powers hS hE hP
  case ho => (show List.lookup 306 (KK w.params) = some ⟨_, _, .func (fnOf _ _ _ _ _ _ _ _ _ _ _ _), _⟩; k_is)
  case T =>
    exact {
      hbody := ⟨_, _, _, _, _, _, _, _, _, _, _, _, _, _, _, _, _, _, _, _, _, _, _, _, _, _, _, _, _, _, rfl, fun _ => by kernel_rfl, fun _ _ => rfl, fun _ _ => rfl⟩
      hcd := by kernel_rfl
      hb := fun _ _ _ => rfl
      hkind := fun _ _ _ => by kernel_rfl
      hnd := by decide
      hcells := fun _ => rfl
      hbc := fun _ _ _ _ => by kernel_rfl
      hbl := fun _ _ _ _ => ⟨by kernel_rfl, by kernel_rfl⟩
      hclos1 := fun _ => by with_unfolding_all rfl
      hclos2 := fun _ => by with_unfolding_all rfl
      hc1 := noCell (by kernel_rfl)
      hc2 := noCell (by kernel_rfl)
      hk1 := rfl
      hk2 := rfl
      hn1 := by decide
      hn2 := by decide
      hx1 := by kernel_rfl
      hx2 := by kernel_rfl
      hrn := fun _ _ => by kernel_rfl
      hrf := fun _ _ => by kernel_rfl
      lw := by kernel_rfl
      lm := by kernel_rfl
      lp := by kernel_rfl
      ln := by kernel_rfl
      gS := by kernel_rfl
      gP := by kernel_rfl
      nd := by decide
      dd := ⟨by kernel_rfl, by kernel_rfl, by kernel_rfl, by kernel_rfl, by kernel_rfl, by kernel_rfl, by kernel_rfl, by kernel_rfl, by kernel_rfl⟩
      co := rfl
      gen := rfl
      kind := rfl }
end
end Mine
end
-- part M20
section
namespace Mine
open PySem PySem.W PySem.Spec PySem.Calls PyProof.Rows
theorem fill4 : (PySem.Challenge.rw_xw0116_01, KK) = (PySem.Challenge.rw_xw0116_01, KK) := by
  k_fill
  rfl
section
variable {prog p : Program} {loose : List Str} {w : World} {mean : ExcName → Option Value} {mg mb : Str → Option Value}

noncomputable def c_times : Nat → CM := cloM 362 320 c_divrem_school c_mul_school
theorem s_times : SimV (GG prog p loose w mean mg mb) 5 c_times := simClo (G := GG prog p loose w mean mg mb) (clo_text (w := w)) if_divrem_school if_mul_school (SimC.le s_divrem_school (by decide)) (SimC.le s_mul_school (by decide))
noncomputable def c_divided_times : CM := dtM 0
theorem s_divided_times : SimC (GG prog p loose w mean mg mb) 1 182 c_divided_times := dt_sim
noncomputable def c_odd_powers : CM := defM 3 (List.replicate 3 .unb) (ssCons (sTupS [5, 4] (eTup (esCons (eLst (esCons (eLoc 0) esNil)) (esCons (eCallJ 2 c_times (esCons (eLoc 0) (esCons (eLoc 0) esNil))) esNil)))) (ssCons (sForR 3 (rng1 (eBin oSub (eBin oShl (eInt 1) (eBin oSub (eLoc 1) (eInt 1))) (eInt 1))) (ssCons (sExp (eApp (eLoc 4) (eCallJ 2 c_times (esCons (eSub (eLoc 4) (eNeg (eInt 1))) (esCons (eLoc 5) esNil))))) ssNil)) (ssCons (sRet (eLoc 4)) ssNil)))
theorem s_odd_powers : SimC (GG prog p loose w mean mg mb) 6 147 c_odd_powers := by
  refine' wDef [(Str.ofString "base"), (Str.ofString "size"), (Str.ofString "times")] [(Str.ofString "turn"), (Str.ofString "found"), (Str.ofString "square")] [(Str.ofString "range")] ?ho ?hcd ?hb ?hN ?hc ?hk ?hm
  case ho => (show List.lookup 147 (KK w.params) = some ⟨_, _, .func (fnOf _ _ _ _ _ _ _ _ _ _ _ _), _⟩; k_is)
  case hcd => kernel_rfl
  case hb => exact fun vs h => by obtain ⟨a, b, c, rfl⟩ := len3 h; rfl
  case hN => kernel_rfl
  case hc => kernel_rfl
  case hk => rfl
  case hm => exact fun N => (simSsCons (wTupS2 N 4 5 rfl rfl (fun _ => rfl) (fun c hc => by cases c; cases hc; rfl) (simTup (simCons (simLst (simCons (wLoc N 0 rfl) simNil (fun _ => rfl))) (simCons (wCallJ N 2 rfl s_times cloM_look (by decide) ⟨fun _ => rfl, ⟨fun _ => rfl, trivial⟩⟩ (simCons (wLoc N 0 rfl) (simCons (wLoc N 0 rfl) simNil (fun _ => rfl)) (fun _ => rfl))) simNil (fun _ => rfl)) (fun _ => rfl)))) (simSsCons (wForR N 3 rfl (fun _ _ => rfl) (simRng1 (N.boot b_range 0 rfl) ⟨fun _ => rfl, trivial⟩ (simBin okSub (simBin okShl simInt (simBin okSub (wLoc N 1 rfl) simInt)) simInt)) (simSsCons (simExp (simApp ⟨fun _ => rfl, trivial⟩ (fun _ => ⟨_, rfl⟩) (wLoc N 4 rfl) (wCallJ N 2 rfl s_times cloM_look (by decide) ⟨fun _ => rfl, ⟨fun _ => rfl, trivial⟩⟩ (simCons (simSub (fun _ _ _ => rfl) (wLoc N 4 rfl) (simNeg simInt)) (simCons (wLoc N 5 rfl) simNil (fun _ => rfl)) (fun _ => rfl)))) (fun c _ => notInter c) (fun _ => rfl)) simSsNil)) (simSsCons (simRet (wLoc N 4 rfl)) simSsNil)))

noncomputable def c_by_windows : CM := defM 6 (List.replicate 6 .unb) (ssCons (sIf (tEqL (eLoc 1) (eLst esNil)) (ssCons (sRet (eLoc 4)) ssNil) ssNil) (ssCons (sTupS [8, 7] (eTup (esCons (eCall c_odd_powers (esCons (eLoc 0) (esCons (eLoc 2) (esCons (eLoc 5) esNil)))) (esCons eNone esNil)))) (ssCons (sAsg 6 (eBin oSub (eCall c_bits (esCons (eLoc 1) (esCons (eLoc 3) esNil))) (eInt 1))) (ssCons (loopW (tCmp (fun a b => Z.leB b a) (eLoc 6) (eInt 0)) (ssCons (sIf (tCmp Z.eqB (eCall c_bit (esCons (eLoc 1) (esCons (eLoc 6) (esCons (eLoc 3) esNil)))) (eInt 0)) (ssCons (sAsg 8 (eCallJ 5 c_times (esCons (eLoc 8) (esCons (eLoc 8) esNil)))) (ssCons (sAug 6 oSub (eInt 1)) (ssCons sCnt ssNil))) ssNil) (ssCons (sTup [9, 10] (eCall c_window_at (esCons (eLoc 1) (esCons (eLoc 6) (esCons (eLoc 2) (esCons (eLoc 3) esNil)))))) (ssCons (sIf (tNone (eLoc 8)) (ssCons (sAsg 8 (eSub (eLoc 7) (eBin oDiv (eLoc 9) (eInt 2)))) ssNil) (ssCons (sForR 11 (rng1 (eLoc 10)) (ssCons (sAsg 8 (eCallJ 5 c_times (esCons (eLoc 8) (esCons (eLoc 8) esNil)))) ssNil)) (ssCons (sAsg 8 (eCallJ 5 c_times (esCons (eLoc 8) (esCons (eSub (eLoc 7) (eBin oDiv (eLoc 9) (eInt 2))) esNil)))) ssNil))) (ssCons (sAug 6 oSub (eLoc 10)) ssNil)))) 100) (ssCons (sRet (eLoc 8)) ssNil)))))
theorem s_by_windows : SimC (GG prog p loose w mean mg mb) 7 161 c_by_windows := by
  refine' wDef [(Str.ofString "base"), (Str.ofString "e"), (Str.ofString "size"), (Str.ofString "w"), (Str.ofString "one"), (Str.ofString "times")] [(Str.ofString "spot"), (Str.ofString "table"), (Str.ofString "found"), (Str.ofString "value"), (Str.ofString "many"), (Str.ofString "turn")] [(Str.ofString "odd_powers"), (Str.ofString "bits"), (Str.ofString "window_at"), (Str.ofString "bit"), (Str.ofString "range")] ?ho ?hcd ?hb ?hN ?hc ?hk ?hm
  case ho => (show List.lookup 161 (KK w.params) = some ⟨_, _, .func (fnOf _ _ _ _ _ _ _ _ _ _ _ _), _⟩; k_is)
  case hcd => kernel_rfl
  case hb => exact fun vs h => by obtain ⟨a, b, c, d, e, f, rfl⟩ := len6 h; rfl
  case hN => kernel_rfl
  case hc => kernel_rfl
  case hk => rfl
  case hm => exact fun N => (simSsCons (simIf (simTEqL (wLoc N 1 rfl) (simLst simNil)) (simSsCons (simRet (wLoc N 4 rfl)) simSsNil) simSsNil) (simSsCons (wTupS2 N 7 8 rfl rfl (fun _ => rfl) (fun c hc => by cases c; cases hc; rfl) (simTup (simCons (wCall N 0 ns_odd_powers rfl if_odd_powers s_odd_powers (by decide) ⟨fun _ => rfl, ⟨fun _ => rfl, ⟨fun _ => rfl, trivial⟩⟩⟩ (simCons (wLoc N 0 rfl) (simCons (wLoc N 2 rfl) (simCons (wLoc N 5 rfl) simNil (fun _ => rfl)) (fun _ => rfl)) (fun _ => rfl))) (simCons simNone simNil (fun _ => rfl)) (fun _ => rfl)))) (simSsCons (wAsg N 6 rfl (fun _ => rfl) (simBin okSub (wCall N 1 ns_bits rfl if_bits s_bits (by decide) ⟨fun _ => rfl, ⟨fun _ => rfl, trivial⟩⟩ (simCons (wLoc N 1 rfl) (simCons (wLoc N 3 rfl) simNil (fun _ => rfl)) (fun _ => rfl))) simInt)) (simSsCons (simWhile 100 (simTCmp okGe (wLoc N 6 rfl) simInt) (simSsCons (simIf (simTCmp okEq (wCall N 3 ns_bit rfl if_bit s_bit (by decide) ⟨fun _ => rfl, ⟨fun _ => rfl, ⟨fun _ => rfl, trivial⟩⟩⟩ (simCons (wLoc N 1 rfl) (simCons (wLoc N 6 rfl) (simCons (wLoc N 3 rfl) simNil (fun _ => rfl)) (fun _ => rfl)) (fun _ => rfl))) simInt) (simSsCons (wAsg N 8 rfl (fun _ => rfl) (wCallJ N 5 rfl s_times cloM_look (by decide) ⟨fun _ => rfl, ⟨fun _ => rfl, trivial⟩⟩ (simCons (wLoc N 8 rfl) (simCons (wLoc N 8 rfl) simNil (fun _ => rfl)) (fun _ => rfl)))) (simSsCons (wAug N 6 okISub rfl simInt) (simSsCons simCnt simSsNil))) simSsNil) (simSsCons (wTup2 N 9 10 rfl rfl (fun _ => rfl) (fun _ => rfl) (wCall N 2 ns_window_at rfl if_window_at s_window_at (by decide) ⟨fun _ => rfl, ⟨fun _ => rfl, ⟨fun _ => rfl, ⟨fun _ => rfl, trivial⟩⟩⟩⟩ (simCons (wLoc N 1 rfl) (simCons (wLoc N 6 rfl) (simCons (wLoc N 2 rfl) (simCons (wLoc N 3 rfl) simNil (fun _ => rfl)) (fun _ => rfl)) (fun _ => rfl)) (fun _ => rfl)))) (simSsCons (simIf (wNone (wLoc N 8 rfl)) (simSsCons (wAsg N 8 rfl (fun _ => rfl) (simSub (fun _ _ _ => rfl) (wLoc N 7 rfl) (simBin okDiv (wLoc N 9 rfl) simInt))) simSsNil) (simSsCons (wForR N 11 rfl (fun _ _ => rfl) (simRng1 (N.boot b_range 4 rfl) ⟨fun _ => rfl, trivial⟩ (wLoc N 10 rfl)) (simSsCons (wAsg N 8 rfl (fun _ => rfl) (wCallJ N 5 rfl s_times cloM_look (by decide) ⟨fun _ => rfl, ⟨fun _ => rfl, trivial⟩⟩ (simCons (wLoc N 8 rfl) (simCons (wLoc N 8 rfl) simNil (fun _ => rfl)) (fun _ => rfl)))) simSsNil)) (simSsCons (wAsg N 8 rfl (fun _ => rfl) (wCallJ N 5 rfl s_times cloM_look (by decide) ⟨fun _ => rfl, ⟨fun _ => rfl, trivial⟩⟩ (simCons (wLoc N 8 rfl) (simCons (simSub (fun _ _ _ => rfl) (wLoc N 7 rfl) (simBin okDiv (wLoc N 9 rfl) simInt)) simNil (fun _ => rfl)) (fun _ => rfl)))) simSsNil))) (simSsCons (wAug N 6 okISub rfl (wLoc N 10 rfl)) simSsNil))))) (simSsCons (simRet (wLoc N 8 rfl)) simSsNil)))))

noncomputable def c_power_mod : CM := defM 7 (List.replicate 1 .unb) (ssCons (sExp (eCall c_check_modulus (esCons (eLoc 2) esNil))) (ssCons (sAsg 7 (eSub (eCallV 6 362 c_divrem_school (esCons (eLoc 0) (esCons (eLoc 2) (esCons (eLoc 3) esNil)))) (eInt 1))) (ssCons (sRet (eCall c_by_windows (esCons (eLoc 7) (esCons (eLoc 1) (esCons (eLoc 4) (esCons (eLoc 3) (esCons (eCall c_unit_rest (esCons (eLoc 2) esNil)) (esCons (eCall c_divided_times (esCons (eLoc 2) (esCons (eLoc 3) (esCons (eLoc 5) (esCons (eLoc 6) esNil))))) esNil)))))))) ssNil)))
theorem s_power_mod : SimC (GG prog p loose w mean mg mb) 8 189 c_power_mod := by
  refine' wDef [(Str.ofString "a"), (Str.ofString "e"), (Str.ofString "m"), (Str.ofString "w"), (Str.ofString "size"), (Str.ofString "mul"), (Str.ofString "divrem")] [(Str.ofString "base")] [(Str.ofString "check_modulus"), (Str.ofString "by_windows"), (Str.ofString "unit_rest"), (Str.ofString "divided_times")] ?ho ?hcd ?hb ?hN ?hc ?hk ?hm
  case ho => (show List.lookup 189 (KK w.params) = some ⟨_, _, .func (fnOf _ _ _ _ _ _ _ _ _ _ _ _), _⟩; k_is)
  case hcd => kernel_rfl
  case hb => exact fun vs h => by obtain ⟨a, b, c, d, e, f, g, rfl⟩ := len7 h; rfl
  case hN => kernel_rfl
  case hc => kernel_rfl
  case hk => rfl
  case hm => exact fun N => (simSsCons (simExp (wCall N 0 ns_check_modulus rfl if_check_modulus s_check_modulus (by decide) ⟨fun _ => rfl, trivial⟩ (simCons (wLoc N 2 rfl) simNil (fun _ => rfl))) (fun c _ => notInter c) (fun _ => rfl)) (simSsCons (wAsg N 7 rfl (fun _ => rfl) (simSub (fun _ _ _ => rfl) (wCallV N 6 rfl if_divrem_school s_divrem_school (by decide) ⟨fun _ => rfl, ⟨fun _ => rfl, ⟨fun _ => rfl, trivial⟩⟩⟩ (simCons (wLoc N 0 rfl) (simCons (wLoc N 2 rfl) (simCons (wLoc N 3 rfl) simNil (fun _ => rfl)) (fun _ => rfl)) (fun _ => rfl))) simInt)) (simSsCons (simRet (wCall N 1 ns_by_windows rfl if_by_windows s_by_windows (by decide) ⟨fun _ => rfl, ⟨fun _ => rfl, ⟨fun _ => rfl, ⟨fun _ => rfl, ⟨fun _ => rfl, ⟨fun _ => rfl, trivial⟩⟩⟩⟩⟩⟩ (simCons (wLoc N 7 rfl) (simCons (wLoc N 1 rfl) (simCons (wLoc N 4 rfl) (simCons (wLoc N 3 rfl) (simCons (wCall N 2 ns_unit_rest rfl if_unit_rest s_unit_rest (by decide) ⟨fun _ => rfl, trivial⟩ (simCons (wLoc N 2 rfl) simNil (fun _ => rfl))) (simCons (wCall N 3 ns_divided_times rfl if_divided_times s_divided_times (by decide) ⟨fun _ => rfl, ⟨fun _ => rfl, ⟨fun _ => rfl, ⟨fun _ => rfl, trivial⟩⟩⟩⟩ (simCons (wLoc N 2 rfl) (simCons (wLoc N 3 rfl) (simCons (wLoc N 5 rfl) (simCons (wLoc N 6 rfl) simNil (fun _ => rfl)) (fun _ => rfl)) (fun _ => rfl)) (fun _ => rfl))) simNil (fun _ => rfl)) (fun _ => rfl)) (fun _ => rfl)) (fun _ => rfl)) (fun _ => rfl)) (fun _ => rfl)))) simSsNil)))

noncomputable def c_s_mul : CM := defM 4 (List.replicate 0 .unb) (ssCons (sRet (eCall c_signed (esCons (eEqB true (eSub (eLoc 0) (eInt 0)) (eSub (eLoc 1) (eInt 0))) (esCons (eCallV 3 320 c_mul_school (esCons (eSub (eLoc 0) (eInt 1)) (esCons (eSub (eLoc 1) (eInt 1)) (esCons (eLoc 2) esNil)))) esNil)))) ssNil)
theorem s_s_mul : SimC (GG prog p loose w mean mg mb) 3 231 c_s_mul := by
  refine' wDef [(Str.ofString "x"), (Str.ofString "y"), (Str.ofString "w"), (Str.ofString "mul")] [] [(Str.ofString "signed")] ?ho ?hcd ?hb ?hN ?hc ?hk ?hm
  case ho => (show List.lookup 231 (KK w.params) = some ⟨_, _, .func (fnOf _ _ _ _ _ _ _ _ _ _ _ _), _⟩; k_is)
  case hcd => kernel_rfl
  case hb => exact fun vs h => by obtain ⟨a, b, c, d, rfl⟩ := len4 h; rfl
  case hN => kernel_rfl
  case hc => kernel_rfl
  case hk => rfl
  case hm => exact fun N => (simSsCons (simRet (wCall N 0 ns_signed rfl if_signed s_signed (by decide) ⟨fun _ => rfl, ⟨fun _ => rfl, trivial⟩⟩ (simCons (simNeB (simSub (fun _ _ _ => rfl) (wLoc N 0 rfl) simInt) (simSub (fun _ _ _ => rfl) (wLoc N 1 rfl) simInt)) (simCons (wCallV N 3 rfl if_mul_school s_mul_school (by decide) ⟨fun _ => rfl, ⟨fun _ => rfl, ⟨fun _ => rfl, trivial⟩⟩⟩ (simCons (simSub (fun _ _ _ => rfl) (wLoc N 0 rfl) simInt) (simCons (simSub (fun _ _ _ => rfl) (wLoc N 1 rfl) simInt) (simCons (wLoc N 2 rfl) simNil (fun _ => rfl)) (fun _ => rfl)) (fun _ => rfl))) simNil (fun _ => rfl)) (fun _ => rfl)))) simSsNil)

noncomputable def c_tdiv : CM := defM 4 (List.replicate 2 .unb) (ssCons (sIf (tCmp Z.eqB (eLen (eSub (eLoc 1) (eInt 1))) (eInt 0)) (ssCons sNever ssNil) ssNil) (ssCons (sTup [4, 5] (eCallV 3 362 c_divrem_school (esCons (eSub (eLoc 0) (eInt 1)) (esCons (eSub (eLoc 1) (eInt 1)) (esCons (eLoc 2) esNil))))) (ssCons (sRet (eTup (esCons (eCall c_signed (esCons (eEqB true (eSub (eLoc 0) (eInt 0)) (eSub (eLoc 1) (eInt 0))) (esCons (eLoc 4) esNil))) (esCons (eCall c_signed (esCons (eSub (eLoc 0) (eInt 0)) (esCons (eLoc 5) esNil))) esNil)))) ssNil)))
theorem s_tdiv : SimC (GG prog p loose w mean mg mb) 5 238 c_tdiv := by
  refine' wDef [(Str.ofString "x"), (Str.ofString "y"), (Str.ofString "w"), (Str.ofString "divrem")] [(Str.ofString "quotient"), (Str.ofString "rest")] [(Str.ofString "len"), (Str.ofString "signed")] ?ho ?hcd ?hb ?hN ?hc ?hk ?hm
  case ho => (show List.lookup 238 (KK w.params) = some ⟨_, _, .func (fnOf _ _ _ _ _ _ _ _ _ _ _ _), _⟩; k_is)
  case hcd => kernel_rfl
  case hb => exact fun vs h => by obtain ⟨a, b, c, d, rfl⟩ := len4 h; rfl
  case hN => kernel_rfl
  case hc => kernel_rfl
  case hk => rfl
  case hm => exact fun N => (simSsCons (simIf (simTCmp okEq (simLen (N.boot b_len 0 rfl) ⟨fun _ => rfl, trivial⟩ (simSub (fun _ _ _ => rfl) (wLoc N 1 rfl) simInt)) simInt) (simSsCons simNever simSsNil) simSsNil) (simSsCons (wTup2 N 4 5 rfl rfl (fun _ => rfl) (fun _ => rfl) (wCallV N 3 rfl if_divrem_school s_divrem_school (by decide) ⟨fun _ => rfl, ⟨fun _ => rfl, ⟨fun _ => rfl, trivial⟩⟩⟩ (simCons (simSub (fun _ _ _ => rfl) (wLoc N 0 rfl) simInt) (simCons (simSub (fun _ _ _ => rfl) (wLoc N 1 rfl) simInt) (simCons (wLoc N 2 rfl) simNil (fun _ => rfl)) (fun _ => rfl)) (fun _ => rfl)))) (simSsCons (simRet (simTup (simCons (wCall N 1 ns_signed rfl if_signed s_signed (by decide) ⟨fun _ => rfl, ⟨fun _ => rfl, trivial⟩⟩ (simCons (simNeB (simSub (fun _ _ _ => rfl) (wLoc N 0 rfl) simInt) (simSub (fun _ _ _ => rfl) (wLoc N 1 rfl) simInt)) (simCons (wLoc N 4 rfl) simNil (fun _ => rfl)) (fun _ => rfl))) (simCons (wCall N 1 ns_signed rfl if_signed s_signed (by decide) ⟨fun _ => rfl, ⟨fun _ => rfl, trivial⟩⟩ (simCons (simSub (fun _ _ _ => rfl) (wLoc N 0 rfl) simInt) (simCons (wLoc N 5 rfl) simNil (fun _ => rfl)) (fun _ => rfl))) simNil (fun _ => rfl)) (fun _ => rfl)))) simSsNil)))

noncomputable def c_fdiv : CM := defM 4 (List.replicate 2 .unb) (ssCons (sTup [4, 5] (eCall c_tdiv (esCons (eLoc 0) (esCons (eLoc 1) (esCons (eLoc 2) (esCons (eLoc 3) esNil)))))) (ssCons (sIf (tAnd (tCmp (fun a b => Z.ltB b a) (eLen (eSub (eLoc 5) (eInt 1))) (eInt 0)) (tAnd (tEqB true (eSub (eLoc 0) (eInt 0)) (eSub (eLoc 1) (eInt 0))) tAndNil)) (ssCons (sRet (eTup (esCons (eTup (esCons (eBool true) (esCons (eCall c_add_limb (esCons (eSub (eLoc 4) (eInt 1)) (esCons (eInt 1) (esCons (eLoc 2) esNil)))) esNil))) (esCons (eCall c_s_add (esCons (eLoc 5) (esCons (eLoc 1) (esCons (eLoc 2) esNil)))) esNil)))) ssNil) ssNil) (ssCons (sRet (eTup (esCons (eLoc 4) (esCons (eLoc 5) esNil)))) ssNil)))
theorem s_fdiv : SimC (GG prog p loose w mean mg mb) 6 245 c_fdiv := by
  refine' wDef [(Str.ofString "x"), (Str.ofString "y"), (Str.ofString "w"), (Str.ofString "divrem")] [(Str.ofString "quotient"), (Str.ofString "rest")] [(Str.ofString "tdiv"), (Str.ofString "len"), (Str.ofString "s_add"), (Str.ofString "add_limb")] ?ho ?hcd ?hb ?hN ?hc ?hk ?hm
  case ho => (show List.lookup 245 (KK w.params) = some ⟨_, _, .func (fnOf _ _ _ _ _ _ _ _ _ _ _ _), _⟩; k_is)
  case hcd => kernel_rfl
  case hb => exact fun vs h => by obtain ⟨a, b, c, d, rfl⟩ := len4 h; rfl
  case hN => kernel_rfl
  case hc => kernel_rfl
  case hk => rfl
  case hm => exact fun N => (simSsCons (wTup2 N 4 5 rfl rfl (fun _ => rfl) (fun _ => rfl) (wCall N 0 ns_tdiv rfl if_tdiv s_tdiv (by decide) ⟨fun _ => rfl, ⟨fun _ => rfl, ⟨fun _ => rfl, ⟨fun _ => rfl, trivial⟩⟩⟩⟩ (simCons (wLoc N 0 rfl) (simCons (wLoc N 1 rfl) (simCons (wLoc N 2 rfl) (simCons (wLoc N 3 rfl) simNil (fun _ => rfl)) (fun _ => rfl)) (fun _ => rfl)) (fun _ => rfl)))) (simSsCons (simIf (simTAnd (simTCmp okGt (simLen (N.boot b_len 1 rfl) ⟨fun _ => rfl, trivial⟩ (simSub (fun _ _ _ => rfl) (wLoc N 5 rfl) simInt)) simInt) (simTAnd (simTNeB (simSub (fun _ _ _ => rfl) (wLoc N 0 rfl) simInt) (simSub (fun _ _ _ => rfl) (wLoc N 1 rfl) simInt)) simTAndNil)) (simSsCons (simRet (simTup (simCons (simTup (simCons simBool (simCons (wCall N 3 ns_add_limb rfl if_add_limb s_add_limb (by decide) ⟨fun _ => rfl, ⟨fun _ => rfl, ⟨fun _ => rfl, trivial⟩⟩⟩ (simCons (simSub (fun _ _ _ => rfl) (wLoc N 4 rfl) simInt) (simCons simInt (simCons (wLoc N 2 rfl) simNil (fun _ => rfl)) (fun _ => rfl)) (fun _ => rfl))) simNil (fun _ => rfl)) (fun _ => rfl))) (simCons (wCall N 2 ns_s_add rfl if_s_add s_s_add (by decide) ⟨fun _ => rfl, ⟨fun _ => rfl, ⟨fun _ => rfl, trivial⟩⟩⟩ (simCons (wLoc N 5 rfl) (simCons (wLoc N 1 rfl) (simCons (wLoc N 2 rfl) simNil (fun _ => rfl)) (fun _ => rfl)) (fun _ => rfl))) simNil (fun _ => rfl)) (fun _ => rfl)))) simSsNil) simSsNil) (simSsCons (simRet (simTup (simCons (wLoc N 4 rfl) (simCons (wLoc N 5 rfl) simNil (fun _ => rfl)) (fun _ => rfl)))) simSsNil)))

noncomputable def c_s_mod : CM := defM 4 (List.replicate 0 .unb) (ssCons (sRet (eSub (eSub (eCall c_fdiv (esCons (eLoc 0) (esCons (eCall c_s_abs (esCons (eLoc 1) esNil)) (esCons (eLoc 2) (esCons (eLoc 3) esNil))))) (eInt 1)) (eInt 1))) ssNil)
theorem s_s_mod : SimC (GG prog p loose w mean mg mb) 7 252 c_s_mod := by
  refine' wDef [(Str.ofString "x"), (Str.ofString "y"), (Str.ofString "w"), (Str.ofString "divrem")] [] [(Str.ofString "fdiv"), (Str.ofString "s_abs")] ?ho ?hcd ?hb ?hN ?hc ?hk ?hm
  case ho => (show List.lookup 252 (KK w.params) = some ⟨_, _, .func (fnOf _ _ _ _ _ _ _ _ _ _ _ _), _⟩; k_is)
  case hcd => kernel_rfl
  case hb => exact fun vs h => by obtain ⟨a, b, c, d, rfl⟩ := len4 h; rfl
  case hN => kernel_rfl
  case hc => kernel_rfl
  case hk => rfl
  case hm => exact fun N => (simSsCons (simRet (simSub (fun _ _ _ => rfl) (simSub (fun _ _ _ => rfl) (wCall N 0 ns_fdiv rfl if_fdiv s_fdiv (by decide) ⟨fun _ => rfl, ⟨fun _ => rfl, ⟨fun _ => rfl, ⟨fun _ => rfl, trivial⟩⟩⟩⟩ (simCons (wLoc N 0 rfl) (simCons (wCall N 1 ns_s_abs rfl if_s_abs s_s_abs (by decide) ⟨fun _ => rfl, trivial⟩ (simCons (wLoc N 1 rfl) simNil (fun _ => rfl))) (simCons (wLoc N 2 rfl) (simCons (wLoc N 3 rfl) simNil (fun _ => rfl)) (fun _ => rfl)) (fun _ => rfl)) (fun _ => rfl))) simInt) simInt)) simSsNil)

noncomputable def c_gcd_ext : CM := defM 5 (List.replicate 7 .unb) (ssCons (sTupS [6, 5] (eTup (esCons (eCall c_signed (esCons (eBool false) (esCons (eLst (esCons (eInt 1) esNil)) esNil))) (esCons (eCall c_signed (esCons (eBool false) (esCons (eLst esNil) esNil))) esNil)))) (ssCons (sTupS [8, 7] (eTup (esCons (eLoc 6) (esCons (eLoc 5) esNil)))) (ssCons (sIf (tCmp Z.eqB (eLen (eLoc 0)) (eInt 0)) (ssCons (sAsg 5 (eLoc 6)) (ssCons (sAsg 7 (eCall c_signed (esCons (eBool false) (esCons (eIte (tCmp (fun a b => Z.ltB b a) (eLen (eLoc 1)) (eInt 0)) (eLst (esCons (eInt 1) esNil)) (eLst esNil)) esNil)))) (ssCons (sRet (eTup (esCons (eLoc 1) (esCons (eLoc 5) (esCons (eLoc 7) esNil))))) ssNil))) ssNil) (ssCons (loopW (tCmp (fun a b => Z.ltB b a) (eLen (eLoc 1)) (eInt 0)) (ssCons (sTup [10, 11] (eCallV 4 362 c_divrem_school (esCons (eLoc 0) (esCons (eLoc 1) (esCons (eLoc 2) esNil))))) (ssCons (sAsg 9 (eCall c_signed (esCons (eBool false) (esCons (eLoc 10) esNil)))) (ssCons (sTupS [1, 0] (eTup (esCons (eLoc 1) (esCons (eLoc 11) esNil)))) (ssCons (sTupS [6, 5] (eTup (esCons (eLoc 6) (esCons (eCall c_s_sub (esCons (eLoc 5) (esCons (eCall c_s_mul (esCons (eLoc 9) (esCons (eLoc 6) (esCons (eLoc 2) (esCons (eLoc 3) esNil))))) (esCons (eLoc 2) esNil)))) esNil)))) (ssCons (sTupS [8, 7] (eTup (esCons (eLoc 8) (esCons (eCall c_s_sub (esCons (eLoc 7) (esCons (eCall c_s_mul (esCons (eLoc 9) (esCons (eLoc 8) (esCons (eLoc 2) (esCons (eLoc 3) esNil))))) (esCons (eLoc 2) esNil)))) esNil)))) ssNil))))) 100) (ssCons (sRet (eTup (esCons (eLoc 0) (esCons (eLoc 5) (esCons (eLoc 7) esNil))))) ssNil)))))
theorem s_gcd_ext : SimC (GG prog p loose w mean mg mb) 5 259 c_gcd_ext := by
  refine' wDef [(Str.ofString "a"), (Str.ofString "b"), (Str.ofString "w"), (Str.ofString "mul"), (Str.ofString "divrem")] [(Str.ofString "s"), (Str.ofString "later_s"), (Str.ofString "t"), (Str.ofString "later_t"), (Str.ofString "told"), (Str.ofString "quotient"), (Str.ofString "rest")] [(Str.ofString "signed"), (Str.ofString "len"), (Str.ofString "s_sub"), (Str.ofString "s_mul")] ?ho ?hcd ?hb ?hN ?hc ?hk ?hm
  case ho => (show List.lookup 259 (KK w.params) = some ⟨_, _, .func (fnOf _ _ _ _ _ _ _ _ _ _ _ _), _⟩; k_is)
  case hcd => kernel_rfl
  case hb => exact fun vs h => by obtain ⟨a, b, c, d, e, rfl⟩ := len5 h; rfl
  case hN => kernel_rfl
  case hc => kernel_rfl
  case hk => rfl
  case hm => exact fun N => (simSsCons (wTupS2 N 5 6 rfl rfl (fun _ => rfl) (fun c hc => by cases c; cases hc; rfl) (simTup (simCons (wCall N 0 ns_signed rfl if_signed s_signed (by decide) ⟨fun _ => rfl, ⟨fun _ => rfl, trivial⟩⟩ (simCons simBool (simCons (simLst (simCons simInt simNil (fun _ => rfl))) simNil (fun _ => rfl)) (fun _ => rfl))) (simCons (wCall N 0 ns_signed rfl if_signed s_signed (by decide) ⟨fun _ => rfl, ⟨fun _ => rfl, trivial⟩⟩ (simCons simBool (simCons (simLst simNil) simNil (fun _ => rfl)) (fun _ => rfl))) simNil (fun _ => rfl)) (fun _ => rfl)))) (simSsCons (wTupS2 N 7 8 rfl rfl (fun _ => rfl) (fun c hc => by cases c; cases hc; rfl) (simTup (simCons (wLoc N 6 rfl) (simCons (wLoc N 5 rfl) simNil (fun _ => rfl)) (fun _ => rfl)))) (simSsCons (simIf (simTCmp okEq (simLen (N.boot b_len 1 rfl) ⟨fun _ => rfl, trivial⟩ (wLoc N 0 rfl)) simInt) (simSsCons (wAsg N 5 rfl (fun _ => rfl) (wLoc N 6 rfl)) (simSsCons (wAsg N 7 rfl (fun _ => rfl) (wCall N 0 ns_signed rfl if_signed s_signed (by decide) ⟨fun _ => rfl, ⟨fun _ => rfl, trivial⟩⟩ (simCons simBool (simCons (simIte (simTCmp okGt (simLen (N.boot b_len 1 rfl) ⟨fun _ => rfl, trivial⟩ (wLoc N 1 rfl)) simInt) (simLst (simCons simInt simNil (fun _ => rfl))) (simLst simNil)) simNil (fun _ => rfl)) (fun _ => rfl)))) (simSsCons (simRet (simTup (simCons (wLoc N 1 rfl) (simCons (wLoc N 5 rfl) (simCons (wLoc N 7 rfl) simNil (fun _ => rfl)) (fun _ => rfl)) (fun _ => rfl)))) simSsNil))) simSsNil) (simSsCons (simWhile 100 (simTCmp okGt (simLen (N.boot b_len 1 rfl) ⟨fun _ => rfl, trivial⟩ (wLoc N 1 rfl)) simInt) (simSsCons (wTup2 N 10 11 rfl rfl (fun _ => rfl) (fun _ => rfl) (wCallV N 4 rfl if_divrem_school s_divrem_school (by decide) ⟨fun _ => rfl, ⟨fun _ => rfl, ⟨fun _ => rfl, trivial⟩⟩⟩ (simCons (wLoc N 0 rfl) (simCons (wLoc N 1 rfl) (simCons (wLoc N 2 rfl) simNil (fun _ => rfl)) (fun _ => rfl)) (fun _ => rfl)))) (simSsCons (wAsg N 9 rfl (fun _ => rfl) (wCall N 0 ns_signed rfl if_signed s_signed (by decide) ⟨fun _ => rfl, ⟨fun _ => rfl, trivial⟩⟩ (simCons simBool (simCons (wLoc N 10 rfl) simNil (fun _ => rfl)) (fun _ => rfl)))) (simSsCons (wTupS2 N 0 1 rfl rfl (fun _ => rfl) (fun c hc => by cases c; cases hc; rfl) (simTup (simCons (wLoc N 1 rfl) (simCons (wLoc N 11 rfl) simNil (fun _ => rfl)) (fun _ => rfl)))) (simSsCons (wTupS2 N 5 6 rfl rfl (fun _ => rfl) (fun c hc => by cases c; cases hc; rfl) (simTup (simCons (wLoc N 6 rfl) (simCons (wCall N 2 ns_s_sub rfl if_s_sub s_s_sub (by decide) ⟨fun _ => rfl, ⟨fun _ => rfl, ⟨fun _ => rfl, trivial⟩⟩⟩ (simCons (wLoc N 5 rfl) (simCons (wCall N 3 ns_s_mul rfl if_s_mul s_s_mul (by decide) ⟨fun _ => rfl, ⟨fun _ => rfl, ⟨fun _ => rfl, ⟨fun _ => rfl, trivial⟩⟩⟩⟩ (simCons (wLoc N 9 rfl) (simCons (wLoc N 6 rfl) (simCons (wLoc N 2 rfl) (simCons (wLoc N 3 rfl) simNil (fun _ => rfl)) (fun _ => rfl)) (fun _ => rfl)) (fun _ => rfl))) (simCons (wLoc N 2 rfl) simNil (fun _ => rfl)) (fun _ => rfl)) (fun _ => rfl))) simNil (fun _ => rfl)) (fun _ => rfl)))) (simSsCons (wTupS2 N 7 8 rfl rfl (fun _ => rfl) (fun c hc => by cases c; cases hc; rfl) (simTup (simCons (wLoc N 8 rfl) (simCons (wCall N 2 ns_s_sub rfl if_s_sub s_s_sub (by decide) ⟨fun _ => rfl, ⟨fun _ => rfl, ⟨fun _ => rfl, trivial⟩⟩⟩ (simCons (wLoc N 7 rfl) (simCons (wCall N 3 ns_s_mul rfl if_s_mul s_s_mul (by decide) ⟨fun _ => rfl, ⟨fun _ => rfl, ⟨fun _ => rfl, ⟨fun _ => rfl, trivial⟩⟩⟩⟩ (simCons (wLoc N 9 rfl) (simCons (wLoc N 8 rfl) (simCons (wLoc N 2 rfl) (simCons (wLoc N 3 rfl) simNil (fun _ => rfl)) (fun _ => rfl)) (fun _ => rfl)) (fun _ => rfl))) (simCons (wLoc N 2 rfl) simNil (fun _ => rfl)) (fun _ => rfl)) (fun _ => rfl))) simNil (fun _ => rfl)) (fun _ => rfl)))) simSsNil)))))) (simSsCons (simRet (simTup (simCons (wLoc N 0 rfl) (simCons (wLoc N 5 rfl) (simCons (wLoc N 7 rfl) simNil (fun _ => rfl)) (fun _ => rfl)) (fun _ => rfl)))) simSsNil)))))

noncomputable def c_inverse_mod : CM := defM 5 (List.replicate 3 .unb) (ssCons (sIf (tCmp Z.eqB (eLen (eLoc 1)) (eInt 0)) (ssCons sNever ssNil) ssNil) (ssCons (sTup [5, 6, 7] (eCall c_gcd_ext (esCons (eSub (eCallV 4 362 c_divrem_school (esCons (eLoc 0) (esCons (eLoc 1) (esCons (eLoc 2) esNil)))) (eInt 1)) (esCons (eLoc 1) (esCons (eLoc 2) (esCons (eLoc 3) (esCons (eLoc 4) esNil))))))) (ssCons (sIf (tCmp cNe (eCall c_compare (esCons (eLoc 5) (esCons (eLst (esCons (eInt 1) esNil)) esNil))) (eInt 0)) (ssCons sNever ssNil) ssNil) (ssCons (sRet (eCall c_s_mod (esCons (eLoc 6) (esCons (eCall c_signed (esCons (eBool false) (esCons (eLoc 1) esNil))) (esCons (eLoc 2) (esCons (eLoc 4) esNil)))))) ssNil))))
theorem s_inverse_mod : SimC (GG prog p loose w mean mg mb) 8 266 c_inverse_mod := by
  refine' wDef [(Str.ofString "a"), (Str.ofString "m"), (Str.ofString "w"), (Str.ofString "mul"), (Str.ofString "divrem")] [(Str.ofString "g"), (Str.ofString "s"), (Str.ofString "t")] [(Str.ofString "gcd_ext"), (Str.ofString "s_mod"), (Str.ofString "len"), (Str.ofString "compare"), (Str.ofString "signed")] ?ho ?hcd ?hb ?hN ?hc ?hk ?hm
  case ho => (show List.lookup 266 (KK w.params) = some ⟨_, _, .func (fnOf _ _ _ _ _ _ _ _ _ _ _ _), _⟩; k_is)
  case hcd => kernel_rfl
  case hb => exact fun vs h => by obtain ⟨a, b, c, d, e, rfl⟩ := len5 h; rfl
  case hN => kernel_rfl
  case hc => kernel_rfl
  case hk => rfl
  case hm => exact fun N => (simSsCons (simIf (simTCmp okEq (simLen (N.boot b_len 2 rfl) ⟨fun _ => rfl, trivial⟩ (wLoc N 1 rfl)) simInt) (simSsCons simNever simSsNil) simSsNil) (simSsCons (wTup3 N 5 6 7 rfl rfl rfl (fun _ => rfl) (fun _ => rfl) (wCall N 0 ns_gcd_ext rfl if_gcd_ext s_gcd_ext (by decide) ⟨fun _ => rfl, ⟨fun _ => rfl, ⟨fun _ => rfl, ⟨fun _ => rfl, ⟨fun _ => rfl, trivial⟩⟩⟩⟩⟩ (simCons (simSub (fun _ _ _ => rfl) (wCallV N 4 rfl if_divrem_school s_divrem_school (by decide) ⟨fun _ => rfl, ⟨fun _ => rfl, ⟨fun _ => rfl, trivial⟩⟩⟩ (simCons (wLoc N 0 rfl) (simCons (wLoc N 1 rfl) (simCons (wLoc N 2 rfl) simNil (fun _ => rfl)) (fun _ => rfl)) (fun _ => rfl))) simInt) (simCons (wLoc N 1 rfl) (simCons (wLoc N 2 rfl) (simCons (wLoc N 3 rfl) (simCons (wLoc N 4 rfl) simNil (fun _ => rfl)) (fun _ => rfl)) (fun _ => rfl)) (fun _ => rfl)) (fun _ => rfl)))) (simSsCons (simIf (simTCmp okNe (wCall N 3 ns_compare rfl if_compare s_compare (by decide) ⟨fun _ => rfl, ⟨fun _ => rfl, trivial⟩⟩ (simCons (wLoc N 5 rfl) (simCons (simLst (simCons simInt simNil (fun _ => rfl))) simNil (fun _ => rfl)) (fun _ => rfl))) simInt) (simSsCons simNever simSsNil) simSsNil) (simSsCons (simRet (wCall N 1 ns_s_mod rfl if_s_mod s_s_mod (by decide) ⟨fun _ => rfl, ⟨fun _ => rfl, ⟨fun _ => rfl, ⟨fun _ => rfl, trivial⟩⟩⟩⟩ (simCons (wLoc N 6 rfl) (simCons (wCall N 4 ns_signed rfl if_signed s_signed (by decide) ⟨fun _ => rfl, ⟨fun _ => rfl, trivial⟩⟩ (simCons simBool (simCons (wLoc N 1 rfl) simNil (fun _ => rfl)) (fun _ => rfl))) (simCons (wLoc N 2 rfl) (simCons (wLoc N 4 rfl) simNil (fun _ => rfl)) (fun _ => rfl)) (fun _ => rfl)) (fun _ => rfl)))) simSsNil))))

noncomputable def c_power_of_count : CM := defM 4 (List.replicate 2 .unb) (ssCons (sTupS [5, 4] (eTup (esCons (eLst (esCons (eInt 1) esNil)) (esCons (eCall c_nat_of (esCons (eLoc 0) (esCons (eLoc 2) esNil))) esNil)))) (ssCons (loopW (tCmp (fun a b => Z.ltB b a) (eLoc 1) (eInt 0)) (ssCons (sIf (tCmp Z.eqB (eBin oMod (eLoc 1) (eInt 2)) (eInt 1)) (ssCons (sAsg 4 (eCallV 3 320 c_mul_school (esCons (eLoc 4) (esCons (eLoc 5) (esCons (eLoc 2) esNil))))) ssNil) ssNil) (ssCons (sAsg 1 (eBin oDiv (eLoc 1) (eInt 2))) (ssCons (sIf (tCmp (fun a b => Z.ltB b a) (eLoc 1) (eInt 0)) (ssCons (sAsg 5 (eCallV 3 320 c_mul_school (esCons (eLoc 5) (esCons (eLoc 5) (esCons (eLoc 2) esNil))))) ssNil) ssNil) ssNil))) 100) (ssCons (sRet (eLoc 4)) ssNil)))
theorem s_power_of_count : SimC (GG prog p loose w mean mg mb) 3 287 c_power_of_count := by
  refine' wDef [(Str.ofString "base"), (Str.ofString "many"), (Str.ofString "w"), (Str.ofString "mul")] [(Str.ofString "found"), (Str.ofString "square")] [(Str.ofString "nat_of")] ?ho ?hcd ?hb ?hN ?hc ?hk ?hm
  case ho => (show List.lookup 287 (KK w.params) = some ⟨_, _, .func (fnOf _ _ _ _ _ _ _ _ _ _ _ _), _⟩; k_is)
  case hcd => kernel_rfl
  case hb => exact fun vs h => by obtain ⟨a, b, c, d, rfl⟩ := len4 h; rfl
  case hN => kernel_rfl
  case hc => kernel_rfl
  case hk => rfl
  case hm => exact fun N => (simSsCons (wTupS2 N 4 5 rfl rfl (fun _ => rfl) (fun c hc => by cases c; cases hc; rfl) (simTup (simCons (simLst (simCons simInt simNil (fun _ => rfl))) (simCons (wCall N 0 ns_nat_of rfl if_nat_of s_nat_of (by decide) ⟨fun _ => rfl, ⟨fun _ => rfl, trivial⟩⟩ (simCons (wLoc N 0 rfl) (simCons (wLoc N 2 rfl) simNil (fun _ => rfl)) (fun _ => rfl))) simNil (fun _ => rfl)) (fun _ => rfl)))) (simSsCons (simWhile 100 (simTCmp okGt (wLoc N 1 rfl) simInt) (simSsCons (simIf (simTCmp okEq (simBin okMod (wLoc N 1 rfl) simInt) simInt) (simSsCons (wAsg N 4 rfl (fun _ => rfl) (wCallV N 3 rfl if_mul_school s_mul_school (by decide) ⟨fun _ => rfl, ⟨fun _ => rfl, ⟨fun _ => rfl, trivial⟩⟩⟩ (simCons (wLoc N 4 rfl) (simCons (wLoc N 5 rfl) (simCons (wLoc N 2 rfl) simNil (fun _ => rfl)) (fun _ => rfl)) (fun _ => rfl)))) simSsNil) simSsNil) (simSsCons (wAsg N 1 rfl (fun _ => rfl) (simBin okDiv (wLoc N 1 rfl) simInt)) (simSsCons (simIf (simTCmp okGt (wLoc N 1 rfl) simInt) (simSsCons (wAsg N 5 rfl (fun _ => rfl) (wCallV N 3 rfl if_mul_school s_mul_school (by decide) ⟨fun _ => rfl, ⟨fun _ => rfl, ⟨fun _ => rfl, trivial⟩⟩⟩ (simCons (wLoc N 5 rfl) (simCons (wLoc N 5 rfl) (simCons (wLoc N 2 rfl) simNil (fun _ => rfl)) (fun _ => rfl)) (fun _ => rfl)))) simSsNil) simSsNil) simSsNil)))) (simSsCons (simRet (wLoc N 4 rfl)) simSsNil)))

noncomputable def f_product_of_powers (cm : CM) : CM := defM 3 (List.replicate 1 .unb) (ssCons (sIf (tCmp Z.eqB (eLen (eLoc 0)) (eInt 0)) (ssCons (sRet (eLst (esCons (eInt 1) esNil))) ssNil) ssNil) (ssCons (sIf (tCmp Z.eqB (eLen (eLoc 0)) (eInt 1)) (ssCons (sRet (eCall c_power_of_count (esCons (eSub (eSub (eLoc 0) (eInt 0)) (eInt 0)) (esCons (eSub (eSub (eLoc 0) (eInt 0)) (eInt 1)) (esCons (eLoc 1) (esCons (eLoc 2) esNil)))))) ssNil) ssNil) (ssCons (sAsg 3 (eBin oDiv (eLen (eLoc 0)) (eInt 2))) (ssCons (sRet (eCallV 2 320 c_mul_school (esCons (eCall cm (esCons (eSli (eLoc 0) pNone (pSome (eLoc 3))) (esCons (eLoc 1) (esCons (eLoc 2) esNil)))) (esCons (eCall cm (esCons (eSli (eLoc 0) (pSome (eLoc 3)) pNone) (esCons (eLoc 1) (esCons (eLoc 2) esNil)))) (esCons (eLoc 1) esNil))))) ssNil))))
theorem sf_product_of_powers {cm : CM} {r0 r : Nat} (hC : SimC (GG prog p loose w mean mg mb) r0 294 cm) (hr : r0 ≤ r) (hr0 : 3 ≤ r) : SimC (GG prog p loose w mean mg mb) (r + 1) 294 (f_product_of_powers cm) := by
  refine' wDef [(Str.ofString "pairs"), (Str.ofString "w"), (Str.ofString "mul")] [(Str.ofString "half")] [(Str.ofString "len"), (Str.ofString "power_of_count"), (Str.ofString "product_of_powers")] ?ho ?hcd ?hb ?hN ?hc ?hk ?hm
  case ho => (show List.lookup 294 (KK w.params) = some ⟨_, _, .func (fnOf _ _ _ _ _ _ _ _ _ _ _ _), _⟩; k_is)
  case hcd => kernel_rfl
  case hb => exact fun vs h => by obtain ⟨a, b, c, rfl⟩ := len3 h; rfl
  case hN => kernel_rfl
  case hc => kernel_rfl
  case hk => rfl
  case hm => exact fun N => (simSsCons (simIf (simTCmp okEq (simLen (N.boot b_len 0 rfl) ⟨fun _ => rfl, trivial⟩ (wLoc N 0 rfl)) simInt) (simSsCons (simRet (simLst (simCons simInt simNil (fun _ => rfl)))) simSsNil) simSsNil) (simSsCons (simIf (simTCmp okEq (simLen (N.boot b_len 0 rfl) ⟨fun _ => rfl, trivial⟩ (wLoc N 0 rfl)) simInt) (simSsCons (simRet (wCall N 1 ns_power_of_count rfl if_power_of_count s_power_of_count (Nat.le_trans (m := 3) (by decide) hr0) ⟨fun _ => rfl, ⟨fun _ => rfl, ⟨fun _ => rfl, ⟨fun _ => rfl, trivial⟩⟩⟩⟩ (simCons (simSub (fun _ _ _ => rfl) (simSub (fun _ _ _ => rfl) (wLoc N 0 rfl) simInt) simInt) (simCons (simSub (fun _ _ _ => rfl) (simSub (fun _ _ _ => rfl) (wLoc N 0 rfl) simInt) simInt) (simCons (wLoc N 1 rfl) (simCons (wLoc N 2 rfl) simNil (fun _ => rfl)) (fun _ => rfl)) (fun _ => rfl)) (fun _ => rfl)))) simSsNil) simSsNil) (simSsCons (wAsg N 3 rfl (fun _ => rfl) (simBin okDiv (simLen (N.boot b_len 0 rfl) ⟨fun _ => rfl, trivial⟩ (wLoc N 0 rfl)) simInt)) (simSsCons (simRet (wCallV N 2 rfl if_mul_school s_mul_school (Nat.le_trans (m := 3) (by decide) hr0) ⟨fun _ => rfl, ⟨fun _ => rfl, ⟨fun _ => rfl, trivial⟩⟩⟩ (simCons (wCall N 2 ns_product_of_powers rfl if_product_of_powers hC hr ⟨fun _ => rfl, ⟨fun _ => rfl, ⟨fun _ => rfl, trivial⟩⟩⟩ (simCons (simSli (fun _ _ => rfl) (fun _ _ => rfl) (wLoc N 0 rfl) simPNone (simPSome (wLoc N 3 rfl))) (simCons (wLoc N 1 rfl) (simCons (wLoc N 2 rfl) simNil (fun _ => rfl)) (fun _ => rfl)) (fun _ => rfl))) (simCons (wCall N 2 ns_product_of_powers rfl if_product_of_powers hC hr ⟨fun _ => rfl, ⟨fun _ => rfl, ⟨fun _ => rfl, trivial⟩⟩⟩ (simCons (simSli (fun _ _ => rfl) (fun _ _ => rfl) (wLoc N 0 rfl) (simPSome (wLoc N 3 rfl)) simPNone) (simCons (wLoc N 1 rfl) (simCons (wLoc N 2 rfl) simNil (fun _ => rfl)) (fun _ => rfl)) (fun _ => rfl))) (simCons (wLoc N 1 rfl) simNil (fun _ => rfl)) (fun _ => rfl)) (fun _ => rfl)))) simSsNil))))
noncomputable def c_product_of_powers : CM := (f_product_of_powers (f_product_of_powers (f_product_of_powers (f_product_of_powers (f_product_of_powers cNever)))))
theorem s_product_of_powers : SimC (GG prog p loose w mean mg mb) 8 294 c_product_of_powers := (sf_product_of_powers (r := 7) (sf_product_of_powers (r := 6) (sf_product_of_powers (r := 5) (sf_product_of_powers (r := 4) (sf_product_of_powers (r := 3) (simCNever (r := 3)) (by decide) (by decide)) (by decide) (by decide)) (by decide) (by decide)) (by decide) (by decide)) (by decide) (by decide))

noncomputable def c_swing : CM := swM c_sieve c_swing_exponent c_product_of_powers
theorem s_swing : SimC (GG prog p loose w mean mg mb) 9 306 c_swing := sw_sim (SimC.le s_sieve (by decide)) (SimC.le s_swing_exponent (by decide)) (SimC.le s_product_of_powers (by decide))
noncomputable def f_factorial (cm : CM) : CM := defM 3 (List.replicate 1 .unb) (ssCons (sExp (eCall c_need_count (esCons (eLoc 0) esNil))) (ssCons (sIf (tCmp Z.ltB (eLoc 0) (eInt 2)) (ssCons (sRet (eLst (esCons (eInt 1) esNil))) ssNil) ssNil) (ssCons (sAsg 3 (eCall cm (esCons (eBin oDiv (eLoc 0) (eInt 2)) (esCons (eLoc 1) (esCons (eLoc 2) esNil))))) (ssCons (sRet (eCallV 2 320 c_mul_school (esCons (eCallV 2 320 c_mul_school (esCons (eLoc 3) (esCons (eLoc 3) (esCons (eLoc 1) esNil)))) (esCons (eCall c_swing (esCons (eLoc 0) (esCons (eLoc 1) (esCons (eLoc 2) esNil)))) (esCons (eLoc 1) esNil))))) ssNil))))
theorem sf_factorial {cm : CM} {r0 r : Nat} (hC : SimC (GG prog p loose w mean mg mb) r0 313 cm) (hr : r0 ≤ r) (hr0 : 9 ≤ r) : SimC (GG prog p loose w mean mg mb) (r + 1) 313 (f_factorial cm) := by
  refine' wDef [(Str.ofString "n"), (Str.ofString "w"), (Str.ofString "mul")] [(Str.ofString "half")] [(Str.ofString "need_count"), (Str.ofString "factorial"), (Str.ofString "swing")] ?ho ?hcd ?hb ?hN ?hc ?hk ?hm
  case ho => (show List.lookup 313 (KK w.params) = some ⟨_, _, .func (fnOf _ _ _ _ _ _ _ _ _ _ _ _), _⟩; k_is)
  case hcd => kernel_rfl
  case hb => exact fun vs h => by obtain ⟨a, b, c, rfl⟩ := len3 h; rfl
  case hN => kernel_rfl
  case hc => kernel_rfl
  case hk => rfl
  case hm => exact fun N => (simSsCons (simExp (wCall N 0 ns_need_count rfl if_need_count s_need_count (Nat.le_trans (m := 9) (by decide) hr0) ⟨fun _ => rfl, trivial⟩ (simCons (wLoc N 0 rfl) simNil (fun _ => rfl))) (fun c _ => notInter c) (fun _ => rfl)) (simSsCons (simIf (simTCmp okLt (wLoc N 0 rfl) simInt) (simSsCons (simRet (simLst (simCons simInt simNil (fun _ => rfl)))) simSsNil) simSsNil) (simSsCons (wAsg N 3 rfl (fun _ => rfl) (wCall N 1 ns_factorial rfl if_factorial hC hr ⟨fun _ => rfl, ⟨fun _ => rfl, ⟨fun _ => rfl, trivial⟩⟩⟩ (simCons (simBin okDiv (wLoc N 0 rfl) simInt) (simCons (wLoc N 1 rfl) (simCons (wLoc N 2 rfl) simNil (fun _ => rfl)) (fun _ => rfl)) (fun _ => rfl)))) (simSsCons (simRet (wCallV N 2 rfl if_mul_school s_mul_school (Nat.le_trans (m := 9) (by decide) hr0) ⟨fun _ => rfl, ⟨fun _ => rfl, ⟨fun _ => rfl, trivial⟩⟩⟩ (simCons (wCallV N 2 rfl if_mul_school s_mul_school (Nat.le_trans (m := 9) (by decide) hr0) ⟨fun _ => rfl, ⟨fun _ => rfl, ⟨fun _ => rfl, trivial⟩⟩⟩ (simCons (wLoc N 3 rfl) (simCons (wLoc N 3 rfl) (simCons (wLoc N 1 rfl) simNil (fun _ => rfl)) (fun _ => rfl)) (fun _ => rfl))) (simCons (wCall N 2 ns_swing rfl if_swing s_swing (Nat.le_trans (m := 9) (by decide) hr0) ⟨fun _ => rfl, ⟨fun _ => rfl, ⟨fun _ => rfl, trivial⟩⟩⟩ (simCons (wLoc N 0 rfl) (simCons (wLoc N 1 rfl) (simCons (wLoc N 2 rfl) simNil (fun _ => rfl)) (fun _ => rfl)) (fun _ => rfl))) (simCons (wLoc N 1 rfl) simNil (fun _ => rfl)) (fun _ => rfl)) (fun _ => rfl)))) simSsNil))))
noncomputable def c_factorial : CM := (f_factorial (f_factorial (f_factorial (f_factorial (f_factorial cNever)))))
theorem s_factorial : SimC (GG prog p loose w mean mg mb) 14 313 c_factorial := (sf_factorial (r := 13) (sf_factorial (r := 12) (sf_factorial (r := 11) (sf_factorial (r := 10) (sf_factorial (r := 9) (simCNever (r := 9)) (by decide) (by decide)) (by decide) (by decide)) (by decide) (by decide)) (by decide) (by decide)) (by decide) (by decide))

noncomputable def c__law_limbs : CM := defM 2 (List.replicate 1 .unb) (ssCons (sAsg 2 (eLst esNil)) (ssCons (loopW (tCmp (fun a b => Z.ltB b a) (eLoc 0) (eInt 0)) (ssCons (sExp (eApp (eLoc 2) (eBin oMod (eLoc 0) (eBin oPow (eInt 2) (eLoc 1))))) (ssCons (sAsg 0 (eBin oDiv (eLoc 0) (eBin oPow (eInt 2) (eLoc 1)))) ssNil)) 100) (ssCons (sRet (eLoc 2)) ssNil)))
theorem s__law_limbs : SimC (GG prog p loose w mean mg mb) 1 376 c__law_limbs := by
  refine' wDef [(Str.ofString "number"), (Str.ofString "w")] [(Str.ofString "found")] [] ?ho ?hcd ?hb ?hN ?hc ?hk ?hm
  case ho => (show List.lookup 376 (KK w.params) = some ⟨_, _, .func (fnOf _ _ _ _ _ _ _ _ _ _ _ _), _⟩; k_is)
  case hcd => kernel_rfl
  case hb => exact fun vs h => by obtain ⟨a, b, rfl⟩ := len2 h; rfl
  case hN => kernel_rfl
  case hc => kernel_rfl
  case hk => rfl
  case hm => exact fun N => (simSsCons (wAsg N 2 rfl (fun _ => rfl) (simLst simNil)) (simSsCons (simWhile 100 (simTCmp okGt (wLoc N 0 rfl) simInt) (simSsCons (simExp (simApp ⟨fun _ => rfl, trivial⟩ (fun _ => ⟨_, rfl⟩) (wLoc N 2 rfl) (simBin okMod (wLoc N 0 rfl) (simBin okPow simInt (wLoc N 1 rfl)))) (fun c _ => notInter c) (fun _ => rfl)) (simSsCons (wAsg N 0 rfl (fun _ => rfl) (simBin okDiv (wLoc N 0 rfl) (simBin okPow simInt (wLoc N 1 rfl)))) simSsNil))) (simSsCons (simRet (wLoc N 2 rfl)) simSsNil)))

noncomputable def c__law_told : CM := defM 2 (List.replicate 2 .unb) (ssCons (sAsg 2 (eInt 0)) (ssCons (sForL 3 100 (eRev (eLoc 0) (eNeg (eInt 1))) (ssCons (sAsg 2 (eBin oAdd (eBin oMul (eLoc 2) (eBin oPow (eInt 2) (eLoc 1))) (eLoc 3))) ssNil)) (ssCons (sRet (eLoc 2)) ssNil)))
theorem s__law_told : SimC (GG prog p loose w mean mg mb) 1 383 c__law_told := by
  refine' wDef [(Str.ofString "row"), (Str.ofString "w")] [(Str.ofString "found"), (Str.ofString "limb")] [] ?ho ?hcd ?hb ?hN ?hc ?hk ?hm
  case ho => (show List.lookup 383 (KK w.params) = some ⟨_, _, .func (fnOf _ _ _ _ _ _ _ _ _ _ _ _), _⟩; k_is)
  case hcd => kernel_rfl
  case hb => exact fun vs h => by obtain ⟨a, b, rfl⟩ := len2 h; rfl
  case hN => kernel_rfl
  case hc => kernel_rfl
  case hk => rfl
  case hm => exact fun N => (simSsCons (wAsg N 2 rfl (fun _ => rfl) simInt) (simSsCons (wForL N 100 3 rfl (fun _ _ => rfl) (simRev (fun _ _ => rfl) (fun _ _ => rfl) (wLoc N 0 rfl) (simNeg simInt)) (simSsCons (wAsg N 2 rfl (fun _ => rfl) (simBin okAdd (simBin okMul (wLoc N 2 rfl) (simBin okPow simInt (wLoc N 1 rfl))) (wLoc N 3 rfl))) simSsNil)) (simSsCons (simRet (wLoc N 2 rfl)) simSsNil)))

noncomputable def c__law_quotient : CM := defM 3 (List.replicate 3 .unb) (ssCons (sAsg 3 (eCall c_power_mod (esCons (eCall c__law_limbs (esCons (eLoc 0) (esCons (eLoc 2) esNil))) (esCons (eCall c__law_limbs (esCons (eBin oSub (eLoc 1) (eInt 1)) (esCons (eLoc 2) esNil))) (esCons (eCall c__law_limbs (esCons (eBin oMul (eLoc 1) (eLoc 1)) (esCons (eLoc 2) esNil))) (esCons (eLoc 2) (esCons (eInt 2) (esCons (eGlob 320) (esCons (eGlob 362) esNil))))))))) (ssCons (sTup [4, 5] (eCall c_divrem_school (esCons (eLoc 3) (esCons (eCall c__law_limbs (esCons (eLoc 1) (esCons (eLoc 2) esNil))) (esCons (eLoc 2) esNil))))) (ssCons (sRet (eIte (tEqL (eLoc 5) (eLst (esCons (eInt 1) esNil))) (eCall c__law_told (esCons (eLoc 4) (esCons (eLoc 2) esNil))) eNone)) ssNil)))
theorem s__law_quotient : SimC (GG prog p loose w mean mg mb) 9 390 c__law_quotient := by
  refine' wDef [(Str.ofString "number"), (Str.ofString "prime"), (Str.ofString "w")] [(Str.ofString "told"), (Str.ofString "found"), (Str.ofString "left")] [(Str.ofString "power_mod"), (Str.ofString "mul_school"), (Str.ofString "divrem_school"), (Str.ofString "_law_limbs"), (Str.ofString "_law_told")] ?ho ?hcd ?hb ?hN ?hc ?hk ?hm
  case ho => (show List.lookup 390 (KK w.params) = some ⟨_, _, .func (fnOf _ _ _ _ _ _ _ _ _ _ _ _), _⟩; k_is)
  case hcd => kernel_rfl
  case hb => exact fun vs h => by obtain ⟨a, b, c, rfl⟩ := len3 h; rfl
  case hN => kernel_rfl
  case hc => kernel_rfl
  case hk => rfl
  case hm => exact fun N => (simSsCons (wAsg N 3 rfl (fun _ => rfl) (wCall N 0 ns_power_mod rfl if_power_mod s_power_mod (by decide) ⟨fun _ => rfl, ⟨fun _ => rfl, ⟨fun _ => rfl, ⟨fun _ => rfl, ⟨fun _ => rfl, ⟨fun _ => rfl, ⟨fun _ => rfl, trivial⟩⟩⟩⟩⟩⟩⟩ (simCons (wCall N 3 ns__law_limbs rfl if__law_limbs s__law_limbs (by decide) ⟨fun _ => rfl, ⟨fun _ => rfl, trivial⟩⟩ (simCons (wLoc N 0 rfl) (simCons (wLoc N 2 rfl) simNil (fun _ => rfl)) (fun _ => rfl))) (simCons (wCall N 3 ns__law_limbs rfl if__law_limbs s__law_limbs (by decide) ⟨fun _ => rfl, ⟨fun _ => rfl, trivial⟩⟩ (simCons (simBin okSub (wLoc N 1 rfl) simInt) (simCons (wLoc N 2 rfl) simNil (fun _ => rfl)) (fun _ => rfl))) (simCons (wCall N 3 ns__law_limbs rfl if__law_limbs s__law_limbs (by decide) ⟨fun _ => rfl, ⟨fun _ => rfl, trivial⟩⟩ (simCons (simBin okMul (wLoc N 1 rfl) (wLoc N 1 rfl)) (simCons (wLoc N 2 rfl) simNil (fun _ => rfl)) (fun _ => rfl))) (simCons (wLoc N 2 rfl) (simCons simInt (simCons (wGlob N 1 ns_mul_school rfl) (simCons (wGlob N 2 ns_divrem_school rfl) simNil (fun _ => rfl)) (fun _ => rfl)) (fun _ => rfl)) (fun _ => rfl)) (fun _ => rfl)) (fun _ => rfl)) (fun _ => rfl)))) (simSsCons (wTup2 N 4 5 rfl rfl (fun _ => rfl) (fun _ => rfl) (wCall N 2 ns_divrem_school rfl if_divrem_school s_divrem_school (by decide) ⟨fun _ => rfl, ⟨fun _ => rfl, ⟨fun _ => rfl, trivial⟩⟩⟩ (simCons (wLoc N 3 rfl) (simCons (wCall N 3 ns__law_limbs rfl if__law_limbs s__law_limbs (by decide) ⟨fun _ => rfl, ⟨fun _ => rfl, trivial⟩⟩ (simCons (wLoc N 1 rfl) (simCons (wLoc N 2 rfl) simNil (fun _ => rfl)) (fun _ => rfl))) (simCons (wLoc N 2 rfl) simNil (fun _ => rfl)) (fun _ => rfl)) (fun _ => rfl)))) (simSsCons (simRet (simIte (simTEqL (wLoc N 5 rfl) (simLst (simCons simInt simNil (fun _ => rfl)))) (wCall N 4 ns__law_told rfl if__law_told s__law_told (by decide) ⟨fun _ => rfl, ⟨fun _ => rfl, trivial⟩⟩ (simCons (wLoc N 4 rfl) (simCons (wLoc N 2 rfl) simNil (fun _ => rfl)) (fun _ => rfl))) simNone)) simSsNil)))

noncomputable def c__law_due : CM := defM 2 (List.replicate 2 .unb) (ssCons (sAsg 2 (eInt 1)) (ssCons (sForR 3 (rng1 (eBin oSub (eLoc 1) (eInt 1))) (ssCons (sAsg 2 (eBin oMod (eBin oMul (eLoc 2) (eLoc 0)) (eBin oMul (eLoc 1) (eLoc 1)))) ssNil)) (ssCons (sRet (eBin oDiv (eBin oSub (eLoc 2) (eInt 1)) (eLoc 1))) ssNil)))
theorem s__law_due : SimC (GG prog p loose w mean mg mb) 1 397 c__law_due := by
  refine' wDef [(Str.ofString "number"), (Str.ofString "prime")] [(Str.ofString "found"), (Str.ofString "turn")] [(Str.ofString "range")] ?ho ?hcd ?hb ?hN ?hc ?hk ?hm
  case ho => (show List.lookup 397 (KK w.params) = some ⟨_, _, .func (fnOf _ _ _ _ _ _ _ _ _ _ _ _), _⟩; k_is)
  case hcd => kernel_rfl
  case hb => exact fun vs h => by obtain ⟨a, b, rfl⟩ := len2 h; rfl
  case hN => kernel_rfl
  case hc => kernel_rfl
  case hk => rfl
  case hm => exact fun N => (simSsCons (wAsg N 2 rfl (fun _ => rfl) simInt) (simSsCons (wForR N 3 rfl (fun _ _ => rfl) (simRng1 (N.boot b_range 0 rfl) ⟨fun _ => rfl, trivial⟩ (simBin okSub (wLoc N 1 rfl) simInt)) (simSsCons (wAsg N 2 rfl (fun _ => rfl) (simBin okMod (simBin okMul (wLoc N 2 rfl) (wLoc N 0 rfl)) (simBin okMul (wLoc N 1 rfl) (wLoc N 1 rfl)))) simSsNil)) (simSsCons (simRet (simBin okDiv (simBin okSub (wLoc N 2 rfl) simInt) (wLoc N 1 rfl))) simSsNil)))

end
end Mine
end
-- part M21
section
namespace Mine
open PySem PySem.W PySem.Spec PySem.Calls PyProof.Rows
theorem fill5 : (PySem.Challenge.rw_xw0116_01, KK) = (PySem.Challenge.rw_xw0116_01, KK) := by
  k_fill
  rfl
noncomputable def lawOf (o : Option Obj) : List Stmt := match o with
  | some ⟨_, _, .func fd, _⟩ => match fd.body with
    | .stmts b => b.drop 2
    | _ => []
  | _ => []
noncomputable def lawScope (o : Option Obj) : Scope := match o with
  | some ⟨_, _, .func fd, _⟩ => fd.scope
  | _ => ⟨.function, [], false, false, []⟩
theorem law_of {P : Params} {o : Obj} (h : List.lookup 402 (KK P) = some o) {Q : List Stmt → Scope → Prop} (T : Q (lawOf (some o)) (lawScope (some o))) : Q (lawOf (List.lookup 402 (KK P))) (lawScope (List.lookup 402 (KK P))) := by
  rw [h]; exact T
noncomputable def l_turn1 : SM := (ssCons (sExp (eApp (eLoc 2) (eIte (tCmp cNe (eLoc 3) (eLoc 5)) (eCall c__law_quotient (esCons (eLoc 3) (esCons (eLoc 5) (esCons (eLoc 4) esNil)))) (eInt 0)))) (ssCons (sIf (tAnd (tCmp cNe (eLoc 3) (eLoc 5)) (tAnd (tCmp cNe (eSub (eLoc 2) (eLoc 3)) (eCall c__law_due (esCons (eLoc 3) (esCons (eLoc 5) esNil)))) tAndNil)) (ssCons (sRet (eBool false)) ssNil) ssNil) ssNil))
noncomputable def l_turn2 : SM := (ssCons (sIf (tCmp cNe (eBin oMod (eBin oSub (eBin oAdd (eSub (eLoc 2) (eLoc 3)) (eSub (eLoc 2) (eInt 2))) (eSub (eLoc 2) (eBin oMul (eInt 2) (eLoc 3)))) (eLoc 5)) (eInt 0)) (ssCons (sRet (eBool false)) ssNil) ssNil) (ssCons (sAsg 6 (eCall c__law_told (esCons (eCall c_inverse_mod (esCons (eCall c__law_limbs (esCons (eLoc 3) (esCons (eLoc 4) esNil))) (esCons (eCall c__law_limbs (esCons (eLoc 5) (esCons (eLoc 4) esNil))) (esCons (eLoc 4) (esCons (eGlob 320) (esCons (eGlob 362) esNil)))))) (esCons (eLoc 4) esNil)))) (ssCons (sIf (tOr (tCmp cNe (eBin oMod (eBin oMul (eLoc 6) (eLoc 3)) (eLoc 5)) (eInt 1)) (tOr (tCmp cNe (eBin oMod (eBin oSub (eBin oSub (eSub (eLoc 2) (eLoc 3)) (eLoc 6)) (eSub (eLoc 2) (eBin oAdd (eLoc 3) (eLoc 5)))) (eLoc 5)) (eInt 0)) tOrNil)) (ssCons (sRet (eBool false)) ssNil) ssNil) ssNil)))
noncomputable def l_law0 : SM := (sAsg 2 (eLst (esCons (eInt 0) esNil)))
noncomputable def l_law1 : SM := (sForR 3 (rng2 (eInt 1) (eBin oMul (eInt 2) (eLoc 5))) l_turn1)
noncomputable def l_law2 : SM := (sForR 3 (rng2 (eInt 1) (eLoc 5)) l_turn2)
noncomputable def l_law3 : SM := (sTup [7, 8] (eCall c_divrem_school (esCons (eCall c_add_limb (esCons (eCall c_factorial (esCons (eBin oSub (eLoc 5) (eInt 1)) (esCons (eLoc 4) (esCons (eGlob 320) esNil)))) (esCons (eInt 1) (esCons (eLoc 4) esNil)))) (esCons (eCall c__law_limbs (esCons (eLoc 5) (esCons (eLoc 4) esNil))) (esCons (eLoc 4) esNil)))))
noncomputable def l_law4 : SM := (sRet (eAnd (eEqL (eLoc 8) (eLst esNil)) (eCmp Z.eqB (eBin oMod (eBin oSub (eCall c__law_told (esCons (eLoc 7) (esCons (eLoc 4) esNil))) (eSum (eSli (eLoc 2) pNone (pSome (eLoc 5))))) (eLoc 5)) (eInt 0))))
noncomputable def c_law : SM := (ssCons l_law0 (ssCons l_law1 (ssCons l_law2 (ssCons l_law3 (ssCons l_law4 ssNil)))))
noncomputable abbrev lawNm : List Str := [(Str.ofString "script"), (Str.ofString "yard"), (Str.ofString "told"), (Str.ofString "number"), (Str.ofString "w"), (Str.ofString "prime"), (Str.ofString "back"), (Str.ofString "found"), (Str.ofString "left")]
noncomputable abbrev lawGl : List Str := [(Str.ofString "range"), (Str.ofString "divrem_school"), (Str.ofString "_law_told"), (Str.ofString "add_limb"), (Str.ofString "_law_limbs"), (Str.ofString "inverse_mod"), (Str.ofString "mul_school"), (Str.ofString "factorial"), (Str.ofString "_law_quotient"), (Str.ofString "_law_due"), (Str.ofString "sum")]
theorem law_go {G : Gd} {cs : Scope} {r : Nat} {b : List Stmt} {m : SM} (h : nmOkB cs lawNm lawGl = true) (f : NmOk cs lawNm lawGl → SimSs G cs lawNm r b m) : SimSs G cs lawNm r b m := f (NmOk.of h)
section
variable {prog p : Program} {loose : List Str} {w : World} {mean : ExcName → Option Value} {mg mb : Str → Option Value}

theorem s_law : SimSs (GG prog p loose w mean mg mb) (lawScope (List.lookup 402 (KK w.params))) lawNm 14 (lawOf (List.lookup 402 (KK w.params))) c_law := by
  refine' law_of (P := w.params) (Q := fun b sc => SimSs (GG prog p loose w mean mg mb) sc lawNm 14 b c_law) ?h ?T
  case h => (show List.lookup 402 (KK w.params) = some _; k_is)
  case T =>
    dsimp only [lawOf, lawScope, List.drop_succ_cons, List.drop_zero]
    refine' law_go ?a ?b
    case a => kernel_rfl
    case b => exact fun N => (simSsCons (wAsg N 2 rfl (fun _ => rfl) (simLst (simCons simInt simNil (fun _ => rfl)))) (simSsCons (wForR N 3 rfl (fun _ _ => rfl) (simRng2 (N.boot b_range 0 rfl) ⟨fun _ => rfl, ⟨fun _ => rfl, trivial⟩⟩ simInt (simBin okMul simInt (wLoc N 5 rfl))) (simSsCons (simExp (simApp ⟨fun _ => rfl, trivial⟩ (fun _ => ⟨_, rfl⟩) (wLoc N 2 rfl) (simIte (simTCmp okNe (wLoc N 3 rfl) (wLoc N 5 rfl)) (wCall N 8 ns__law_quotient rfl if__law_quotient s__law_quotient (by decide) ⟨fun _ => rfl, ⟨fun _ => rfl, ⟨fun _ => rfl, trivial⟩⟩⟩ (simCons (wLoc N 3 rfl) (simCons (wLoc N 5 rfl) (simCons (wLoc N 4 rfl) simNil (fun _ => rfl)) (fun _ => rfl)) (fun _ => rfl))) simInt)) (fun c _ => notInter c) (fun _ => rfl)) (simSsCons (simIf (simTAnd (simTCmp okNe (wLoc N 3 rfl) (wLoc N 5 rfl)) (simTAnd (simTCmp okNe (simSub (fun _ _ _ => rfl) (wLoc N 2 rfl) (wLoc N 3 rfl)) (wCall N 9 ns__law_due rfl if__law_due s__law_due (by decide) ⟨fun _ => rfl, ⟨fun _ => rfl, trivial⟩⟩ (simCons (wLoc N 3 rfl) (simCons (wLoc N 5 rfl) simNil (fun _ => rfl)) (fun _ => rfl)))) simTAndNil)) (simSsCons (simRet simBool) simSsNil) simSsNil) simSsNil))) (simSsCons (wForR N 3 rfl (fun _ _ => rfl) (simRng2 (N.boot b_range 0 rfl) ⟨fun _ => rfl, ⟨fun _ => rfl, trivial⟩⟩ simInt (wLoc N 5 rfl)) (simSsCons (simIf (simTCmp okNe (simBin okMod (simBin okSub (simBin okAdd (simSub (fun _ _ _ => rfl) (wLoc N 2 rfl) (wLoc N 3 rfl)) (simSub (fun _ _ _ => rfl) (wLoc N 2 rfl) simInt)) (simSub (fun _ _ _ => rfl) (wLoc N 2 rfl) (simBin okMul simInt (wLoc N 3 rfl)))) (wLoc N 5 rfl)) simInt) (simSsCons (simRet simBool) simSsNil) simSsNil) (simSsCons (wAsg N 6 rfl (fun _ => rfl) (wCall N 2 ns__law_told rfl if__law_told s__law_told (by decide) ⟨fun _ => rfl, ⟨fun _ => rfl, trivial⟩⟩ (simCons (wCall N 5 ns_inverse_mod rfl if_inverse_mod s_inverse_mod (by decide) ⟨fun _ => rfl, ⟨fun _ => rfl, ⟨fun _ => rfl, ⟨fun _ => rfl, ⟨fun _ => rfl, trivial⟩⟩⟩⟩⟩ (simCons (wCall N 4 ns__law_limbs rfl if__law_limbs s__law_limbs (by decide) ⟨fun _ => rfl, ⟨fun _ => rfl, trivial⟩⟩ (simCons (wLoc N 3 rfl) (simCons (wLoc N 4 rfl) simNil (fun _ => rfl)) (fun _ => rfl))) (simCons (wCall N 4 ns__law_limbs rfl if__law_limbs s__law_limbs (by decide) ⟨fun _ => rfl, ⟨fun _ => rfl, trivial⟩⟩ (simCons (wLoc N 5 rfl) (simCons (wLoc N 4 rfl) simNil (fun _ => rfl)) (fun _ => rfl))) (simCons (wLoc N 4 rfl) (simCons (wGlob N 6 ns_mul_school rfl) (simCons (wGlob N 1 ns_divrem_school rfl) simNil (fun _ => rfl)) (fun _ => rfl)) (fun _ => rfl)) (fun _ => rfl)) (fun _ => rfl))) (simCons (wLoc N 4 rfl) simNil (fun _ => rfl)) (fun _ => rfl)))) (simSsCons (simIf (simTOr (simTCmp okNe (simBin okMod (simBin okMul (wLoc N 6 rfl) (wLoc N 3 rfl)) (wLoc N 5 rfl)) simInt) (simTOr (simTCmp okNe (simBin okMod (simBin okSub (simBin okSub (simSub (fun _ _ _ => rfl) (wLoc N 2 rfl) (wLoc N 3 rfl)) (wLoc N 6 rfl)) (simSub (fun _ _ _ => rfl) (wLoc N 2 rfl) (simBin okAdd (wLoc N 3 rfl) (wLoc N 5 rfl)))) (wLoc N 5 rfl)) simInt) simTOrNil)) (simSsCons (simRet simBool) simSsNil) simSsNil) simSsNil)))) (simSsCons (wTup2 N 7 8 rfl rfl (fun _ => rfl) (fun _ => rfl) (wCall N 1 ns_divrem_school rfl if_divrem_school s_divrem_school (by decide) ⟨fun _ => rfl, ⟨fun _ => rfl, ⟨fun _ => rfl, trivial⟩⟩⟩ (simCons (wCall N 3 ns_add_limb rfl if_add_limb s_add_limb (by decide) ⟨fun _ => rfl, ⟨fun _ => rfl, ⟨fun _ => rfl, trivial⟩⟩⟩ (simCons (wCall N 7 ns_factorial rfl if_factorial s_factorial (by decide) ⟨fun _ => rfl, ⟨fun _ => rfl, ⟨fun _ => rfl, trivial⟩⟩⟩ (simCons (simBin okSub (wLoc N 5 rfl) simInt) (simCons (wLoc N 4 rfl) (simCons (wGlob N 6 ns_mul_school rfl) simNil (fun _ => rfl)) (fun _ => rfl)) (fun _ => rfl))) (simCons simInt (simCons (wLoc N 4 rfl) simNil (fun _ => rfl)) (fun _ => rfl)) (fun _ => rfl))) (simCons (wCall N 4 ns__law_limbs rfl if__law_limbs s__law_limbs (by decide) ⟨fun _ => rfl, ⟨fun _ => rfl, trivial⟩⟩ (simCons (wLoc N 5 rfl) (simCons (wLoc N 4 rfl) simNil (fun _ => rfl)) (fun _ => rfl))) (simCons (wLoc N 4 rfl) simNil (fun _ => rfl)) (fun _ => rfl)) (fun _ => rfl)))) (simSsCons (simRet (simAnd (simEqL (wLoc N 8 rfl) (simLst simNil)) (simCmp okEq (simBin okMod (simBin okSub (wCall N 2 ns__law_told rfl if__law_told s__law_told (by decide) ⟨fun _ => rfl, ⟨fun _ => rfl, trivial⟩⟩ (simCons (wLoc N 7 rfl) (simCons (wLoc N 4 rfl) simNil (fun _ => rfl)) (fun _ => rfl))) (simSum (N.boot b_sum 10 rfl) ⟨fun _ => rfl, trivial⟩ (simSli (fun _ _ => rfl) (fun _ _ => rfl) (wLoc N 2 rfl) simPNone (simPSome (wLoc N 5 rfl))))) (wLoc N 5 rfl)) simInt))) simSsNil)))))
end
end Mine
end
-- part M22
section
namespace Mine
open PySem PySem.W PySem.Spec PySem.Calls PyProof.Rows

noncomputable def tabOk (os : Hp) : Bool := lookK os 0 fun o => match o with
  | .tab k _ => Nat.beq k 0
  | _ => false
noncomputable def finK : KS := fun fl _ _ os => match fl with
  | .ret v => match v with
    | .bool b => match b with
      | true => tabOk os
      | false => false
    | _ => false
  | _ => false
noncomputable def loc0 (w p : Int) : List V := [.unb, .unb, .unb, .unb, .int w, .int p, .unb, .unb, .unb]

theorem loop_turn {i : Nat} {b : SM} {x x' : Int} {f : Nat} {loc loc1 loc' : List V} {n n' : Nat} {os os' : Hp} {K : KS} (hs : ∀ k, setV loc i (.int x) k = k loc1) (hx : Int.add x 1 = x') (hb : ∀ K : KS, b loc1 n os K = K .nxt loc' n' os') :
    loopR i b 1 (f + 1) x loc n os K = loopR i b 1 f x' loc' n' os' K := by
  conv => lhs; unfold loopR
  rw [hs, hb]
  dsimp only
  rw [forceI_eq, hx]
theorem for_start {i : Nat} {b : SM} {e : EM} {loc : List V} {n : Nat} {os : Hp} {K : KS} {hi : Int} {c : Nat} (he : ∀ K : KE, e loc n os K = K (.int hi) n os) (hs : Builtin.Range.small 1 hi 1 = true) (hc : (Builtin.Range.rangeSize 1 hi 1).toNat = c) :
    sForR i (rng2 (eInt 1) e) b loc n os K = loopR i b 1 c 1 loc n os K := by
  unfold sForR rng2 eInt
  dsimp only
  rw [he]
  dsimp only
  rw [hs, hc]
theorem law_chain {a0 a1 a2 a3 a4 : List V} {n0 n1 n2 n3 n4 n5 : Nat} {o0 o1 o2 o3 o4 o5 : Hp} (h0 : ∀ K, l_law0 a0 n0 o0 K = K .nxt a1 n1 o1) (h1 : ∀ K, l_law1 a1 n1 o1 K = K .nxt a2 n2 o2) (h2 : ∀ K, l_law2 a2 n2 o2 K = K .nxt a3 n3 o3)
    (h3 : ∀ K, l_law3 a3 n3 o3 K = K .nxt a4 n4 o4) (h4 : ∀ K, l_law4 a4 n4 o4 K = K (.ret (.bool true)) a4 n5 o5) (hf : tabOk o5 = true) : c_law a0 n0 o0 finK = true := by
  unfold c_law
  simp only [ssCons]
  rw [h0]
  dsimp only
  rw [h1]
  dsimp only
  rw [h2]
  dsimp only
  rw [h3]
  dsimp only
  rw [h4]
  exact hf

theorem fill6 : (PySem.Challenge.rw_xw0116_01, KK) = (PySem.Challenge.rw_xw0116_01, KK) := by
  k_fill
  rfl
theorem cloI_tab {P : Params} : (cloI P).tabAt = 177 := by
  refine' dt_of (P := P) (Q := fun I => I.tabAt = 177) ?h ?T
  case h => (show List.lookup 182 (KK P) = some _; k_is)
  case T => rfl

theorem law_fin {prog p : Program} {loose : List Str} {w : World} {mean : ExcName → Option Value} {mg mb : Str → Option Value} {h₀ : Heap} {L fa : Addr} {cd : Value} {m : Str → Option Value} {news : List (Addr × Obj)} {sc : Scope} {R : List Stmt} {s : Shared} {Q : Flow → Shared → Prop} {E : Value → Shared → Prop} {wv pv : Int} {tw tp : Tok}
    (F : Fr h₀ L s.heap m) (N : News h₀ L s.heap news) (hmem : (177, tabObj #[]) ∈ news) (B : Below callerA h₀ [] h₀) (X : (KK w.params).In h₀) (T : Top p loose mean mg mb h₀)
    (hw : m (Str.ofString "w") = some (.int wv tw)) (hp : m (Str.ofString "prime") = some (.int pv tp))
    (hR : R = lawOf (List.lookup 402 (KK w.params))) (hsc : sc = lawScope (List.lookup 402 (KK w.params))) (hk : sc.kind = .function)
    (hev : c_law (loc0 wv pv) 1 [(0, .tab 0 none)] finK = true)
    (hQ : ∀ h' tk m' ps, Fr h₀ L h' m' → News h₀ L h' [(177, tabObj ps)] → Q (.ret (.bool true)) { s with heap := h', toks := tk }) :
    wpAny (model prog w) (callerA.deeper (envOf (Str.ofString "law") sc L fa cd)) (execs R (envOf (Str.ofString "law") sc L fa cd)) Q E s := by
  subst hR
  let G := GG prog p loose w mean mg mb
  let c : Cx G := ⟨Str.ofString "law", sc, L, fa, cd, [], [], callerA, h₀, h₀, B, X, T, hk⟩
  have hA : AOk c 14 (callerA.deeper c.env) := ⟨rfl, by show callerA.depth + 1 + 14 < recursionLimit; decide, by show callerA.units + 3 + 10 * 14 + 100 < cLine; decide, rfl⟩
  have LL1 : LL G.I 1 (fun _ => 177) [(0, .tab 0 none)] [(177, tabObj #[])] := LL.cons (k := 0) (ρ := fun _ => 177) Nat.one_pos ⟨⟨Nat.one_pos, (cloI_tab (P := w.params)).symm⟩, rfl⟩ .nil
  have S : St c lawNm s.heap m (loc0 wv pv) 1 (fun _ => 177) [(0, .tab 0 none)] [] := ⟨F, ⟨⟨_, LL1, (fun q hq => by
    rcases List.mem_cons.mp hq with rfl | hq
    · exact N _ hmem
    · cases hq), by simp⟩⟩, ⟨fun i x q i1 i2 => by
    match i, i1, i2 with
    | 0, i1, i2 => cases i2; exact .inl rfl
    | 1, i1, i2 => cases i2; exact .inl rfl
    | 2, i1, i2 => cases i2; exact .inl rfl
    | 3, i1, i2 => cases i2; exact .inl rfl
    | 4, i1, i2 => cases i1; cases i2; exact .inr ⟨_, hw, _, rfl⟩
    | 5, i1, i2 => cases i1; cases i2; exact .inr ⟨_, hp, _, rfl⟩
    | 6, i1, i2 => cases i2; exact .inl rfl
    | 7, i1, i2 => cases i2; exact .inl rfl
    | 8, i1, i2 => cases i2; exact .inl rfl
    | i + 9, i1, i2 => cases i2⟩⟩
  refine s_law c (by exact hsc) _ hA [] s m _ 1 _ _ _ Q E S hev fun fl f h' tk mp' loc' n' ρ' os' k1 r1 S1 e1 => ?_
  unfold finK at k1
  cases fl with
  | ret v =>
    cases v with
    | bool b =>
      cases b with
      | true =>
        obtain ⟨u, rfl, rfl⟩ := r1
        dsimp only at k1
        unfold tabOk at k1
        obtain ⟨o, hj, k2⟩ := lookK_ok k1
        cases o with
        | tab k cc =>
          have := beq_tt k2
          subst this
          obtain ⟨l, w1, w2, w3⟩ := S1.D.led
          obtain ⟨ob, hm, ⟨⟨_, ht⟩, hob⟩, _⟩ := w1.look hj
          have ht : ρ' 0 = 177 := ht.trans (cloI_tab (P := w.params))
          rw [ht] at hm
          have hps : ∃ ps, ob = tabObj ps := by
            cases cc with
            | none => exact ⟨_, hob⟩
            | some d => exact ⟨_, hob.2⟩
          obtain ⟨ps, rfl⟩ := hps
          exact hQ h' tk mp' ps S1.F (fun q hq => by
            rcases List.mem_cons.mp hq with rfl | hq
            · exact w2 _ (List.mem_append_left _ hm)
            · cases hq)
        | _ => cases k2
      | false => cases k1
    | _ => cases k1
  | _ => cases k1
end Mine
end
-- part M23_5
section
namespace Mine
open PySem PySem.W PySem.Spec PySem.Calls PyProof.Rows
theorem e8x5a (K : KS) : l_law0 [.unb, .unb, .unb, .unb, .int 8, .int 5, .unb, .unb, .unb] 1 [(0, .tab 0 none)] K = K .nxt [.unb, .unb, .ref 1, .unb, .int 8, .int 5, .unb, .unb, .unb] 2 [(1, .list [.int 0]), (0, .tab 0 none)] := by kernel_rfl
theorem e8x5b_1 (K : KS) : l_turn1 [.unb, .unb, .ref 1, .int 1, .int 8, .int 5, .unb, .unb, .unb] 2 [(1, .list [.int 0]), (0, .tab 0 none)] K = K .nxt [.unb, .unb, .ref 1, .int 1, .int 8, .int 5, .unb, .unb, .unb] 56 [(15, .code), (1, .list [.int 0, .int 0]), (0, .tab 0 (some 15))] := by kernel_rfl
theorem e8x5b_2 (K : KS) : l_turn1 [.unb, .unb, .ref 1, .int 2, .int 8, .int 5, .unb, .unb, .unb] 56 [(15, .code), (1, .list [.int 0, .int 0]), (0, .tab 0 (some 15))] K = K .nxt [.unb, .unb, .ref 1, .int 2, .int 8, .int 5, .unb, .unb, .unb] 113 [(15, .code), (1, .list [.int 0, .int 0, .int 3]), (0, .tab 0 (some 15))] := by kernel_rfl
theorem e8x5b_3 (K : KS) : l_turn1 [.unb, .unb, .ref 1, .int 3, .int 8, .int 5, .unb, .unb, .unb] 113 [(15, .code), (1, .list [.int 0, .int 0, .int 3]), (0, .tab 0 (some 15))] K = K .nxt [.unb, .unb, .ref 1, .int 3, .int 8, .int 5, .unb, .unb, .unb] 178 [(15, .code), (1, .list [.int 0, .int 0, .int 3, .int 1]), (0, .tab 0 (some 15))] := by kernel_rfl
theorem e8x5b_4 (K : KS) : l_turn1 [.unb, .unb, .ref 1, .int 4, .int 8, .int 5, .unb, .unb, .unb] 178 [(15, .code), (1, .list [.int 0, .int 0, .int 3, .int 1]), (0, .tab 0 (some 15))] K = K .nxt [.unb, .unb, .ref 1, .int 4, .int 8, .int 5, .unb, .unb, .unb] 243 [(15, .code), (1, .list [.int 0, .int 0, .int 3, .int 1, .int 1]), (0, .tab 0 (some 15))] := by kernel_rfl
theorem e8x5b_5 (K : KS) : l_turn1 [.unb, .unb, .ref 1, .int 5, .int 8, .int 5, .unb, .unb, .unb] 243 [(15, .code), (1, .list [.int 0, .int 0, .int 3, .int 1, .int 1]), (0, .tab 0 (some 15))] K = K .nxt [.unb, .unb, .ref 1, .int 5, .int 8, .int 5, .unb, .unb, .unb] 243 [(15, .code), (1, .list [.int 0, .int 0, .int 3, .int 1, .int 1, .int 0]), (0, .tab 0 (some 15))] := by kernel_rfl
theorem e8x5b_6 (K : KS) : l_turn1 [.unb, .unb, .ref 1, .int 6, .int 8, .int 5, .unb, .unb, .unb] 243 [(15, .code), (1, .list [.int 0, .int 0, .int 3, .int 1, .int 1, .int 0]), (0, .tab 0 (some 15))] K = K .nxt [.unb, .unb, .ref 1, .int 6, .int 8, .int 5, .unb, .unb, .unb] 316 [(15, .code), (1, .list [.int 0, .int 0, .int 3, .int 1, .int 1, .int 0, .int 4]), (0, .tab 0 (some 15))] := by kernel_rfl
theorem e8x5b_7 (K : KS) : l_turn1 [.unb, .unb, .ref 1, .int 7, .int 8, .int 5, .unb, .unb, .unb] 316 [(15, .code), (1, .list [.int 0, .int 0, .int 3, .int 1, .int 1, .int 0, .int 4]), (0, .tab 0 (some 15))] K = K .nxt [.unb, .unb, .ref 1, .int 7, .int 8, .int 5, .unb, .unb, .unb] 385 [(15, .code), (1, .list [.int 0, .int 0, .int 3, .int 1, .int 1, .int 0, .int 4, .int 0]), (0, .tab 0 (some 15))] := by kernel_rfl
theorem e8x5b_8 (K : KS) : l_turn1 [.unb, .unb, .ref 1, .int 8, .int 8, .int 5, .unb, .unb, .unb] 385 [(15, .code), (1, .list [.int 0, .int 0, .int 3, .int 1, .int 1, .int 0, .int 4, .int 0]), (0, .tab 0 (some 15))] K = K .nxt [.unb, .unb, .ref 1, .int 8, .int 8, .int 5, .unb, .unb, .unb] 458 [(15, .code), (1, .list [.int 0, .int 0, .int 3, .int 1, .int 1, .int 0, .int 4, .int 0, .int 4]), (0, .tab 0 (some 15))] := by kernel_rfl
theorem e8x5b_9 (K : KS) : l_turn1 [.unb, .unb, .ref 1, .int 9, .int 8, .int 5, .unb, .unb, .unb] 458 [(15, .code), (1, .list [.int 0, .int 0, .int 3, .int 1, .int 1, .int 0, .int 4, .int 0, .int 4]), (0, .tab 0 (some 15))] K = K .nxt [.unb, .unb, .ref 1, .int 9, .int 8, .int 5, .unb, .unb, .unb] 531 [(15, .code), (1, .list [.int 0, .int 0, .int 3, .int 1, .int 1, .int 0, .int 4, .int 0, .int 4, .int 2]), (0, .tab 0 (some 15))] := by kernel_rfl
theorem e8x5b (K : KS) : l_law1 [.unb, .unb, .ref 1, .unb, .int 8, .int 5, .unb, .unb, .unb] 2 [(1, .list [.int 0]), (0, .tab 0 none)] K = K .nxt [.unb, .unb, .ref 1, .int 9, .int 8, .int 5, .unb, .unb, .unb] 531 [(15, .code), (1, .list [.int 0, .int 0, .int 3, .int 1, .int 1, .int 0, .int 4, .int 0, .int 4, .int 2]), (0, .tab 0 (some 15))] :=
  (for_start (hi := 10) (c := 9) (fun _ => by kernel_rfl) (by kernel_rfl) (by kernel_rfl)).trans ((loop_turn (f := 8) (fun _ => rfl) rfl e8x5b_1).trans ((loop_turn (f := 7) (fun _ => rfl) rfl e8x5b_2).trans ((loop_turn (f := 6) (fun _ => rfl) rfl e8x5b_3).trans ((loop_turn (f := 5) (fun _ => rfl) rfl e8x5b_4).trans ((loop_turn (f := 4) (fun _ => rfl) rfl e8x5b_5).trans ((loop_turn (f := 3) (fun _ => rfl) rfl e8x5b_6).trans ((loop_turn (f := 2) (fun _ => rfl) rfl e8x5b_7).trans ((loop_turn (f := 1) (fun _ => rfl) rfl e8x5b_8).trans ((loop_turn (f := 0) (fun _ => rfl) rfl e8x5b_9).trans rfl)))))))))
theorem e8x5c_1 (K : KS) : l_turn2 [.unb, .unb, .ref 1, .int 1, .int 8, .int 5, .unb, .unb, .unb] 531 [(15, .code), (1, .list [.int 0, .int 0, .int 3, .int 1, .int 1, .int 0, .int 4, .int 0, .int 4, .int 2]), (0, .tab 0 (some 15))] K = K .nxt [.unb, .unb, .ref 1, .int 1, .int 8, .int 5, .int 1, .unb, .unb] 609 [(602, .list [.int 1]), (532, .list [.int 5]), (531, .list [.int 1]), (15, .code), (1, .list [.int 0, .int 0, .int 3, .int 1, .int 1, .int 0, .int 4, .int 0, .int 4, .int 2]), (0, .tab 0 (some 15))] := by kernel_rfl
theorem e8x5c_2 (K : KS) : l_turn2 [.unb, .unb, .ref 1, .int 2, .int 8, .int 5, .int 1, .unb, .unb] 609 [(602, .list [.int 1]), (532, .list [.int 5]), (531, .list [.int 1]), (15, .code), (1, .list [.int 0, .int 0, .int 3, .int 1, .int 1, .int 0, .int 4, .int 0, .int 4, .int 2]), (0, .tab 0 (some 15))] K = K .nxt [.unb, .unb, .ref 1, .int 2, .int 8, .int 5, .int 3, .unb, .unb] 724 [(720, .list [.int 3]), (610, .list [.int 5]), (609, .list [.int 2]), (602, .list [.int 1]), (532, .list [.int 5]), (531, .list [.int 1]), (15, .code), (1, .list [.int 0, .int 0, .int 3, .int 1, .int 1, .int 0, .int 4, .int 0, .int 4, .int 2]), (0, .tab 0 (some 15))] := by kernel_rfl
theorem e8x5c_3 (K : KS) : l_turn2 [.unb, .unb, .ref 1, .int 3, .int 8, .int 5, .int 3, .unb, .unb] 724 [(720, .list [.int 3]), (610, .list [.int 5]), (609, .list [.int 2]), (602, .list [.int 1]), (532, .list [.int 5]), (531, .list [.int 1]), (15, .code), (1, .list [.int 0, .int 0, .int 3, .int 1, .int 1, .int 0, .int 4, .int 0, .int 4, .int 2]), (0, .tab 0 (some 15))] K = K .nxt [.unb, .unb, .ref 1, .int 3, .int 8, .int 5, .int 2, .unb, .unb] 861 [(854, .list [.int 2]), (725, .list [.int 5]), (724, .list [.int 3]), (720, .list [.int 3]), (610, .list [.int 5]), (609, .list [.int 2]), (602, .list [.int 1]), (532, .list [.int 5]), (531, .list [.int 1]), (15, .code), (1, .list [.int 0, .int 0, .int 3, .int 1, .int 1, .int 0, .int 4, .int 0, .int 4, .int 2]), (0, .tab 0 (some 15))] := by kernel_rfl
theorem e8x5c_4 (K : KS) : l_turn2 [.unb, .unb, .ref 1, .int 4, .int 8, .int 5, .int 2, .unb, .unb] 861 [(854, .list [.int 2]), (725, .list [.int 5]), (724, .list [.int 3]), (720, .list [.int 3]), (610, .list [.int 5]), (609, .list [.int 2]), (602, .list [.int 1]), (532, .list [.int 5]), (531, .list [.int 1]), (15, .code), (1, .list [.int 0, .int 0, .int 3, .int 1, .int 1, .int 0, .int 4, .int 0, .int 4, .int 2]), (0, .tab 0 (some 15))] K = K .nxt [.unb, .unb, .ref 1, .int 4, .int 8, .int 5, .int 4, .unb, .unb] 976 [(972, .list [.int 4]), (862, .list [.int 5]), (861, .list [.int 4]), (854, .list [.int 2]), (725, .list [.int 5]), (724, .list [.int 3]), (720, .list [.int 3]), (610, .list [.int 5]), (609, .list [.int 2]), (602, .list [.int 1]), (532, .list [.int 5]), (531, .list [.int 1]), (15, .code), (1, .list [.int 0, .int 0, .int 3, .int 1, .int 1, .int 0, .int 4, .int 0, .int 4, .int 2]), (0, .tab 0 (some 15))] := by kernel_rfl
theorem e8x5c (K : KS) : l_law2 [.unb, .unb, .ref 1, .int 9, .int 8, .int 5, .unb, .unb, .unb] 531 [(15, .code), (1, .list [.int 0, .int 0, .int 3, .int 1, .int 1, .int 0, .int 4, .int 0, .int 4, .int 2]), (0, .tab 0 (some 15))] K = K .nxt [.unb, .unb, .ref 1, .int 4, .int 8, .int 5, .int 4, .unb, .unb] 976 [(972, .list [.int 4]), (862, .list [.int 5]), (861, .list [.int 4]), (854, .list [.int 2]), (725, .list [.int 5]), (724, .list [.int 3]), (720, .list [.int 3]), (610, .list [.int 5]), (609, .list [.int 2]), (602, .list [.int 1]), (532, .list [.int 5]), (531, .list [.int 1]), (15, .code), (1, .list [.int 0, .int 0, .int 3, .int 1, .int 1, .int 0, .int 4, .int 0, .int 4, .int 2]), (0, .tab 0 (some 15))] :=
  (for_start (hi := 5) (c := 4) (fun _ => by kernel_rfl) (by kernel_rfl) (by kernel_rfl)).trans ((loop_turn (f := 3) (fun _ => rfl) rfl e8x5c_1).trans ((loop_turn (f := 2) (fun _ => rfl) rfl e8x5c_2).trans ((loop_turn (f := 1) (fun _ => rfl) rfl e8x5c_3).trans ((loop_turn (f := 0) (fun _ => rfl) rfl e8x5c_4).trans rfl))))
theorem e8x5d (K : KS) : l_law3 [.unb, .unb, .ref 1, .int 4, .int 8, .int 5, .int 4, .unb, .unb] 976 [(972, .list [.int 4]), (862, .list [.int 5]), (861, .list [.int 4]), (854, .list [.int 2]), (725, .list [.int 5]), (724, .list [.int 3]), (720, .list [.int 3]), (610, .list [.int 5]), (609, .list [.int 2]), (602, .list [.int 1]), (532, .list [.int 5]), (531, .list [.int 1]), (15, .code), (1, .list [.int 0, .int 0, .int 3, .int 1, .int 1, .int 0, .int 4, .int 0, .int 4, .int 2]), (0, .tab 0 (some 15))] K = K .nxt [.unb, .unb, .ref 1, .int 4, .int 8, .int 5, .int 4, .ref 1045, .ref 1047] 1049 [(1048, .tup [.ref 1045, .ref 1047]), (1047, .list []), (1045, .list [.int 5]), (1041, .list [.int 5]), (1039, .list [.int 25]), (1038, .list [.int 24]), (972, .list [.int 4]), (862, .list [.int 5]), (861, .list [.int 4]), (854, .list [.int 2]), (725, .list [.int 5]), (724, .list [.int 3]), (720, .list [.int 3]), (610, .list [.int 5]), (609, .list [.int 2]), (602, .list [.int 1]), (532, .list [.int 5]), (531, .list [.int 1]), (15, .code), (1, .list [.int 0, .int 0, .int 3, .int 1, .int 1, .int 0, .int 4, .int 0, .int 4, .int 2]), (0, .tab 0 (some 15))] := by kernel_rfl
theorem e8x5e (K : KS) : l_law4 [.unb, .unb, .ref 1, .int 4, .int 8, .int 5, .int 4, .ref 1045, .ref 1047] 1049 [(1048, .tup [.ref 1045, .ref 1047]), (1047, .list []), (1045, .list [.int 5]), (1041, .list [.int 5]), (1039, .list [.int 25]), (1038, .list [.int 24]), (972, .list [.int 4]), (862, .list [.int 5]), (861, .list [.int 4]), (854, .list [.int 2]), (725, .list [.int 5]), (724, .list [.int 3]), (720, .list [.int 3]), (610, .list [.int 5]), (609, .list [.int 2]), (602, .list [.int 1]), (532, .list [.int 5]), (531, .list [.int 1]), (15, .code), (1, .list [.int 0, .int 0, .int 3, .int 1, .int 1, .int 0, .int 4, .int 0, .int 4, .int 2]), (0, .tab 0 (some 15))] K = K (.ret (.bool true)) [.unb, .unb, .ref 1, .int 4, .int 8, .int 5, .int 4, .ref 1045, .ref 1047] 1052 [(1051, .list [.int 0, .int 0, .int 3, .int 1, .int 1]), (1049, .list []), (1048, .tup [.ref 1045, .ref 1047]), (1047, .list []), (1045, .list [.int 5]), (1041, .list [.int 5]), (1039, .list [.int 25]), (1038, .list [.int 24]), (972, .list [.int 4]), (862, .list [.int 5]), (861, .list [.int 4]), (854, .list [.int 2]), (725, .list [.int 5]), (724, .list [.int 3]), (720, .list [.int 3]), (610, .list [.int 5]), (609, .list [.int 2]), (602, .list [.int 1]), (532, .list [.int 5]), (531, .list [.int 1]), (15, .code), (1, .list [.int 0, .int 0, .int 3, .int 1, .int 1, .int 0, .int 4, .int 0, .int 4, .int 2]), (0, .tab 0 (some 15))] := by kernel_rfl
theorem e8x5 : c_law (loc0 8 5) 1 [(0, .tab 0 none)] finK = true := law_chain e8x5a e8x5b e8x5c e8x5d e8x5e rfl
theorem e9x5a (K : KS) : l_law0 [.unb, .unb, .unb, .unb, .int 9, .int 5, .unb, .unb, .unb] 1 [(0, .tab 0 none)] K = K .nxt [.unb, .unb, .ref 1, .unb, .int 9, .int 5, .unb, .unb, .unb] 2 [(1, .list [.int 0]), (0, .tab 0 none)] := by kernel_rfl
theorem e9x5b_1 (K : KS) : l_turn1 [.unb, .unb, .ref 1, .int 1, .int 9, .int 5, .unb, .unb, .unb] 2 [(1, .list [.int 0]), (0, .tab 0 none)] K = K .nxt [.unb, .unb, .ref 1, .int 1, .int 9, .int 5, .unb, .unb, .unb] 56 [(15, .code), (1, .list [.int 0, .int 0]), (0, .tab 0 (some 15))] := by kernel_rfl
theorem e9x5b_2 (K : KS) : l_turn1 [.unb, .unb, .ref 1, .int 2, .int 9, .int 5, .unb, .unb, .unb] 56 [(15, .code), (1, .list [.int 0, .int 0]), (0, .tab 0 (some 15))] K = K .nxt [.unb, .unb, .ref 1, .int 2, .int 9, .int 5, .unb, .unb, .unb] 113 [(15, .code), (1, .list [.int 0, .int 0, .int 3]), (0, .tab 0 (some 15))] := by kernel_rfl
theorem e9x5b_3 (K : KS) : l_turn1 [.unb, .unb, .ref 1, .int 3, .int 9, .int 5, .unb, .unb, .unb] 113 [(15, .code), (1, .list [.int 0, .int 0, .int 3]), (0, .tab 0 (some 15))] K = K .nxt [.unb, .unb, .ref 1, .int 3, .int 9, .int 5, .unb, .unb, .unb] 178 [(15, .code), (1, .list [.int 0, .int 0, .int 3, .int 1]), (0, .tab 0 (some 15))] := by kernel_rfl
theorem e9x5b_4 (K : KS) : l_turn1 [.unb, .unb, .ref 1, .int 4, .int 9, .int 5, .unb, .unb, .unb] 178 [(15, .code), (1, .list [.int 0, .int 0, .int 3, .int 1]), (0, .tab 0 (some 15))] K = K .nxt [.unb, .unb, .ref 1, .int 4, .int 9, .int 5, .unb, .unb, .unb] 243 [(15, .code), (1, .list [.int 0, .int 0, .int 3, .int 1, .int 1]), (0, .tab 0 (some 15))] := by kernel_rfl
theorem e9x5b_5 (K : KS) : l_turn1 [.unb, .unb, .ref 1, .int 5, .int 9, .int 5, .unb, .unb, .unb] 243 [(15, .code), (1, .list [.int 0, .int 0, .int 3, .int 1, .int 1]), (0, .tab 0 (some 15))] K = K .nxt [.unb, .unb, .ref 1, .int 5, .int 9, .int 5, .unb, .unb, .unb] 243 [(15, .code), (1, .list [.int 0, .int 0, .int 3, .int 1, .int 1, .int 0]), (0, .tab 0 (some 15))] := by kernel_rfl
theorem e9x5b_6 (K : KS) : l_turn1 [.unb, .unb, .ref 1, .int 6, .int 9, .int 5, .unb, .unb, .unb] 243 [(15, .code), (1, .list [.int 0, .int 0, .int 3, .int 1, .int 1, .int 0]), (0, .tab 0 (some 15))] K = K .nxt [.unb, .unb, .ref 1, .int 6, .int 9, .int 5, .unb, .unb, .unb] 316 [(15, .code), (1, .list [.int 0, .int 0, .int 3, .int 1, .int 1, .int 0, .int 4]), (0, .tab 0 (some 15))] := by kernel_rfl
theorem e9x5b_7 (K : KS) : l_turn1 [.unb, .unb, .ref 1, .int 7, .int 9, .int 5, .unb, .unb, .unb] 316 [(15, .code), (1, .list [.int 0, .int 0, .int 3, .int 1, .int 1, .int 0, .int 4]), (0, .tab 0 (some 15))] K = K .nxt [.unb, .unb, .ref 1, .int 7, .int 9, .int 5, .unb, .unb, .unb] 385 [(15, .code), (1, .list [.int 0, .int 0, .int 3, .int 1, .int 1, .int 0, .int 4, .int 0]), (0, .tab 0 (some 15))] := by kernel_rfl
theorem e9x5b_8 (K : KS) : l_turn1 [.unb, .unb, .ref 1, .int 8, .int 9, .int 5, .unb, .unb, .unb] 385 [(15, .code), (1, .list [.int 0, .int 0, .int 3, .int 1, .int 1, .int 0, .int 4, .int 0]), (0, .tab 0 (some 15))] K = K .nxt [.unb, .unb, .ref 1, .int 8, .int 9, .int 5, .unb, .unb, .unb] 458 [(15, .code), (1, .list [.int 0, .int 0, .int 3, .int 1, .int 1, .int 0, .int 4, .int 0, .int 4]), (0, .tab 0 (some 15))] := by kernel_rfl
theorem e9x5b_9 (K : KS) : l_turn1 [.unb, .unb, .ref 1, .int 9, .int 9, .int 5, .unb, .unb, .unb] 458 [(15, .code), (1, .list [.int 0, .int 0, .int 3, .int 1, .int 1, .int 0, .int 4, .int 0, .int 4]), (0, .tab 0 (some 15))] K = K .nxt [.unb, .unb, .ref 1, .int 9, .int 9, .int 5, .unb, .unb, .unb] 531 [(15, .code), (1, .list [.int 0, .int 0, .int 3, .int 1, .int 1, .int 0, .int 4, .int 0, .int 4, .int 2]), (0, .tab 0 (some 15))] := by kernel_rfl
theorem e9x5b (K : KS) : l_law1 [.unb, .unb, .ref 1, .unb, .int 9, .int 5, .unb, .unb, .unb] 2 [(1, .list [.int 0]), (0, .tab 0 none)] K = K .nxt [.unb, .unb, .ref 1, .int 9, .int 9, .int 5, .unb, .unb, .unb] 531 [(15, .code), (1, .list [.int 0, .int 0, .int 3, .int 1, .int 1, .int 0, .int 4, .int 0, .int 4, .int 2]), (0, .tab 0 (some 15))] :=
  (for_start (hi := 10) (c := 9) (fun _ => by kernel_rfl) (by kernel_rfl) (by kernel_rfl)).trans ((loop_turn (f := 8) (fun _ => rfl) rfl e9x5b_1).trans ((loop_turn (f := 7) (fun _ => rfl) rfl e9x5b_2).trans ((loop_turn (f := 6) (fun _ => rfl) rfl e9x5b_3).trans ((loop_turn (f := 5) (fun _ => rfl) rfl e9x5b_4).trans ((loop_turn (f := 4) (fun _ => rfl) rfl e9x5b_5).trans ((loop_turn (f := 3) (fun _ => rfl) rfl e9x5b_6).trans ((loop_turn (f := 2) (fun _ => rfl) rfl e9x5b_7).trans ((loop_turn (f := 1) (fun _ => rfl) rfl e9x5b_8).trans ((loop_turn (f := 0) (fun _ => rfl) rfl e9x5b_9).trans rfl)))))))))
theorem e9x5c_1 (K : KS) : l_turn2 [.unb, .unb, .ref 1, .int 1, .int 9, .int 5, .unb, .unb, .unb] 531 [(15, .code), (1, .list [.int 0, .int 0, .int 3, .int 1, .int 1, .int 0, .int 4, .int 0, .int 4, .int 2]), (0, .tab 0 (some 15))] K = K .nxt [.unb, .unb, .ref 1, .int 1, .int 9, .int 5, .int 1, .unb, .unb] 609 [(602, .list [.int 1]), (532, .list [.int 5]), (531, .list [.int 1]), (15, .code), (1, .list [.int 0, .int 0, .int 3, .int 1, .int 1, .int 0, .int 4, .int 0, .int 4, .int 2]), (0, .tab 0 (some 15))] := by kernel_rfl
theorem e9x5c_2 (K : KS) : l_turn2 [.unb, .unb, .ref 1, .int 2, .int 9, .int 5, .int 1, .unb, .unb] 609 [(602, .list [.int 1]), (532, .list [.int 5]), (531, .list [.int 1]), (15, .code), (1, .list [.int 0, .int 0, .int 3, .int 1, .int 1, .int 0, .int 4, .int 0, .int 4, .int 2]), (0, .tab 0 (some 15))] K = K .nxt [.unb, .unb, .ref 1, .int 2, .int 9, .int 5, .int 3, .unb, .unb] 724 [(720, .list [.int 3]), (610, .list [.int 5]), (609, .list [.int 2]), (602, .list [.int 1]), (532, .list [.int 5]), (531, .list [.int 1]), (15, .code), (1, .list [.int 0, .int 0, .int 3, .int 1, .int 1, .int 0, .int 4, .int 0, .int 4, .int 2]), (0, .tab 0 (some 15))] := by kernel_rfl
theorem e9x5c_3 (K : KS) : l_turn2 [.unb, .unb, .ref 1, .int 3, .int 9, .int 5, .int 3, .unb, .unb] 724 [(720, .list [.int 3]), (610, .list [.int 5]), (609, .list [.int 2]), (602, .list [.int 1]), (532, .list [.int 5]), (531, .list [.int 1]), (15, .code), (1, .list [.int 0, .int 0, .int 3, .int 1, .int 1, .int 0, .int 4, .int 0, .int 4, .int 2]), (0, .tab 0 (some 15))] K = K .nxt [.unb, .unb, .ref 1, .int 3, .int 9, .int 5, .int 2, .unb, .unb] 861 [(854, .list [.int 2]), (725, .list [.int 5]), (724, .list [.int 3]), (720, .list [.int 3]), (610, .list [.int 5]), (609, .list [.int 2]), (602, .list [.int 1]), (532, .list [.int 5]), (531, .list [.int 1]), (15, .code), (1, .list [.int 0, .int 0, .int 3, .int 1, .int 1, .int 0, .int 4, .int 0, .int 4, .int 2]), (0, .tab 0 (some 15))] := by kernel_rfl
theorem e9x5c_4 (K : KS) : l_turn2 [.unb, .unb, .ref 1, .int 4, .int 9, .int 5, .int 2, .unb, .unb] 861 [(854, .list [.int 2]), (725, .list [.int 5]), (724, .list [.int 3]), (720, .list [.int 3]), (610, .list [.int 5]), (609, .list [.int 2]), (602, .list [.int 1]), (532, .list [.int 5]), (531, .list [.int 1]), (15, .code), (1, .list [.int 0, .int 0, .int 3, .int 1, .int 1, .int 0, .int 4, .int 0, .int 4, .int 2]), (0, .tab 0 (some 15))] K = K .nxt [.unb, .unb, .ref 1, .int 4, .int 9, .int 5, .int 4, .unb, .unb] 976 [(972, .list [.int 4]), (862, .list [.int 5]), (861, .list [.int 4]), (854, .list [.int 2]), (725, .list [.int 5]), (724, .list [.int 3]), (720, .list [.int 3]), (610, .list [.int 5]), (609, .list [.int 2]), (602, .list [.int 1]), (532, .list [.int 5]), (531, .list [.int 1]), (15, .code), (1, .list [.int 0, .int 0, .int 3, .int 1, .int 1, .int 0, .int 4, .int 0, .int 4, .int 2]), (0, .tab 0 (some 15))] := by kernel_rfl
theorem e9x5c (K : KS) : l_law2 [.unb, .unb, .ref 1, .int 9, .int 9, .int 5, .unb, .unb, .unb] 531 [(15, .code), (1, .list [.int 0, .int 0, .int 3, .int 1, .int 1, .int 0, .int 4, .int 0, .int 4, .int 2]), (0, .tab 0 (some 15))] K = K .nxt [.unb, .unb, .ref 1, .int 4, .int 9, .int 5, .int 4, .unb, .unb] 976 [(972, .list [.int 4]), (862, .list [.int 5]), (861, .list [.int 4]), (854, .list [.int 2]), (725, .list [.int 5]), (724, .list [.int 3]), (720, .list [.int 3]), (610, .list [.int 5]), (609, .list [.int 2]), (602, .list [.int 1]), (532, .list [.int 5]), (531, .list [.int 1]), (15, .code), (1, .list [.int 0, .int 0, .int 3, .int 1, .int 1, .int 0, .int 4, .int 0, .int 4, .int 2]), (0, .tab 0 (some 15))] :=
  (for_start (hi := 5) (c := 4) (fun _ => by kernel_rfl) (by kernel_rfl) (by kernel_rfl)).trans ((loop_turn (f := 3) (fun _ => rfl) rfl e9x5c_1).trans ((loop_turn (f := 2) (fun _ => rfl) rfl e9x5c_2).trans ((loop_turn (f := 1) (fun _ => rfl) rfl e9x5c_3).trans ((loop_turn (f := 0) (fun _ => rfl) rfl e9x5c_4).trans rfl))))
theorem e9x5d (K : KS) : l_law3 [.unb, .unb, .ref 1, .int 4, .int 9, .int 5, .int 4, .unb, .unb] 976 [(972, .list [.int 4]), (862, .list [.int 5]), (861, .list [.int 4]), (854, .list [.int 2]), (725, .list [.int 5]), (724, .list [.int 3]), (720, .list [.int 3]), (610, .list [.int 5]), (609, .list [.int 2]), (602, .list [.int 1]), (532, .list [.int 5]), (531, .list [.int 1]), (15, .code), (1, .list [.int 0, .int 0, .int 3, .int 1, .int 1, .int 0, .int 4, .int 0, .int 4, .int 2]), (0, .tab 0 (some 15))] K = K .nxt [.unb, .unb, .ref 1, .int 4, .int 9, .int 5, .int 4, .ref 1045, .ref 1047] 1049 [(1048, .tup [.ref 1045, .ref 1047]), (1047, .list []), (1045, .list [.int 5]), (1041, .list [.int 5]), (1039, .list [.int 25]), (1038, .list [.int 24]), (972, .list [.int 4]), (862, .list [.int 5]), (861, .list [.int 4]), (854, .list [.int 2]), (725, .list [.int 5]), (724, .list [.int 3]), (720, .list [.int 3]), (610, .list [.int 5]), (609, .list [.int 2]), (602, .list [.int 1]), (532, .list [.int 5]), (531, .list [.int 1]), (15, .code), (1, .list [.int 0, .int 0, .int 3, .int 1, .int 1, .int 0, .int 4, .int 0, .int 4, .int 2]), (0, .tab 0 (some 15))] := by kernel_rfl
theorem e9x5e (K : KS) : l_law4 [.unb, .unb, .ref 1, .int 4, .int 9, .int 5, .int 4, .ref 1045, .ref 1047] 1049 [(1048, .tup [.ref 1045, .ref 1047]), (1047, .list []), (1045, .list [.int 5]), (1041, .list [.int 5]), (1039, .list [.int 25]), (1038, .list [.int 24]), (972, .list [.int 4]), (862, .list [.int 5]), (861, .list [.int 4]), (854, .list [.int 2]), (725, .list [.int 5]), (724, .list [.int 3]), (720, .list [.int 3]), (610, .list [.int 5]), (609, .list [.int 2]), (602, .list [.int 1]), (532, .list [.int 5]), (531, .list [.int 1]), (15, .code), (1, .list [.int 0, .int 0, .int 3, .int 1, .int 1, .int 0, .int 4, .int 0, .int 4, .int 2]), (0, .tab 0 (some 15))] K = K (.ret (.bool true)) [.unb, .unb, .ref 1, .int 4, .int 9, .int 5, .int 4, .ref 1045, .ref 1047] 1052 [(1051, .list [.int 0, .int 0, .int 3, .int 1, .int 1]), (1049, .list []), (1048, .tup [.ref 1045, .ref 1047]), (1047, .list []), (1045, .list [.int 5]), (1041, .list [.int 5]), (1039, .list [.int 25]), (1038, .list [.int 24]), (972, .list [.int 4]), (862, .list [.int 5]), (861, .list [.int 4]), (854, .list [.int 2]), (725, .list [.int 5]), (724, .list [.int 3]), (720, .list [.int 3]), (610, .list [.int 5]), (609, .list [.int 2]), (602, .list [.int 1]), (532, .list [.int 5]), (531, .list [.int 1]), (15, .code), (1, .list [.int 0, .int 0, .int 3, .int 1, .int 1, .int 0, .int 4, .int 0, .int 4, .int 2]), (0, .tab 0 (some 15))] := by kernel_rfl
theorem e9x5 : c_law (loc0 9 5) 1 [(0, .tab 0 none)] finK = true := law_chain e9x5a e9x5b e9x5c e9x5d e9x5e rfl
theorem e10x5a (K : KS) : l_law0 [.unb, .unb, .unb, .unb, .int 10, .int 5, .unb, .unb, .unb] 1 [(0, .tab 0 none)] K = K .nxt [.unb, .unb, .ref 1, .unb, .int 10, .int 5, .unb, .unb, .unb] 2 [(1, .list [.int 0]), (0, .tab 0 none)] := by kernel_rfl
theorem e10x5b_1 (K : KS) : l_turn1 [.unb, .unb, .ref 1, .int 1, .int 10, .int 5, .unb, .unb, .unb] 2 [(1, .list [.int 0]), (0, .tab 0 none)] K = K .nxt [.unb, .unb, .ref 1, .int 1, .int 10, .int 5, .unb, .unb, .unb] 56 [(15, .code), (1, .list [.int 0, .int 0]), (0, .tab 0 (some 15))] := by kernel_rfl
theorem e10x5b_2 (K : KS) : l_turn1 [.unb, .unb, .ref 1, .int 2, .int 10, .int 5, .unb, .unb, .unb] 56 [(15, .code), (1, .list [.int 0, .int 0]), (0, .tab 0 (some 15))] K = K .nxt [.unb, .unb, .ref 1, .int 2, .int 10, .int 5, .unb, .unb, .unb] 113 [(15, .code), (1, .list [.int 0, .int 0, .int 3]), (0, .tab 0 (some 15))] := by kernel_rfl
theorem e10x5b_3 (K : KS) : l_turn1 [.unb, .unb, .ref 1, .int 3, .int 10, .int 5, .unb, .unb, .unb] 113 [(15, .code), (1, .list [.int 0, .int 0, .int 3]), (0, .tab 0 (some 15))] K = K .nxt [.unb, .unb, .ref 1, .int 3, .int 10, .int 5, .unb, .unb, .unb] 178 [(15, .code), (1, .list [.int 0, .int 0, .int 3, .int 1]), (0, .tab 0 (some 15))] := by kernel_rfl
theorem e10x5b_4 (K : KS) : l_turn1 [.unb, .unb, .ref 1, .int 4, .int 10, .int 5, .unb, .unb, .unb] 178 [(15, .code), (1, .list [.int 0, .int 0, .int 3, .int 1]), (0, .tab 0 (some 15))] K = K .nxt [.unb, .unb, .ref 1, .int 4, .int 10, .int 5, .unb, .unb, .unb] 243 [(15, .code), (1, .list [.int 0, .int 0, .int 3, .int 1, .int 1]), (0, .tab 0 (some 15))] := by kernel_rfl
theorem e10x5b_5 (K : KS) : l_turn1 [.unb, .unb, .ref 1, .int 5, .int 10, .int 5, .unb, .unb, .unb] 243 [(15, .code), (1, .list [.int 0, .int 0, .int 3, .int 1, .int 1]), (0, .tab 0 (some 15))] K = K .nxt [.unb, .unb, .ref 1, .int 5, .int 10, .int 5, .unb, .unb, .unb] 243 [(15, .code), (1, .list [.int 0, .int 0, .int 3, .int 1, .int 1, .int 0]), (0, .tab 0 (some 15))] := by kernel_rfl
theorem e10x5b_6 (K : KS) : l_turn1 [.unb, .unb, .ref 1, .int 6, .int 10, .int 5, .unb, .unb, .unb] 243 [(15, .code), (1, .list [.int 0, .int 0, .int 3, .int 1, .int 1, .int 0]), (0, .tab 0 (some 15))] K = K .nxt [.unb, .unb, .ref 1, .int 6, .int 10, .int 5, .unb, .unb, .unb] 316 [(15, .code), (1, .list [.int 0, .int 0, .int 3, .int 1, .int 1, .int 0, .int 4]), (0, .tab 0 (some 15))] := by kernel_rfl
theorem e10x5b_7 (K : KS) : l_turn1 [.unb, .unb, .ref 1, .int 7, .int 10, .int 5, .unb, .unb, .unb] 316 [(15, .code), (1, .list [.int 0, .int 0, .int 3, .int 1, .int 1, .int 0, .int 4]), (0, .tab 0 (some 15))] K = K .nxt [.unb, .unb, .ref 1, .int 7, .int 10, .int 5, .unb, .unb, .unb] 385 [(15, .code), (1, .list [.int 0, .int 0, .int 3, .int 1, .int 1, .int 0, .int 4, .int 0]), (0, .tab 0 (some 15))] := by kernel_rfl
theorem e10x5b_8 (K : KS) : l_turn1 [.unb, .unb, .ref 1, .int 8, .int 10, .int 5, .unb, .unb, .unb] 385 [(15, .code), (1, .list [.int 0, .int 0, .int 3, .int 1, .int 1, .int 0, .int 4, .int 0]), (0, .tab 0 (some 15))] K = K .nxt [.unb, .unb, .ref 1, .int 8, .int 10, .int 5, .unb, .unb, .unb] 458 [(15, .code), (1, .list [.int 0, .int 0, .int 3, .int 1, .int 1, .int 0, .int 4, .int 0, .int 4]), (0, .tab 0 (some 15))] := by kernel_rfl
theorem e10x5b_9 (K : KS) : l_turn1 [.unb, .unb, .ref 1, .int 9, .int 10, .int 5, .unb, .unb, .unb] 458 [(15, .code), (1, .list [.int 0, .int 0, .int 3, .int 1, .int 1, .int 0, .int 4, .int 0, .int 4]), (0, .tab 0 (some 15))] K = K .nxt [.unb, .unb, .ref 1, .int 9, .int 10, .int 5, .unb, .unb, .unb] 531 [(15, .code), (1, .list [.int 0, .int 0, .int 3, .int 1, .int 1, .int 0, .int 4, .int 0, .int 4, .int 2]), (0, .tab 0 (some 15))] := by kernel_rfl
theorem e10x5b (K : KS) : l_law1 [.unb, .unb, .ref 1, .unb, .int 10, .int 5, .unb, .unb, .unb] 2 [(1, .list [.int 0]), (0, .tab 0 none)] K = K .nxt [.unb, .unb, .ref 1, .int 9, .int 10, .int 5, .unb, .unb, .unb] 531 [(15, .code), (1, .list [.int 0, .int 0, .int 3, .int 1, .int 1, .int 0, .int 4, .int 0, .int 4, .int 2]), (0, .tab 0 (some 15))] :=
  (for_start (hi := 10) (c := 9) (fun _ => by kernel_rfl) (by kernel_rfl) (by kernel_rfl)).trans ((loop_turn (f := 8) (fun _ => rfl) rfl e10x5b_1).trans ((loop_turn (f := 7) (fun _ => rfl) rfl e10x5b_2).trans ((loop_turn (f := 6) (fun _ => rfl) rfl e10x5b_3).trans ((loop_turn (f := 5) (fun _ => rfl) rfl e10x5b_4).trans ((loop_turn (f := 4) (fun _ => rfl) rfl e10x5b_5).trans ((loop_turn (f := 3) (fun _ => rfl) rfl e10x5b_6).trans ((loop_turn (f := 2) (fun _ => rfl) rfl e10x5b_7).trans ((loop_turn (f := 1) (fun _ => rfl) rfl e10x5b_8).trans ((loop_turn (f := 0) (fun _ => rfl) rfl e10x5b_9).trans rfl)))))))))
theorem e10x5c_1 (K : KS) : l_turn2 [.unb, .unb, .ref 1, .int 1, .int 10, .int 5, .unb, .unb, .unb] 531 [(15, .code), (1, .list [.int 0, .int 0, .int 3, .int 1, .int 1, .int 0, .int 4, .int 0, .int 4, .int 2]), (0, .tab 0 (some 15))] K = K .nxt [.unb, .unb, .ref 1, .int 1, .int 10, .int 5, .int 1, .unb, .unb] 609 [(602, .list [.int 1]), (532, .list [.int 5]), (531, .list [.int 1]), (15, .code), (1, .list [.int 0, .int 0, .int 3, .int 1, .int 1, .int 0, .int 4, .int 0, .int 4, .int 2]), (0, .tab 0 (some 15))] := by kernel_rfl
theorem e10x5c_2 (K : KS) : l_turn2 [.unb, .unb, .ref 1, .int 2, .int 10, .int 5, .int 1, .unb, .unb] 609 [(602, .list [.int 1]), (532, .list [.int 5]), (531, .list [.int 1]), (15, .code), (1, .list [.int 0, .int 0, .int 3, .int 1, .int 1, .int 0, .int 4, .int 0, .int 4, .int 2]), (0, .tab 0 (some 15))] K = K .nxt [.unb, .unb, .ref 1, .int 2, .int 10, .int 5, .int 3, .unb, .unb] 724 [(720, .list [.int 3]), (610, .list [.int 5]), (609, .list [.int 2]), (602, .list [.int 1]), (532, .list [.int 5]), (531, .list [.int 1]), (15, .code), (1, .list [.int 0, .int 0, .int 3, .int 1, .int 1, .int 0, .int 4, .int 0, .int 4, .int 2]), (0, .tab 0 (some 15))] := by kernel_rfl
theorem e10x5c_3 (K : KS) : l_turn2 [.unb, .unb, .ref 1, .int 3, .int 10, .int 5, .int 3, .unb, .unb] 724 [(720, .list [.int 3]), (610, .list [.int 5]), (609, .list [.int 2]), (602, .list [.int 1]), (532, .list [.int 5]), (531, .list [.int 1]), (15, .code), (1, .list [.int 0, .int 0, .int 3, .int 1, .int 1, .int 0, .int 4, .int 0, .int 4, .int 2]), (0, .tab 0 (some 15))] K = K .nxt [.unb, .unb, .ref 1, .int 3, .int 10, .int 5, .int 2, .unb, .unb] 861 [(854, .list [.int 2]), (725, .list [.int 5]), (724, .list [.int 3]), (720, .list [.int 3]), (610, .list [.int 5]), (609, .list [.int 2]), (602, .list [.int 1]), (532, .list [.int 5]), (531, .list [.int 1]), (15, .code), (1, .list [.int 0, .int 0, .int 3, .int 1, .int 1, .int 0, .int 4, .int 0, .int 4, .int 2]), (0, .tab 0 (some 15))] := by kernel_rfl
theorem e10x5c_4 (K : KS) : l_turn2 [.unb, .unb, .ref 1, .int 4, .int 10, .int 5, .int 2, .unb, .unb] 861 [(854, .list [.int 2]), (725, .list [.int 5]), (724, .list [.int 3]), (720, .list [.int 3]), (610, .list [.int 5]), (609, .list [.int 2]), (602, .list [.int 1]), (532, .list [.int 5]), (531, .list [.int 1]), (15, .code), (1, .list [.int 0, .int 0, .int 3, .int 1, .int 1, .int 0, .int 4, .int 0, .int 4, .int 2]), (0, .tab 0 (some 15))] K = K .nxt [.unb, .unb, .ref 1, .int 4, .int 10, .int 5, .int 4, .unb, .unb] 976 [(972, .list [.int 4]), (862, .list [.int 5]), (861, .list [.int 4]), (854, .list [.int 2]), (725, .list [.int 5]), (724, .list [.int 3]), (720, .list [.int 3]), (610, .list [.int 5]), (609, .list [.int 2]), (602, .list [.int 1]), (532, .list [.int 5]), (531, .list [.int 1]), (15, .code), (1, .list [.int 0, .int 0, .int 3, .int 1, .int 1, .int 0, .int 4, .int 0, .int 4, .int 2]), (0, .tab 0 (some 15))] := by kernel_rfl
theorem e10x5c (K : KS) : l_law2 [.unb, .unb, .ref 1, .int 9, .int 10, .int 5, .unb, .unb, .unb] 531 [(15, .code), (1, .list [.int 0, .int 0, .int 3, .int 1, .int 1, .int 0, .int 4, .int 0, .int 4, .int 2]), (0, .tab 0 (some 15))] K = K .nxt [.unb, .unb, .ref 1, .int 4, .int 10, .int 5, .int 4, .unb, .unb] 976 [(972, .list [.int 4]), (862, .list [.int 5]), (861, .list [.int 4]), (854, .list [.int 2]), (725, .list [.int 5]), (724, .list [.int 3]), (720, .list [.int 3]), (610, .list [.int 5]), (609, .list [.int 2]), (602, .list [.int 1]), (532, .list [.int 5]), (531, .list [.int 1]), (15, .code), (1, .list [.int 0, .int 0, .int 3, .int 1, .int 1, .int 0, .int 4, .int 0, .int 4, .int 2]), (0, .tab 0 (some 15))] :=
  (for_start (hi := 5) (c := 4) (fun _ => by kernel_rfl) (by kernel_rfl) (by kernel_rfl)).trans ((loop_turn (f := 3) (fun _ => rfl) rfl e10x5c_1).trans ((loop_turn (f := 2) (fun _ => rfl) rfl e10x5c_2).trans ((loop_turn (f := 1) (fun _ => rfl) rfl e10x5c_3).trans ((loop_turn (f := 0) (fun _ => rfl) rfl e10x5c_4).trans rfl))))
theorem e10x5d (K : KS) : l_law3 [.unb, .unb, .ref 1, .int 4, .int 10, .int 5, .int 4, .unb, .unb] 976 [(972, .list [.int 4]), (862, .list [.int 5]), (861, .list [.int 4]), (854, .list [.int 2]), (725, .list [.int 5]), (724, .list [.int 3]), (720, .list [.int 3]), (610, .list [.int 5]), (609, .list [.int 2]), (602, .list [.int 1]), (532, .list [.int 5]), (531, .list [.int 1]), (15, .code), (1, .list [.int 0, .int 0, .int 3, .int 1, .int 1, .int 0, .int 4, .int 0, .int 4, .int 2]), (0, .tab 0 (some 15))] K = K .nxt [.unb, .unb, .ref 1, .int 4, .int 10, .int 5, .int 4, .ref 1045, .ref 1047] 1049 [(1048, .tup [.ref 1045, .ref 1047]), (1047, .list []), (1045, .list [.int 5]), (1041, .list [.int 5]), (1039, .list [.int 25]), (1038, .list [.int 24]), (972, .list [.int 4]), (862, .list [.int 5]), (861, .list [.int 4]), (854, .list [.int 2]), (725, .list [.int 5]), (724, .list [.int 3]), (720, .list [.int 3]), (610, .list [.int 5]), (609, .list [.int 2]), (602, .list [.int 1]), (532, .list [.int 5]), (531, .list [.int 1]), (15, .code), (1, .list [.int 0, .int 0, .int 3, .int 1, .int 1, .int 0, .int 4, .int 0, .int 4, .int 2]), (0, .tab 0 (some 15))] := by kernel_rfl
theorem e10x5e (K : KS) : l_law4 [.unb, .unb, .ref 1, .int 4, .int 10, .int 5, .int 4, .ref 1045, .ref 1047] 1049 [(1048, .tup [.ref 1045, .ref 1047]), (1047, .list []), (1045, .list [.int 5]), (1041, .list [.int 5]), (1039, .list [.int 25]), (1038, .list [.int 24]), (972, .list [.int 4]), (862, .list [.int 5]), (861, .list [.int 4]), (854, .list [.int 2]), (725, .list [.int 5]), (724, .list [.int 3]), (720, .list [.int 3]), (610, .list [.int 5]), (609, .list [.int 2]), (602, .list [.int 1]), (532, .list [.int 5]), (531, .list [.int 1]), (15, .code), (1, .list [.int 0, .int 0, .int 3, .int 1, .int 1, .int 0, .int 4, .int 0, .int 4, .int 2]), (0, .tab 0 (some 15))] K = K (.ret (.bool true)) [.unb, .unb, .ref 1, .int 4, .int 10, .int 5, .int 4, .ref 1045, .ref 1047] 1052 [(1051, .list [.int 0, .int 0, .int 3, .int 1, .int 1]), (1049, .list []), (1048, .tup [.ref 1045, .ref 1047]), (1047, .list []), (1045, .list [.int 5]), (1041, .list [.int 5]), (1039, .list [.int 25]), (1038, .list [.int 24]), (972, .list [.int 4]), (862, .list [.int 5]), (861, .list [.int 4]), (854, .list [.int 2]), (725, .list [.int 5]), (724, .list [.int 3]), (720, .list [.int 3]), (610, .list [.int 5]), (609, .list [.int 2]), (602, .list [.int 1]), (532, .list [.int 5]), (531, .list [.int 1]), (15, .code), (1, .list [.int 0, .int 0, .int 3, .int 1, .int 1, .int 0, .int 4, .int 0, .int 4, .int 2]), (0, .tab 0 (some 15))] := by kernel_rfl
theorem e10x5 : c_law (loc0 10 5) 1 [(0, .tab 0 none)] finK = true := law_chain e10x5a e10x5b e10x5c e10x5d e10x5e rfl
theorem e11x5a (K : KS) : l_law0 [.unb, .unb, .unb, .unb, .int 11, .int 5, .unb, .unb, .unb] 1 [(0, .tab 0 none)] K = K .nxt [.unb, .unb, .ref 1, .unb, .int 11, .int 5, .unb, .unb, .unb] 2 [(1, .list [.int 0]), (0, .tab 0 none)] := by kernel_rfl
theorem e11x5b_1 (K : KS) : l_turn1 [.unb, .unb, .ref 1, .int 1, .int 11, .int 5, .unb, .unb, .unb] 2 [(1, .list [.int 0]), (0, .tab 0 none)] K = K .nxt [.unb, .unb, .ref 1, .int 1, .int 11, .int 5, .unb, .unb, .unb] 56 [(15, .code), (1, .list [.int 0, .int 0]), (0, .tab 0 (some 15))] := by kernel_rfl
theorem e11x5b_2 (K : KS) : l_turn1 [.unb, .unb, .ref 1, .int 2, .int 11, .int 5, .unb, .unb, .unb] 56 [(15, .code), (1, .list [.int 0, .int 0]), (0, .tab 0 (some 15))] K = K .nxt [.unb, .unb, .ref 1, .int 2, .int 11, .int 5, .unb, .unb, .unb] 113 [(15, .code), (1, .list [.int 0, .int 0, .int 3]), (0, .tab 0 (some 15))] := by kernel_rfl
theorem e11x5b_3 (K : KS) : l_turn1 [.unb, .unb, .ref 1, .int 3, .int 11, .int 5, .unb, .unb, .unb] 113 [(15, .code), (1, .list [.int 0, .int 0, .int 3]), (0, .tab 0 (some 15))] K = K .nxt [.unb, .unb, .ref 1, .int 3, .int 11, .int 5, .unb, .unb, .unb] 178 [(15, .code), (1, .list [.int 0, .int 0, .int 3, .int 1]), (0, .tab 0 (some 15))] := by kernel_rfl
theorem e11x5b_4 (K : KS) : l_turn1 [.unb, .unb, .ref 1, .int 4, .int 11, .int 5, .unb, .unb, .unb] 178 [(15, .code), (1, .list [.int 0, .int 0, .int 3, .int 1]), (0, .tab 0 (some 15))] K = K .nxt [.unb, .unb, .ref 1, .int 4, .int 11, .int 5, .unb, .unb, .unb] 243 [(15, .code), (1, .list [.int 0, .int 0, .int 3, .int 1, .int 1]), (0, .tab 0 (some 15))] := by kernel_rfl
theorem e11x5b_5 (K : KS) : l_turn1 [.unb, .unb, .ref 1, .int 5, .int 11, .int 5, .unb, .unb, .unb] 243 [(15, .code), (1, .list [.int 0, .int 0, .int 3, .int 1, .int 1]), (0, .tab 0 (some 15))] K = K .nxt [.unb, .unb, .ref 1, .int 5, .int 11, .int 5, .unb, .unb, .unb] 243 [(15, .code), (1, .list [.int 0, .int 0, .int 3, .int 1, .int 1, .int 0]), (0, .tab 0 (some 15))] := by kernel_rfl
theorem e11x5b_6 (K : KS) : l_turn1 [.unb, .unb, .ref 1, .int 6, .int 11, .int 5, .unb, .unb, .unb] 243 [(15, .code), (1, .list [.int 0, .int 0, .int 3, .int 1, .int 1, .int 0]), (0, .tab 0 (some 15))] K = K .nxt [.unb, .unb, .ref 1, .int 6, .int 11, .int 5, .unb, .unb, .unb] 316 [(15, .code), (1, .list [.int 0, .int 0, .int 3, .int 1, .int 1, .int 0, .int 4]), (0, .tab 0 (some 15))] := by kernel_rfl
theorem e11x5b_7 (K : KS) : l_turn1 [.unb, .unb, .ref 1, .int 7, .int 11, .int 5, .unb, .unb, .unb] 316 [(15, .code), (1, .list [.int 0, .int 0, .int 3, .int 1, .int 1, .int 0, .int 4]), (0, .tab 0 (some 15))] K = K .nxt [.unb, .unb, .ref 1, .int 7, .int 11, .int 5, .unb, .unb, .unb] 385 [(15, .code), (1, .list [.int 0, .int 0, .int 3, .int 1, .int 1, .int 0, .int 4, .int 0]), (0, .tab 0 (some 15))] := by kernel_rfl
theorem e11x5b_8 (K : KS) : l_turn1 [.unb, .unb, .ref 1, .int 8, .int 11, .int 5, .unb, .unb, .unb] 385 [(15, .code), (1, .list [.int 0, .int 0, .int 3, .int 1, .int 1, .int 0, .int 4, .int 0]), (0, .tab 0 (some 15))] K = K .nxt [.unb, .unb, .ref 1, .int 8, .int 11, .int 5, .unb, .unb, .unb] 458 [(15, .code), (1, .list [.int 0, .int 0, .int 3, .int 1, .int 1, .int 0, .int 4, .int 0, .int 4]), (0, .tab 0 (some 15))] := by kernel_rfl
theorem e11x5b_9 (K : KS) : l_turn1 [.unb, .unb, .ref 1, .int 9, .int 11, .int 5, .unb, .unb, .unb] 458 [(15, .code), (1, .list [.int 0, .int 0, .int 3, .int 1, .int 1, .int 0, .int 4, .int 0, .int 4]), (0, .tab 0 (some 15))] K = K .nxt [.unb, .unb, .ref 1, .int 9, .int 11, .int 5, .unb, .unb, .unb] 531 [(15, .code), (1, .list [.int 0, .int 0, .int 3, .int 1, .int 1, .int 0, .int 4, .int 0, .int 4, .int 2]), (0, .tab 0 (some 15))] := by kernel_rfl
theorem e11x5b (K : KS) : l_law1 [.unb, .unb, .ref 1, .unb, .int 11, .int 5, .unb, .unb, .unb] 2 [(1, .list [.int 0]), (0, .tab 0 none)] K = K .nxt [.unb, .unb, .ref 1, .int 9, .int 11, .int 5, .unb, .unb, .unb] 531 [(15, .code), (1, .list [.int 0, .int 0, .int 3, .int 1, .int 1, .int 0, .int 4, .int 0, .int 4, .int 2]), (0, .tab 0 (some 15))] :=
  (for_start (hi := 10) (c := 9) (fun _ => by kernel_rfl) (by kernel_rfl) (by kernel_rfl)).trans ((loop_turn (f := 8) (fun _ => rfl) rfl e11x5b_1).trans ((loop_turn (f := 7) (fun _ => rfl) rfl e11x5b_2).trans ((loop_turn (f := 6) (fun _ => rfl) rfl e11x5b_3).trans ((loop_turn (f := 5) (fun _ => rfl) rfl e11x5b_4).trans ((loop_turn (f := 4) (fun _ => rfl) rfl e11x5b_5).trans ((loop_turn (f := 3) (fun _ => rfl) rfl e11x5b_6).trans ((loop_turn (f := 2) (fun _ => rfl) rfl e11x5b_7).trans ((loop_turn (f := 1) (fun _ => rfl) rfl e11x5b_8).trans ((loop_turn (f := 0) (fun _ => rfl) rfl e11x5b_9).trans rfl)))))))))
theorem e11x5c_1 (K : KS) : l_turn2 [.unb, .unb, .ref 1, .int 1, .int 11, .int 5, .unb, .unb, .unb] 531 [(15, .code), (1, .list [.int 0, .int 0, .int 3, .int 1, .int 1, .int 0, .int 4, .int 0, .int 4, .int 2]), (0, .tab 0 (some 15))] K = K .nxt [.unb, .unb, .ref 1, .int 1, .int 11, .int 5, .int 1, .unb, .unb] 609 [(602, .list [.int 1]), (532, .list [.int 5]), (531, .list [.int 1]), (15, .code), (1, .list [.int 0, .int 0, .int 3, .int 1, .int 1, .int 0, .int 4, .int 0, .int 4, .int 2]), (0, .tab 0 (some 15))] := by kernel_rfl
theorem e11x5c_2 (K : KS) : l_turn2 [.unb, .unb, .ref 1, .int 2, .int 11, .int 5, .int 1, .unb, .unb] 609 [(602, .list [.int 1]), (532, .list [.int 5]), (531, .list [.int 1]), (15, .code), (1, .list [.int 0, .int 0, .int 3, .int 1, .int 1, .int 0, .int 4, .int 0, .int 4, .int 2]), (0, .tab 0 (some 15))] K = K .nxt [.unb, .unb, .ref 1, .int 2, .int 11, .int 5, .int 3, .unb, .unb] 724 [(720, .list [.int 3]), (610, .list [.int 5]), (609, .list [.int 2]), (602, .list [.int 1]), (532, .list [.int 5]), (531, .list [.int 1]), (15, .code), (1, .list [.int 0, .int 0, .int 3, .int 1, .int 1, .int 0, .int 4, .int 0, .int 4, .int 2]), (0, .tab 0 (some 15))] := by kernel_rfl
theorem e11x5c_3 (K : KS) : l_turn2 [.unb, .unb, .ref 1, .int 3, .int 11, .int 5, .int 3, .unb, .unb] 724 [(720, .list [.int 3]), (610, .list [.int 5]), (609, .list [.int 2]), (602, .list [.int 1]), (532, .list [.int 5]), (531, .list [.int 1]), (15, .code), (1, .list [.int 0, .int 0, .int 3, .int 1, .int 1, .int 0, .int 4, .int 0, .int 4, .int 2]), (0, .tab 0 (some 15))] K = K .nxt [.unb, .unb, .ref 1, .int 3, .int 11, .int 5, .int 2, .unb, .unb] 861 [(854, .list [.int 2]), (725, .list [.int 5]), (724, .list [.int 3]), (720, .list [.int 3]), (610, .list [.int 5]), (609, .list [.int 2]), (602, .list [.int 1]), (532, .list [.int 5]), (531, .list [.int 1]), (15, .code), (1, .list [.int 0, .int 0, .int 3, .int 1, .int 1, .int 0, .int 4, .int 0, .int 4, .int 2]), (0, .tab 0 (some 15))] := by kernel_rfl
theorem e11x5c_4 (K : KS) : l_turn2 [.unb, .unb, .ref 1, .int 4, .int 11, .int 5, .int 2, .unb, .unb] 861 [(854, .list [.int 2]), (725, .list [.int 5]), (724, .list [.int 3]), (720, .list [.int 3]), (610, .list [.int 5]), (609, .list [.int 2]), (602, .list [.int 1]), (532, .list [.int 5]), (531, .list [.int 1]), (15, .code), (1, .list [.int 0, .int 0, .int 3, .int 1, .int 1, .int 0, .int 4, .int 0, .int 4, .int 2]), (0, .tab 0 (some 15))] K = K .nxt [.unb, .unb, .ref 1, .int 4, .int 11, .int 5, .int 4, .unb, .unb] 976 [(972, .list [.int 4]), (862, .list [.int 5]), (861, .list [.int 4]), (854, .list [.int 2]), (725, .list [.int 5]), (724, .list [.int 3]), (720, .list [.int 3]), (610, .list [.int 5]), (609, .list [.int 2]), (602, .list [.int 1]), (532, .list [.int 5]), (531, .list [.int 1]), (15, .code), (1, .list [.int 0, .int 0, .int 3, .int 1, .int 1, .int 0, .int 4, .int 0, .int 4, .int 2]), (0, .tab 0 (some 15))] := by kernel_rfl
theorem e11x5c (K : KS) : l_law2 [.unb, .unb, .ref 1, .int 9, .int 11, .int 5, .unb, .unb, .unb] 531 [(15, .code), (1, .list [.int 0, .int 0, .int 3, .int 1, .int 1, .int 0, .int 4, .int 0, .int 4, .int 2]), (0, .tab 0 (some 15))] K = K .nxt [.unb, .unb, .ref 1, .int 4, .int 11, .int 5, .int 4, .unb, .unb] 976 [(972, .list [.int 4]), (862, .list [.int 5]), (861, .list [.int 4]), (854, .list [.int 2]), (725, .list [.int 5]), (724, .list [.int 3]), (720, .list [.int 3]), (610, .list [.int 5]), (609, .list [.int 2]), (602, .list [.int 1]), (532, .list [.int 5]), (531, .list [.int 1]), (15, .code), (1, .list [.int 0, .int 0, .int 3, .int 1, .int 1, .int 0, .int 4, .int 0, .int 4, .int 2]), (0, .tab 0 (some 15))] :=
  (for_start (hi := 5) (c := 4) (fun _ => by kernel_rfl) (by kernel_rfl) (by kernel_rfl)).trans ((loop_turn (f := 3) (fun _ => rfl) rfl e11x5c_1).trans ((loop_turn (f := 2) (fun _ => rfl) rfl e11x5c_2).trans ((loop_turn (f := 1) (fun _ => rfl) rfl e11x5c_3).trans ((loop_turn (f := 0) (fun _ => rfl) rfl e11x5c_4).trans rfl))))
theorem e11x5d (K : KS) : l_law3 [.unb, .unb, .ref 1, .int 4, .int 11, .int 5, .int 4, .unb, .unb] 976 [(972, .list [.int 4]), (862, .list [.int 5]), (861, .list [.int 4]), (854, .list [.int 2]), (725, .list [.int 5]), (724, .list [.int 3]), (720, .list [.int 3]), (610, .list [.int 5]), (609, .list [.int 2]), (602, .list [.int 1]), (532, .list [.int 5]), (531, .list [.int 1]), (15, .code), (1, .list [.int 0, .int 0, .int 3, .int 1, .int 1, .int 0, .int 4, .int 0, .int 4, .int 2]), (0, .tab 0 (some 15))] K = K .nxt [.unb, .unb, .ref 1, .int 4, .int 11, .int 5, .int 4, .ref 1045, .ref 1047] 1049 [(1048, .tup [.ref 1045, .ref 1047]), (1047, .list []), (1045, .list [.int 5]), (1041, .list [.int 5]), (1039, .list [.int 25]), (1038, .list [.int 24]), (972, .list [.int 4]), (862, .list [.int 5]), (861, .list [.int 4]), (854, .list [.int 2]), (725, .list [.int 5]), (724, .list [.int 3]), (720, .list [.int 3]), (610, .list [.int 5]), (609, .list [.int 2]), (602, .list [.int 1]), (532, .list [.int 5]), (531, .list [.int 1]), (15, .code), (1, .list [.int 0, .int 0, .int 3, .int 1, .int 1, .int 0, .int 4, .int 0, .int 4, .int 2]), (0, .tab 0 (some 15))] := by kernel_rfl
theorem e11x5e (K : KS) : l_law4 [.unb, .unb, .ref 1, .int 4, .int 11, .int 5, .int 4, .ref 1045, .ref 1047] 1049 [(1048, .tup [.ref 1045, .ref 1047]), (1047, .list []), (1045, .list [.int 5]), (1041, .list [.int 5]), (1039, .list [.int 25]), (1038, .list [.int 24]), (972, .list [.int 4]), (862, .list [.int 5]), (861, .list [.int 4]), (854, .list [.int 2]), (725, .list [.int 5]), (724, .list [.int 3]), (720, .list [.int 3]), (610, .list [.int 5]), (609, .list [.int 2]), (602, .list [.int 1]), (532, .list [.int 5]), (531, .list [.int 1]), (15, .code), (1, .list [.int 0, .int 0, .int 3, .int 1, .int 1, .int 0, .int 4, .int 0, .int 4, .int 2]), (0, .tab 0 (some 15))] K = K (.ret (.bool true)) [.unb, .unb, .ref 1, .int 4, .int 11, .int 5, .int 4, .ref 1045, .ref 1047] 1052 [(1051, .list [.int 0, .int 0, .int 3, .int 1, .int 1]), (1049, .list []), (1048, .tup [.ref 1045, .ref 1047]), (1047, .list []), (1045, .list [.int 5]), (1041, .list [.int 5]), (1039, .list [.int 25]), (1038, .list [.int 24]), (972, .list [.int 4]), (862, .list [.int 5]), (861, .list [.int 4]), (854, .list [.int 2]), (725, .list [.int 5]), (724, .list [.int 3]), (720, .list [.int 3]), (610, .list [.int 5]), (609, .list [.int 2]), (602, .list [.int 1]), (532, .list [.int 5]), (531, .list [.int 1]), (15, .code), (1, .list [.int 0, .int 0, .int 3, .int 1, .int 1, .int 0, .int 4, .int 0, .int 4, .int 2]), (0, .tab 0 (some 15))] := by kernel_rfl
theorem e11x5 : c_law (loc0 11 5) 1 [(0, .tab 0 none)] finK = true := law_chain e11x5a e11x5b e11x5c e11x5d e11x5e rfl
theorem e12x5a (K : KS) : l_law0 [.unb, .unb, .unb, .unb, .int 12, .int 5, .unb, .unb, .unb] 1 [(0, .tab 0 none)] K = K .nxt [.unb, .unb, .ref 1, .unb, .int 12, .int 5, .unb, .unb, .unb] 2 [(1, .list [.int 0]), (0, .tab 0 none)] := by kernel_rfl
theorem e12x5b_1 (K : KS) : l_turn1 [.unb, .unb, .ref 1, .int 1, .int 12, .int 5, .unb, .unb, .unb] 2 [(1, .list [.int 0]), (0, .tab 0 none)] K = K .nxt [.unb, .unb, .ref 1, .int 1, .int 12, .int 5, .unb, .unb, .unb] 56 [(15, .code), (1, .list [.int 0, .int 0]), (0, .tab 0 (some 15))] := by kernel_rfl
theorem e12x5b_2 (K : KS) : l_turn1 [.unb, .unb, .ref 1, .int 2, .int 12, .int 5, .unb, .unb, .unb] 56 [(15, .code), (1, .list [.int 0, .int 0]), (0, .tab 0 (some 15))] K = K .nxt [.unb, .unb, .ref 1, .int 2, .int 12, .int 5, .unb, .unb, .unb] 113 [(15, .code), (1, .list [.int 0, .int 0, .int 3]), (0, .tab 0 (some 15))] := by kernel_rfl
theorem e12x5b_3 (K : KS) : l_turn1 [.unb, .unb, .ref 1, .int 3, .int 12, .int 5, .unb, .unb, .unb] 113 [(15, .code), (1, .list [.int 0, .int 0, .int 3]), (0, .tab 0 (some 15))] K = K .nxt [.unb, .unb, .ref 1, .int 3, .int 12, .int 5, .unb, .unb, .unb] 178 [(15, .code), (1, .list [.int 0, .int 0, .int 3, .int 1]), (0, .tab 0 (some 15))] := by kernel_rfl
theorem e12x5b_4 (K : KS) : l_turn1 [.unb, .unb, .ref 1, .int 4, .int 12, .int 5, .unb, .unb, .unb] 178 [(15, .code), (1, .list [.int 0, .int 0, .int 3, .int 1]), (0, .tab 0 (some 15))] K = K .nxt [.unb, .unb, .ref 1, .int 4, .int 12, .int 5, .unb, .unb, .unb] 243 [(15, .code), (1, .list [.int 0, .int 0, .int 3, .int 1, .int 1]), (0, .tab 0 (some 15))] := by kernel_rfl
theorem e12x5b_5 (K : KS) : l_turn1 [.unb, .unb, .ref 1, .int 5, .int 12, .int 5, .unb, .unb, .unb] 243 [(15, .code), (1, .list [.int 0, .int 0, .int 3, .int 1, .int 1]), (0, .tab 0 (some 15))] K = K .nxt [.unb, .unb, .ref 1, .int 5, .int 12, .int 5, .unb, .unb, .unb] 243 [(15, .code), (1, .list [.int 0, .int 0, .int 3, .int 1, .int 1, .int 0]), (0, .tab 0 (some 15))] := by kernel_rfl
theorem e12x5b_6 (K : KS) : l_turn1 [.unb, .unb, .ref 1, .int 6, .int 12, .int 5, .unb, .unb, .unb] 243 [(15, .code), (1, .list [.int 0, .int 0, .int 3, .int 1, .int 1, .int 0]), (0, .tab 0 (some 15))] K = K .nxt [.unb, .unb, .ref 1, .int 6, .int 12, .int 5, .unb, .unb, .unb] 316 [(15, .code), (1, .list [.int 0, .int 0, .int 3, .int 1, .int 1, .int 0, .int 4]), (0, .tab 0 (some 15))] := by kernel_rfl
theorem e12x5b_7 (K : KS) : l_turn1 [.unb, .unb, .ref 1, .int 7, .int 12, .int 5, .unb, .unb, .unb] 316 [(15, .code), (1, .list [.int 0, .int 0, .int 3, .int 1, .int 1, .int 0, .int 4]), (0, .tab 0 (some 15))] K = K .nxt [.unb, .unb, .ref 1, .int 7, .int 12, .int 5, .unb, .unb, .unb] 385 [(15, .code), (1, .list [.int 0, .int 0, .int 3, .int 1, .int 1, .int 0, .int 4, .int 0]), (0, .tab 0 (some 15))] := by kernel_rfl
theorem e12x5b_8 (K : KS) : l_turn1 [.unb, .unb, .ref 1, .int 8, .int 12, .int 5, .unb, .unb, .unb] 385 [(15, .code), (1, .list [.int 0, .int 0, .int 3, .int 1, .int 1, .int 0, .int 4, .int 0]), (0, .tab 0 (some 15))] K = K .nxt [.unb, .unb, .ref 1, .int 8, .int 12, .int 5, .unb, .unb, .unb] 458 [(15, .code), (1, .list [.int 0, .int 0, .int 3, .int 1, .int 1, .int 0, .int 4, .int 0, .int 4]), (0, .tab 0 (some 15))] := by kernel_rfl
theorem e12x5b_9 (K : KS) : l_turn1 [.unb, .unb, .ref 1, .int 9, .int 12, .int 5, .unb, .unb, .unb] 458 [(15, .code), (1, .list [.int 0, .int 0, .int 3, .int 1, .int 1, .int 0, .int 4, .int 0, .int 4]), (0, .tab 0 (some 15))] K = K .nxt [.unb, .unb, .ref 1, .int 9, .int 12, .int 5, .unb, .unb, .unb] 531 [(15, .code), (1, .list [.int 0, .int 0, .int 3, .int 1, .int 1, .int 0, .int 4, .int 0, .int 4, .int 2]), (0, .tab 0 (some 15))] := by kernel_rfl
theorem e12x5b (K : KS) : l_law1 [.unb, .unb, .ref 1, .unb, .int 12, .int 5, .unb, .unb, .unb] 2 [(1, .list [.int 0]), (0, .tab 0 none)] K = K .nxt [.unb, .unb, .ref 1, .int 9, .int 12, .int 5, .unb, .unb, .unb] 531 [(15, .code), (1, .list [.int 0, .int 0, .int 3, .int 1, .int 1, .int 0, .int 4, .int 0, .int 4, .int 2]), (0, .tab 0 (some 15))] :=
  (for_start (hi := 10) (c := 9) (fun _ => by kernel_rfl) (by kernel_rfl) (by kernel_rfl)).trans ((loop_turn (f := 8) (fun _ => rfl) rfl e12x5b_1).trans ((loop_turn (f := 7) (fun _ => rfl) rfl e12x5b_2).trans ((loop_turn (f := 6) (fun _ => rfl) rfl e12x5b_3).trans ((loop_turn (f := 5) (fun _ => rfl) rfl e12x5b_4).trans ((loop_turn (f := 4) (fun _ => rfl) rfl e12x5b_5).trans ((loop_turn (f := 3) (fun _ => rfl) rfl e12x5b_6).trans ((loop_turn (f := 2) (fun _ => rfl) rfl e12x5b_7).trans ((loop_turn (f := 1) (fun _ => rfl) rfl e12x5b_8).trans ((loop_turn (f := 0) (fun _ => rfl) rfl e12x5b_9).trans rfl)))))))))
theorem e12x5c_1 (K : KS) : l_turn2 [.unb, .unb, .ref 1, .int 1, .int 12, .int 5, .unb, .unb, .unb] 531 [(15, .code), (1, .list [.int 0, .int 0, .int 3, .int 1, .int 1, .int 0, .int 4, .int 0, .int 4, .int 2]), (0, .tab 0 (some 15))] K = K .nxt [.unb, .unb, .ref 1, .int 1, .int 12, .int 5, .int 1, .unb, .unb] 609 [(602, .list [.int 1]), (532, .list [.int 5]), (531, .list [.int 1]), (15, .code), (1, .list [.int 0, .int 0, .int 3, .int 1, .int 1, .int 0, .int 4, .int 0, .int 4, .int 2]), (0, .tab 0 (some 15))] := by kernel_rfl
theorem e12x5c_2 (K : KS) : l_turn2 [.unb, .unb, .ref 1, .int 2, .int 12, .int 5, .int 1, .unb, .unb] 609 [(602, .list [.int 1]), (532, .list [.int 5]), (531, .list [.int 1]), (15, .code), (1, .list [.int 0, .int 0, .int 3, .int 1, .int 1, .int 0, .int 4, .int 0, .int 4, .int 2]), (0, .tab 0 (some 15))] K = K .nxt [.unb, .unb, .ref 1, .int 2, .int 12, .int 5, .int 3, .unb, .unb] 724 [(720, .list [.int 3]), (610, .list [.int 5]), (609, .list [.int 2]), (602, .list [.int 1]), (532, .list [.int 5]), (531, .list [.int 1]), (15, .code), (1, .list [.int 0, .int 0, .int 3, .int 1, .int 1, .int 0, .int 4, .int 0, .int 4, .int 2]), (0, .tab 0 (some 15))] := by kernel_rfl
theorem e12x5c_3 (K : KS) : l_turn2 [.unb, .unb, .ref 1, .int 3, .int 12, .int 5, .int 3, .unb, .unb] 724 [(720, .list [.int 3]), (610, .list [.int 5]), (609, .list [.int 2]), (602, .list [.int 1]), (532, .list [.int 5]), (531, .list [.int 1]), (15, .code), (1, .list [.int 0, .int 0, .int 3, .int 1, .int 1, .int 0, .int 4, .int 0, .int 4, .int 2]), (0, .tab 0 (some 15))] K = K .nxt [.unb, .unb, .ref 1, .int 3, .int 12, .int 5, .int 2, .unb, .unb] 861 [(854, .list [.int 2]), (725, .list [.int 5]), (724, .list [.int 3]), (720, .list [.int 3]), (610, .list [.int 5]), (609, .list [.int 2]), (602, .list [.int 1]), (532, .list [.int 5]), (531, .list [.int 1]), (15, .code), (1, .list [.int 0, .int 0, .int 3, .int 1, .int 1, .int 0, .int 4, .int 0, .int 4, .int 2]), (0, .tab 0 (some 15))] := by kernel_rfl
theorem e12x5c_4 (K : KS) : l_turn2 [.unb, .unb, .ref 1, .int 4, .int 12, .int 5, .int 2, .unb, .unb] 861 [(854, .list [.int 2]), (725, .list [.int 5]), (724, .list [.int 3]), (720, .list [.int 3]), (610, .list [.int 5]), (609, .list [.int 2]), (602, .list [.int 1]), (532, .list [.int 5]), (531, .list [.int 1]), (15, .code), (1, .list [.int 0, .int 0, .int 3, .int 1, .int 1, .int 0, .int 4, .int 0, .int 4, .int 2]), (0, .tab 0 (some 15))] K = K .nxt [.unb, .unb, .ref 1, .int 4, .int 12, .int 5, .int 4, .unb, .unb] 976 [(972, .list [.int 4]), (862, .list [.int 5]), (861, .list [.int 4]), (854, .list [.int 2]), (725, .list [.int 5]), (724, .list [.int 3]), (720, .list [.int 3]), (610, .list [.int 5]), (609, .list [.int 2]), (602, .list [.int 1]), (532, .list [.int 5]), (531, .list [.int 1]), (15, .code), (1, .list [.int 0, .int 0, .int 3, .int 1, .int 1, .int 0, .int 4, .int 0, .int 4, .int 2]), (0, .tab 0 (some 15))] := by kernel_rfl
theorem e12x5c (K : KS) : l_law2 [.unb, .unb, .ref 1, .int 9, .int 12, .int 5, .unb, .unb, .unb] 531 [(15, .code), (1, .list [.int 0, .int 0, .int 3, .int 1, .int 1, .int 0, .int 4, .int 0, .int 4, .int 2]), (0, .tab 0 (some 15))] K = K .nxt [.unb, .unb, .ref 1, .int 4, .int 12, .int 5, .int 4, .unb, .unb] 976 [(972, .list [.int 4]), (862, .list [.int 5]), (861, .list [.int 4]), (854, .list [.int 2]), (725, .list [.int 5]), (724, .list [.int 3]), (720, .list [.int 3]), (610, .list [.int 5]), (609, .list [.int 2]), (602, .list [.int 1]), (532, .list [.int 5]), (531, .list [.int 1]), (15, .code), (1, .list [.int 0, .int 0, .int 3, .int 1, .int 1, .int 0, .int 4, .int 0, .int 4, .int 2]), (0, .tab 0 (some 15))] :=
  (for_start (hi := 5) (c := 4) (fun _ => by kernel_rfl) (by kernel_rfl) (by kernel_rfl)).trans ((loop_turn (f := 3) (fun _ => rfl) rfl e12x5c_1).trans ((loop_turn (f := 2) (fun _ => rfl) rfl e12x5c_2).trans ((loop_turn (f := 1) (fun _ => rfl) rfl e12x5c_3).trans ((loop_turn (f := 0) (fun _ => rfl) rfl e12x5c_4).trans rfl))))
theorem e12x5d (K : KS) : l_law3 [.unb, .unb, .ref 1, .int 4, .int 12, .int 5, .int 4, .unb, .unb] 976 [(972, .list [.int 4]), (862, .list [.int 5]), (861, .list [.int 4]), (854, .list [.int 2]), (725, .list [.int 5]), (724, .list [.int 3]), (720, .list [.int 3]), (610, .list [.int 5]), (609, .list [.int 2]), (602, .list [.int 1]), (532, .list [.int 5]), (531, .list [.int 1]), (15, .code), (1, .list [.int 0, .int 0, .int 3, .int 1, .int 1, .int 0, .int 4, .int 0, .int 4, .int 2]), (0, .tab 0 (some 15))] K = K .nxt [.unb, .unb, .ref 1, .int 4, .int 12, .int 5, .int 4, .ref 1045, .ref 1047] 1049 [(1048, .tup [.ref 1045, .ref 1047]), (1047, .list []), (1045, .list [.int 5]), (1041, .list [.int 5]), (1039, .list [.int 25]), (1038, .list [.int 24]), (972, .list [.int 4]), (862, .list [.int 5]), (861, .list [.int 4]), (854, .list [.int 2]), (725, .list [.int 5]), (724, .list [.int 3]), (720, .list [.int 3]), (610, .list [.int 5]), (609, .list [.int 2]), (602, .list [.int 1]), (532, .list [.int 5]), (531, .list [.int 1]), (15, .code), (1, .list [.int 0, .int 0, .int 3, .int 1, .int 1, .int 0, .int 4, .int 0, .int 4, .int 2]), (0, .tab 0 (some 15))] := by kernel_rfl
theorem e12x5e (K : KS) : l_law4 [.unb, .unb, .ref 1, .int 4, .int 12, .int 5, .int 4, .ref 1045, .ref 1047] 1049 [(1048, .tup [.ref 1045, .ref 1047]), (1047, .list []), (1045, .list [.int 5]), (1041, .list [.int 5]), (1039, .list [.int 25]), (1038, .list [.int 24]), (972, .list [.int 4]), (862, .list [.int 5]), (861, .list [.int 4]), (854, .list [.int 2]), (725, .list [.int 5]), (724, .list [.int 3]), (720, .list [.int 3]), (610, .list [.int 5]), (609, .list [.int 2]), (602, .list [.int 1]), (532, .list [.int 5]), (531, .list [.int 1]), (15, .code), (1, .list [.int 0, .int 0, .int 3, .int 1, .int 1, .int 0, .int 4, .int 0, .int 4, .int 2]), (0, .tab 0 (some 15))] K = K (.ret (.bool true)) [.unb, .unb, .ref 1, .int 4, .int 12, .int 5, .int 4, .ref 1045, .ref 1047] 1052 [(1051, .list [.int 0, .int 0, .int 3, .int 1, .int 1]), (1049, .list []), (1048, .tup [.ref 1045, .ref 1047]), (1047, .list []), (1045, .list [.int 5]), (1041, .list [.int 5]), (1039, .list [.int 25]), (1038, .list [.int 24]), (972, .list [.int 4]), (862, .list [.int 5]), (861, .list [.int 4]), (854, .list [.int 2]), (725, .list [.int 5]), (724, .list [.int 3]), (720, .list [.int 3]), (610, .list [.int 5]), (609, .list [.int 2]), (602, .list [.int 1]), (532, .list [.int 5]), (531, .list [.int 1]), (15, .code), (1, .list [.int 0, .int 0, .int 3, .int 1, .int 1, .int 0, .int 4, .int 0, .int 4, .int 2]), (0, .tab 0 (some 15))] := by kernel_rfl
theorem e12x5 : c_law (loc0 12 5) 1 [(0, .tab 0 none)] finK = true := law_chain e12x5a e12x5b e12x5c e12x5d e12x5e rfl
end Mine
end
-- part M23_7
section
namespace Mine
open PySem PySem.W PySem.Spec PySem.Calls PyProof.Rows
theorem e8x7a (K : KS) : l_law0 [.unb, .unb, .unb, .unb, .int 8, .int 7, .unb, .unb, .unb] 1 [(0, .tab 0 none)] K = K .nxt [.unb, .unb, .ref 1, .unb, .int 8, .int 7, .unb, .unb, .unb] 2 [(1, .list [.int 0]), (0, .tab 0 none)] := by kernel_rfl
theorem e8x7b_1 (K : KS) : l_turn1 [.unb, .unb, .ref 1, .int 1, .int 8, .int 7, .unb, .unb, .unb] 2 [(1, .list [.int 0]), (0, .tab 0 none)] K = K .nxt [.unb, .unb, .ref 1, .int 1, .int 8, .int 7, .unb, .unb, .unb] 49 [(15, .code), (1, .list [.int 0, .int 0]), (0, .tab 0 (some 15))] := by kernel_rfl
theorem e8x7b_2 (K : KS) : l_turn1 [.unb, .unb, .ref 1, .int 2, .int 8, .int 7, .unb, .unb, .unb] 49 [(15, .code), (1, .list [.int 0, .int 0]), (0, .tab 0 (some 15))] K = K .nxt [.unb, .unb, .ref 1, .int 2, .int 8, .int 7, .unb, .unb, .unb] 103 [(15, .code), (1, .list [.int 0, .int 0, .int 2]), (0, .tab 0 (some 15))] := by kernel_rfl
theorem e8x7b_3 (K : KS) : l_turn1 [.unb, .unb, .ref 1, .int 3, .int 8, .int 7, .unb, .unb, .unb] 103 [(15, .code), (1, .list [.int 0, .int 0, .int 2]), (0, .tab 0 (some 15))] K = K .nxt [.unb, .unb, .ref 1, .int 3, .int 8, .int 7, .unb, .unb, .unb] 157 [(15, .code), (1, .list [.int 0, .int 0, .int 2, .int 6]), (0, .tab 0 (some 15))] := by kernel_rfl
theorem e8x7b_4 (K : KS) : l_turn1 [.unb, .unb, .ref 1, .int 4, .int 8, .int 7, .unb, .unb, .unb] 157 [(15, .code), (1, .list [.int 0, .int 0, .int 2, .int 6]), (0, .tab 0 (some 15))] K = K .nxt [.unb, .unb, .ref 1, .int 4, .int 8, .int 7, .unb, .unb, .unb] 215 [(15, .code), (1, .list [.int 0, .int 0, .int 2, .int 6, .int 4]), (0, .tab 0 (some 15))] := by kernel_rfl
theorem e8x7b_5 (K : KS) : l_turn1 [.unb, .unb, .ref 1, .int 5, .int 8, .int 7, .unb, .unb, .unb] 215 [(15, .code), (1, .list [.int 0, .int 0, .int 2, .int 6, .int 4]), (0, .tab 0 (some 15))] K = K .nxt [.unb, .unb, .ref 1, .int 5, .int 8, .int 7, .unb, .unb, .unb] 273 [(15, .code), (1, .list [.int 0, .int 0, .int 2, .int 6, .int 4, .int 6]), (0, .tab 0 (some 15))] := by kernel_rfl
theorem e8x7b_6 (K : KS) : l_turn1 [.unb, .unb, .ref 1, .int 6, .int 8, .int 7, .unb, .unb, .unb] 273 [(15, .code), (1, .list [.int 0, .int 0, .int 2, .int 6, .int 4, .int 6]), (0, .tab 0 (some 15))] K = K .nxt [.unb, .unb, .ref 1, .int 6, .int 8, .int 7, .unb, .unb, .unb] 331 [(15, .code), (1, .list [.int 0, .int 0, .int 2, .int 6, .int 4, .int 6, .int 1]), (0, .tab 0 (some 15))] := by kernel_rfl
theorem e8x7b_7 (K : KS) : l_turn1 [.unb, .unb, .ref 1, .int 7, .int 8, .int 7, .unb, .unb, .unb] 331 [(15, .code), (1, .list [.int 0, .int 0, .int 2, .int 6, .int 4, .int 6, .int 1]), (0, .tab 0 (some 15))] K = K .nxt [.unb, .unb, .ref 1, .int 7, .int 8, .int 7, .unb, .unb, .unb] 331 [(15, .code), (1, .list [.int 0, .int 0, .int 2, .int 6, .int 4, .int 6, .int 1, .int 0]), (0, .tab 0 (some 15))] := by kernel_rfl
theorem e8x7b_8 (K : KS) : l_turn1 [.unb, .unb, .ref 1, .int 8, .int 8, .int 7, .unb, .unb, .unb] 331 [(15, .code), (1, .list [.int 0, .int 0, .int 2, .int 6, .int 4, .int 6, .int 1, .int 0]), (0, .tab 0 (some 15))] K = K .nxt [.unb, .unb, .ref 1, .int 8, .int 8, .int 7, .unb, .unb, .unb] 393 [(15, .code), (1, .list [.int 0, .int 0, .int 2, .int 6, .int 4, .int 6, .int 1, .int 0, .int 6]), (0, .tab 0 (some 15))] := by kernel_rfl
theorem e8x7b_9 (K : KS) : l_turn1 [.unb, .unb, .ref 1, .int 9, .int 8, .int 7, .unb, .unb, .unb] 393 [(15, .code), (1, .list [.int 0, .int 0, .int 2, .int 6, .int 4, .int 6, .int 1, .int 0, .int 6]), (0, .tab 0 (some 15))] K = K .nxt [.unb, .unb, .ref 1, .int 9, .int 8, .int 7, .unb, .unb, .unb] 455 [(15, .code), (1, .list [.int 0, .int 0, .int 2, .int 6, .int 4, .int 6, .int 1, .int 0, .int 6, .int 5]), (0, .tab 0 (some 15))] := by kernel_rfl
theorem e8x7b_10 (K : KS) : l_turn1 [.unb, .unb, .ref 1, .int 10, .int 8, .int 7, .unb, .unb, .unb] 455 [(15, .code), (1, .list [.int 0, .int 0, .int 2, .int 6, .int 4, .int 6, .int 1, .int 0, .int 6, .int 5]), (0, .tab 0 (some 15))] K = K .nxt [.unb, .unb, .ref 1, .int 10, .int 8, .int 7, .unb, .unb, .unb] 513 [(15, .code), (1, .list [.int 0, .int 0, .int 2, .int 6, .int 4, .int 6, .int 1, .int 0, .int 6, .int 5, .int 1]), (0, .tab 0 (some 15))] := by kernel_rfl
theorem e8x7b_11 (K : KS) : l_turn1 [.unb, .unb, .ref 1, .int 11, .int 8, .int 7, .unb, .unb, .unb] 513 [(15, .code), (1, .list [.int 0, .int 0, .int 2, .int 6, .int 4, .int 6, .int 1, .int 0, .int 6, .int 5, .int 1]), (0, .tab 0 (some 15))] K = K .nxt [.unb, .unb, .ref 1, .int 11, .int 8, .int 7, .unb, .unb, .unb] 575 [(15, .code), (1, .list [.int 0, .int 0, .int 2, .int 6, .int 4, .int 6, .int 1, .int 0, .int 6, .int 5, .int 1, .int 2]), (0, .tab 0 (some 15))] := by kernel_rfl
theorem e8x7b_12 (K : KS) : l_turn1 [.unb, .unb, .ref 1, .int 12, .int 8, .int 7, .unb, .unb, .unb] 575 [(15, .code), (1, .list [.int 0, .int 0, .int 2, .int 6, .int 4, .int 6, .int 1, .int 0, .int 6, .int 5, .int 1, .int 2]), (0, .tab 0 (some 15))] K = K .nxt [.unb, .unb, .ref 1, .int 12, .int 8, .int 7, .unb, .unb, .unb] 637 [(15, .code), (1, .list [.int 0, .int 0, .int 2, .int 6, .int 4, .int 6, .int 1, .int 0, .int 6, .int 5, .int 1, .int 2, .int 3]), (0, .tab 0 (some 15))] := by kernel_rfl
theorem e8x7b_13 (K : KS) : l_turn1 [.unb, .unb, .ref 1, .int 13, .int 8, .int 7, .unb, .unb, .unb] 637 [(15, .code), (1, .list [.int 0, .int 0, .int 2, .int 6, .int 4, .int 6, .int 1, .int 0, .int 6, .int 5, .int 1, .int 2, .int 3]), (0, .tab 0 (some 15))] K = K .nxt [.unb, .unb, .ref 1, .int 13, .int 8, .int 7, .unb, .unb, .unb] 699 [(15, .code), (1, .list [.int 0, .int 0, .int 2, .int 6, .int 4, .int 6, .int 1, .int 0, .int 6, .int 5, .int 1, .int 2, .int 3, .int 2]), (0, .tab 0 (some 15))] := by kernel_rfl
theorem e8x7b (K : KS) : l_law1 [.unb, .unb, .ref 1, .unb, .int 8, .int 7, .unb, .unb, .unb] 2 [(1, .list [.int 0]), (0, .tab 0 none)] K = K .nxt [.unb, .unb, .ref 1, .int 13, .int 8, .int 7, .unb, .unb, .unb] 699 [(15, .code), (1, .list [.int 0, .int 0, .int 2, .int 6, .int 4, .int 6, .int 1, .int 0, .int 6, .int 5, .int 1, .int 2, .int 3, .int 2]), (0, .tab 0 (some 15))] :=
  (for_start (hi := 14) (c := 13) (fun _ => by kernel_rfl) (by kernel_rfl) (by kernel_rfl)).trans ((loop_turn (f := 12) (fun _ => rfl) rfl e8x7b_1).trans ((loop_turn (f := 11) (fun _ => rfl) rfl e8x7b_2).trans ((loop_turn (f := 10) (fun _ => rfl) rfl e8x7b_3).trans ((loop_turn (f := 9) (fun _ => rfl) rfl e8x7b_4).trans ((loop_turn (f := 8) (fun _ => rfl) rfl e8x7b_5).trans ((loop_turn (f := 7) (fun _ => rfl) rfl e8x7b_6).trans ((loop_turn (f := 6) (fun _ => rfl) rfl e8x7b_7).trans ((loop_turn (f := 5) (fun _ => rfl) rfl e8x7b_8).trans ((loop_turn (f := 4) (fun _ => rfl) rfl e8x7b_9).trans ((loop_turn (f := 3) (fun _ => rfl) rfl e8x7b_10).trans ((loop_turn (f := 2) (fun _ => rfl) rfl e8x7b_11).trans ((loop_turn (f := 1) (fun _ => rfl) rfl e8x7b_12).trans ((loop_turn (f := 0) (fun _ => rfl) rfl e8x7b_13).trans rfl)))))))))))))
theorem e8x7c_1 (K : KS) : l_turn2 [.unb, .unb, .ref 1, .int 1, .int 8, .int 7, .unb, .unb, .unb] 699 [(15, .code), (1, .list [.int 0, .int 0, .int 2, .int 6, .int 4, .int 6, .int 1, .int 0, .int 6, .int 5, .int 1, .int 2, .int 3, .int 2]), (0, .tab 0 (some 15))] K = K .nxt [.unb, .unb, .ref 1, .int 1, .int 8, .int 7, .int 1, .unb, .unb] 777 [(770, .list [.int 1]), (700, .list [.int 7]), (699, .list [.int 1]), (15, .code), (1, .list [.int 0, .int 0, .int 2, .int 6, .int 4, .int 6, .int 1, .int 0, .int 6, .int 5, .int 1, .int 2, .int 3, .int 2]), (0, .tab 0 (some 15))] := by kernel_rfl
theorem e8x7c_2 (K : KS) : l_turn2 [.unb, .unb, .ref 1, .int 2, .int 8, .int 7, .int 1, .unb, .unb] 777 [(770, .list [.int 1]), (700, .list [.int 7]), (699, .list [.int 1]), (15, .code), (1, .list [.int 0, .int 0, .int 2, .int 6, .int 4, .int 6, .int 1, .int 0, .int 6, .int 5, .int 1, .int 2, .int 3, .int 2]), (0, .tab 0 (some 15))] K = K .nxt [.unb, .unb, .ref 1, .int 2, .int 8, .int 7, .int 4, .unb, .unb] 892 [(888, .list [.int 4]), (778, .list [.int 7]), (777, .list [.int 2]), (770, .list [.int 1]), (700, .list [.int 7]), (699, .list [.int 1]), (15, .code), (1, .list [.int 0, .int 0, .int 2, .int 6, .int 4, .int 6, .int 1, .int 0, .int 6, .int 5, .int 1, .int 2, .int 3, .int 2]), (0, .tab 0 (some 15))] := by kernel_rfl
theorem e8x7c_3 (K : KS) : l_turn2 [.unb, .unb, .ref 1, .int 3, .int 8, .int 7, .int 4, .unb, .unb] 892 [(888, .list [.int 4]), (778, .list [.int 7]), (777, .list [.int 2]), (770, .list [.int 1]), (700, .list [.int 7]), (699, .list [.int 1]), (15, .code), (1, .list [.int 0, .int 0, .int 2, .int 6, .int 4, .int 6, .int 1, .int 0, .int 6, .int 5, .int 1, .int 2, .int 3, .int 2]), (0, .tab 0 (some 15))] K = K .nxt [.unb, .unb, .ref 1, .int 3, .int 8, .int 7, .int 5, .unb, .unb] 1007 [(1003, .list [.int 5]), (893, .list [.int 7]), (892, .list [.int 3]), (888, .list [.int 4]), (778, .list [.int 7]), (777, .list [.int 2]), (770, .list [.int 1]), (700, .list [.int 7]), (699, .list [.int 1]), (15, .code), (1, .list [.int 0, .int 0, .int 2, .int 6, .int 4, .int 6, .int 1, .int 0, .int 6, .int 5, .int 1, .int 2, .int 3, .int 2]), (0, .tab 0 (some 15))] := by kernel_rfl
theorem e8x7c_4 (K : KS) : l_turn2 [.unb, .unb, .ref 1, .int 4, .int 8, .int 7, .int 5, .unb, .unb] 1007 [(1003, .list [.int 5]), (893, .list [.int 7]), (892, .list [.int 3]), (888, .list [.int 4]), (778, .list [.int 7]), (777, .list [.int 2]), (770, .list [.int 1]), (700, .list [.int 7]), (699, .list [.int 1]), (15, .code), (1, .list [.int 0, .int 0, .int 2, .int 6, .int 4, .int 6, .int 1, .int 0, .int 6, .int 5, .int 1, .int 2, .int 3, .int 2]), (0, .tab 0 (some 15))] K = K .nxt [.unb, .unb, .ref 1, .int 4, .int 8, .int 7, .int 2, .unb, .unb] 1144 [(1137, .list [.int 2]), (1008, .list [.int 7]), (1007, .list [.int 4]), (1003, .list [.int 5]), (893, .list [.int 7]), (892, .list [.int 3]), (888, .list [.int 4]), (778, .list [.int 7]), (777, .list [.int 2]), (770, .list [.int 1]), (700, .list [.int 7]), (699, .list [.int 1]), (15, .code), (1, .list [.int 0, .int 0, .int 2, .int 6, .int 4, .int 6, .int 1, .int 0, .int 6, .int 5, .int 1, .int 2, .int 3, .int 2]), (0, .tab 0 (some 15))] := by kernel_rfl
theorem e8x7c_5 (K : KS) : l_turn2 [.unb, .unb, .ref 1, .int 5, .int 8, .int 7, .int 2, .unb, .unb] 1144 [(1137, .list [.int 2]), (1008, .list [.int 7]), (1007, .list [.int 4]), (1003, .list [.int 5]), (893, .list [.int 7]), (892, .list [.int 3]), (888, .list [.int 4]), (778, .list [.int 7]), (777, .list [.int 2]), (770, .list [.int 1]), (700, .list [.int 7]), (699, .list [.int 1]), (15, .code), (1, .list [.int 0, .int 0, .int 2, .int 6, .int 4, .int 6, .int 1, .int 0, .int 6, .int 5, .int 1, .int 2, .int 3, .int 2]), (0, .tab 0 (some 15))] K = K .nxt [.unb, .unb, .ref 1, .int 5, .int 8, .int 7, .int 3, .unb, .unb] 1281 [(1274, .list [.int 3]), (1145, .list [.int 7]), (1144, .list [.int 5]), (1137, .list [.int 2]), (1008, .list [.int 7]), (1007, .list [.int 4]), (1003, .list [.int 5]), (893, .list [.int 7]), (892, .list [.int 3]), (888, .list [.int 4]), (778, .list [.int 7]), (777, .list [.int 2]), (770, .list [.int 1]), (700, .list [.int 7]), (699, .list [.int 1]), (15, .code), (1, .list [.int 0, .int 0, .int 2, .int 6, .int 4, .int 6, .int 1, .int 0, .int 6, .int 5, .int 1, .int 2, .int 3, .int 2]), (0, .tab 0 (some 15))] := by kernel_rfl
theorem e8x7c_6 (K : KS) : l_turn2 [.unb, .unb, .ref 1, .int 6, .int 8, .int 7, .int 3, .unb, .unb] 1281 [(1274, .list [.int 3]), (1145, .list [.int 7]), (1144, .list [.int 5]), (1137, .list [.int 2]), (1008, .list [.int 7]), (1007, .list [.int 4]), (1003, .list [.int 5]), (893, .list [.int 7]), (892, .list [.int 3]), (888, .list [.int 4]), (778, .list [.int 7]), (777, .list [.int 2]), (770, .list [.int 1]), (700, .list [.int 7]), (699, .list [.int 1]), (15, .code), (1, .list [.int 0, .int 0, .int 2, .int 6, .int 4, .int 6, .int 1, .int 0, .int 6, .int 5, .int 1, .int 2, .int 3, .int 2]), (0, .tab 0 (some 15))] K = K .nxt [.unb, .unb, .ref 1, .int 6, .int 8, .int 7, .int 6, .unb, .unb] 1396 [(1392, .list [.int 6]), (1282, .list [.int 7]), (1281, .list [.int 6]), (1274, .list [.int 3]), (1145, .list [.int 7]), (1144, .list [.int 5]), (1137, .list [.int 2]), (1008, .list [.int 7]), (1007, .list [.int 4]), (1003, .list [.int 5]), (893, .list [.int 7]), (892, .list [.int 3]), (888, .list [.int 4]), (778, .list [.int 7]), (777, .list [.int 2]), (770, .list [.int 1]), (700, .list [.int 7]), (699, .list [.int 1]), (15, .code), (1, .list [.int 0, .int 0, .int 2, .int 6, .int 4, .int 6, .int 1, .int 0, .int 6, .int 5, .int 1, .int 2, .int 3, .int 2]), (0, .tab 0 (some 15))] := by kernel_rfl
theorem e8x7c (K : KS) : l_law2 [.unb, .unb, .ref 1, .int 13, .int 8, .int 7, .unb, .unb, .unb] 699 [(15, .code), (1, .list [.int 0, .int 0, .int 2, .int 6, .int 4, .int 6, .int 1, .int 0, .int 6, .int 5, .int 1, .int 2, .int 3, .int 2]), (0, .tab 0 (some 15))] K = K .nxt [.unb, .unb, .ref 1, .int 6, .int 8, .int 7, .int 6, .unb, .unb] 1396 [(1392, .list [.int 6]), (1282, .list [.int 7]), (1281, .list [.int 6]), (1274, .list [.int 3]), (1145, .list [.int 7]), (1144, .list [.int 5]), (1137, .list [.int 2]), (1008, .list [.int 7]), (1007, .list [.int 4]), (1003, .list [.int 5]), (893, .list [.int 7]), (892, .list [.int 3]), (888, .list [.int 4]), (778, .list [.int 7]), (777, .list [.int 2]), (770, .list [.int 1]), (700, .list [.int 7]), (699, .list [.int 1]), (15, .code), (1, .list [.int 0, .int 0, .int 2, .int 6, .int 4, .int 6, .int 1, .int 0, .int 6, .int 5, .int 1, .int 2, .int 3, .int 2]), (0, .tab 0 (some 15))] :=
  (for_start (hi := 7) (c := 6) (fun _ => by kernel_rfl) (by kernel_rfl) (by kernel_rfl)).trans ((loop_turn (f := 5) (fun _ => rfl) rfl e8x7c_1).trans ((loop_turn (f := 4) (fun _ => rfl) rfl e8x7c_2).trans ((loop_turn (f := 3) (fun _ => rfl) rfl e8x7c_3).trans ((loop_turn (f := 2) (fun _ => rfl) rfl e8x7c_4).trans ((loop_turn (f := 1) (fun _ => rfl) rfl e8x7c_5).trans ((loop_turn (f := 0) (fun _ => rfl) rfl e8x7c_6).trans rfl))))))
theorem e8x7d (K : KS) : l_law3 [.unb, .unb, .ref 1, .int 6, .int 8, .int 7, .int 6, .unb, .unb] 1396 [(1392, .list [.int 6]), (1282, .list [.int 7]), (1281, .list [.int 6]), (1274, .list [.int 3]), (1145, .list [.int 7]), (1144, .list [.int 5]), (1137, .list [.int 2]), (1008, .list [.int 7]), (1007, .list [.int 4]), (1003, .list [.int 5]), (893, .list [.int 7]), (892, .list [.int 3]), (888, .list [.int 4]), (778, .list [.int 7]), (777, .list [.int 2]), (770, .list [.int 1]), (700, .list [.int 7]), (699, .list [.int 1]), (15, .code), (1, .list [.int 0, .int 0, .int 2, .int 6, .int 4, .int 6, .int 1, .int 0, .int 6, .int 5, .int 1, .int 2, .int 3, .int 2]), (0, .tab 0 (some 15))] K = K .nxt [.unb, .unb, .ref 1, .int 6, .int 8, .int 7, .int 6, .ref 1487, .ref 1489] 1491 [(1490, .tup [.ref 1487, .ref 1489]), (1489, .list []), (1487, .list [.int 103]), (1483, .list [.int 7]), (1481, .list [.int 209, .int 2]), (1480, .list [.int 208, .int 2]), (1392, .list [.int 6]), (1282, .list [.int 7]), (1281, .list [.int 6]), (1274, .list [.int 3]), (1145, .list [.int 7]), (1144, .list [.int 5]), (1137, .list [.int 2]), (1008, .list [.int 7]), (1007, .list [.int 4]), (1003, .list [.int 5]), (893, .list [.int 7]), (892, .list [.int 3]), (888, .list [.int 4]), (778, .list [.int 7]), (777, .list [.int 2]), (770, .list [.int 1]), (700, .list [.int 7]), (699, .list [.int 1]), (15, .code), (1, .list [.int 0, .int 0, .int 2, .int 6, .int 4, .int 6, .int 1, .int 0, .int 6, .int 5, .int 1, .int 2, .int 3, .int 2]), (0, .tab 0 (some 15))] := by kernel_rfl
theorem e8x7e (K : KS) : l_law4 [.unb, .unb, .ref 1, .int 6, .int 8, .int 7, .int 6, .ref 1487, .ref 1489] 1491 [(1490, .tup [.ref 1487, .ref 1489]), (1489, .list []), (1487, .list [.int 103]), (1483, .list [.int 7]), (1481, .list [.int 209, .int 2]), (1480, .list [.int 208, .int 2]), (1392, .list [.int 6]), (1282, .list [.int 7]), (1281, .list [.int 6]), (1274, .list [.int 3]), (1145, .list [.int 7]), (1144, .list [.int 5]), (1137, .list [.int 2]), (1008, .list [.int 7]), (1007, .list [.int 4]), (1003, .list [.int 5]), (893, .list [.int 7]), (892, .list [.int 3]), (888, .list [.int 4]), (778, .list [.int 7]), (777, .list [.int 2]), (770, .list [.int 1]), (700, .list [.int 7]), (699, .list [.int 1]), (15, .code), (1, .list [.int 0, .int 0, .int 2, .int 6, .int 4, .int 6, .int 1, .int 0, .int 6, .int 5, .int 1, .int 2, .int 3, .int 2]), (0, .tab 0 (some 15))] K = K (.ret (.bool true)) [.unb, .unb, .ref 1, .int 6, .int 8, .int 7, .int 6, .ref 1487, .ref 1489] 1494 [(1493, .list [.int 0, .int 0, .int 2, .int 6, .int 4, .int 6, .int 1]), (1491, .list []), (1490, .tup [.ref 1487, .ref 1489]), (1489, .list []), (1487, .list [.int 103]), (1483, .list [.int 7]), (1481, .list [.int 209, .int 2]), (1480, .list [.int 208, .int 2]), (1392, .list [.int 6]), (1282, .list [.int 7]), (1281, .list [.int 6]), (1274, .list [.int 3]), (1145, .list [.int 7]), (1144, .list [.int 5]), (1137, .list [.int 2]), (1008, .list [.int 7]), (1007, .list [.int 4]), (1003, .list [.int 5]), (893, .list [.int 7]), (892, .list [.int 3]), (888, .list [.int 4]), (778, .list [.int 7]), (777, .list [.int 2]), (770, .list [.int 1]), (700, .list [.int 7]), (699, .list [.int 1]), (15, .code), (1, .list [.int 0, .int 0, .int 2, .int 6, .int 4, .int 6, .int 1, .int 0, .int 6, .int 5, .int 1, .int 2, .int 3, .int 2]), (0, .tab 0 (some 15))] := by kernel_rfl
theorem e8x7 : c_law (loc0 8 7) 1 [(0, .tab 0 none)] finK = true := law_chain e8x7a e8x7b e8x7c e8x7d e8x7e rfl
theorem e9x7a (K : KS) : l_law0 [.unb, .unb, .unb, .unb, .int 9, .int 7, .unb, .unb, .unb] 1 [(0, .tab 0 none)] K = K .nxt [.unb, .unb, .ref 1, .unb, .int 9, .int 7, .unb, .unb, .unb] 2 [(1, .list [.int 0]), (0, .tab 0 none)] := by kernel_rfl
theorem e9x7b_1 (K : KS) : l_turn1 [.unb, .unb, .ref 1, .int 1, .int 9, .int 7, .unb, .unb, .unb] 2 [(1, .list [.int 0]), (0, .tab 0 none)] K = K .nxt [.unb, .unb, .ref 1, .int 1, .int 9, .int 7, .unb, .unb, .unb] 49 [(15, .code), (1, .list [.int 0, .int 0]), (0, .tab 0 (some 15))] := by kernel_rfl
theorem e9x7b_2 (K : KS) : l_turn1 [.unb, .unb, .ref 1, .int 2, .int 9, .int 7, .unb, .unb, .unb] 49 [(15, .code), (1, .list [.int 0, .int 0]), (0, .tab 0 (some 15))] K = K .nxt [.unb, .unb, .ref 1, .int 2, .int 9, .int 7, .unb, .unb, .unb] 103 [(15, .code), (1, .list [.int 0, .int 0, .int 2]), (0, .tab 0 (some 15))] := by kernel_rfl
theorem e9x7b_3 (K : KS) : l_turn1 [.unb, .unb, .ref 1, .int 3, .int 9, .int 7, .unb, .unb, .unb] 103 [(15, .code), (1, .list [.int 0, .int 0, .int 2]), (0, .tab 0 (some 15))] K = K .nxt [.unb, .unb, .ref 1, .int 3, .int 9, .int 7, .unb, .unb, .unb] 157 [(15, .code), (1, .list [.int 0, .int 0, .int 2, .int 6]), (0, .tab 0 (some 15))] := by kernel_rfl
theorem e9x7b_4 (K : KS) : l_turn1 [.unb, .unb, .ref 1, .int 4, .int 9, .int 7, .unb, .unb, .unb] 157 [(15, .code), (1, .list [.int 0, .int 0, .int 2, .int 6]), (0, .tab 0 (some 15))] K = K .nxt [.unb, .unb, .ref 1, .int 4, .int 9, .int 7, .unb, .unb, .unb] 215 [(15, .code), (1, .list [.int 0, .int 0, .int 2, .int 6, .int 4]), (0, .tab 0 (some 15))] := by kernel_rfl
theorem e9x7b_5 (K : KS) : l_turn1 [.unb, .unb, .ref 1, .int 5, .int 9, .int 7, .unb, .unb, .unb] 215 [(15, .code), (1, .list [.int 0, .int 0, .int 2, .int 6, .int 4]), (0, .tab 0 (some 15))] K = K .nxt [.unb, .unb, .ref 1, .int 5, .int 9, .int 7, .unb, .unb, .unb] 273 [(15, .code), (1, .list [.int 0, .int 0, .int 2, .int 6, .int 4, .int 6]), (0, .tab 0 (some 15))] := by kernel_rfl
theorem e9x7b_6 (K : KS) : l_turn1 [.unb, .unb, .ref 1, .int 6, .int 9, .int 7, .unb, .unb, .unb] 273 [(15, .code), (1, .list [.int 0, .int 0, .int 2, .int 6, .int 4, .int 6]), (0, .tab 0 (some 15))] K = K .nxt [.unb, .unb, .ref 1, .int 6, .int 9, .int 7, .unb, .unb, .unb] 331 [(15, .code), (1, .list [.int 0, .int 0, .int 2, .int 6, .int 4, .int 6, .int 1]), (0, .tab 0 (some 15))] := by kernel_rfl
theorem e9x7b_7 (K : KS) : l_turn1 [.unb, .unb, .ref 1, .int 7, .int 9, .int 7, .unb, .unb, .unb] 331 [(15, .code), (1, .list [.int 0, .int 0, .int 2, .int 6, .int 4, .int 6, .int 1]), (0, .tab 0 (some 15))] K = K .nxt [.unb, .unb, .ref 1, .int 7, .int 9, .int 7, .unb, .unb, .unb] 331 [(15, .code), (1, .list [.int 0, .int 0, .int 2, .int 6, .int 4, .int 6, .int 1, .int 0]), (0, .tab 0 (some 15))] := by kernel_rfl
theorem e9x7b_8 (K : KS) : l_turn1 [.unb, .unb, .ref 1, .int 8, .int 9, .int 7, .unb, .unb, .unb] 331 [(15, .code), (1, .list [.int 0, .int 0, .int 2, .int 6, .int 4, .int 6, .int 1, .int 0]), (0, .tab 0 (some 15))] K = K .nxt [.unb, .unb, .ref 1, .int 8, .int 9, .int 7, .unb, .unb, .unb] 393 [(15, .code), (1, .list [.int 0, .int 0, .int 2, .int 6, .int 4, .int 6, .int 1, .int 0, .int 6]), (0, .tab 0 (some 15))] := by kernel_rfl
theorem e9x7b_9 (K : KS) : l_turn1 [.unb, .unb, .ref 1, .int 9, .int 9, .int 7, .unb, .unb, .unb] 393 [(15, .code), (1, .list [.int 0, .int 0, .int 2, .int 6, .int 4, .int 6, .int 1, .int 0, .int 6]), (0, .tab 0 (some 15))] K = K .nxt [.unb, .unb, .ref 1, .int 9, .int 9, .int 7, .unb, .unb, .unb] 455 [(15, .code), (1, .list [.int 0, .int 0, .int 2, .int 6, .int 4, .int 6, .int 1, .int 0, .int 6, .int 5]), (0, .tab 0 (some 15))] := by kernel_rfl
theorem e9x7b_10 (K : KS) : l_turn1 [.unb, .unb, .ref 1, .int 10, .int 9, .int 7, .unb, .unb, .unb] 455 [(15, .code), (1, .list [.int 0, .int 0, .int 2, .int 6, .int 4, .int 6, .int 1, .int 0, .int 6, .int 5]), (0, .tab 0 (some 15))] K = K .nxt [.unb, .unb, .ref 1, .int 10, .int 9, .int 7, .unb, .unb, .unb] 513 [(15, .code), (1, .list [.int 0, .int 0, .int 2, .int 6, .int 4, .int 6, .int 1, .int 0, .int 6, .int 5, .int 1]), (0, .tab 0 (some 15))] := by kernel_rfl
theorem e9x7b_11 (K : KS) : l_turn1 [.unb, .unb, .ref 1, .int 11, .int 9, .int 7, .unb, .unb, .unb] 513 [(15, .code), (1, .list [.int 0, .int 0, .int 2, .int 6, .int 4, .int 6, .int 1, .int 0, .int 6, .int 5, .int 1]), (0, .tab 0 (some 15))] K = K .nxt [.unb, .unb, .ref 1, .int 11, .int 9, .int 7, .unb, .unb, .unb] 575 [(15, .code), (1, .list [.int 0, .int 0, .int 2, .int 6, .int 4, .int 6, .int 1, .int 0, .int 6, .int 5, .int 1, .int 2]), (0, .tab 0 (some 15))] := by kernel_rfl
theorem e9x7b_12 (K : KS) : l_turn1 [.unb, .unb, .ref 1, .int 12, .int 9, .int 7, .unb, .unb, .unb] 575 [(15, .code), (1, .list [.int 0, .int 0, .int 2, .int 6, .int 4, .int 6, .int 1, .int 0, .int 6, .int 5, .int 1, .int 2]), (0, .tab 0 (some 15))] K = K .nxt [.unb, .unb, .ref 1, .int 12, .int 9, .int 7, .unb, .unb, .unb] 637 [(15, .code), (1, .list [.int 0, .int 0, .int 2, .int 6, .int 4, .int 6, .int 1, .int 0, .int 6, .int 5, .int 1, .int 2, .int 3]), (0, .tab 0 (some 15))] := by kernel_rfl
theorem e9x7b_13 (K : KS) : l_turn1 [.unb, .unb, .ref 1, .int 13, .int 9, .int 7, .unb, .unb, .unb] 637 [(15, .code), (1, .list [.int 0, .int 0, .int 2, .int 6, .int 4, .int 6, .int 1, .int 0, .int 6, .int 5, .int 1, .int 2, .int 3]), (0, .tab 0 (some 15))] K = K .nxt [.unb, .unb, .ref 1, .int 13, .int 9, .int 7, .unb, .unb, .unb] 699 [(15, .code), (1, .list [.int 0, .int 0, .int 2, .int 6, .int 4, .int 6, .int 1, .int 0, .int 6, .int 5, .int 1, .int 2, .int 3, .int 2]), (0, .tab 0 (some 15))] := by kernel_rfl
theorem e9x7b (K : KS) : l_law1 [.unb, .unb, .ref 1, .unb, .int 9, .int 7, .unb, .unb, .unb] 2 [(1, .list [.int 0]), (0, .tab 0 none)] K = K .nxt [.unb, .unb, .ref 1, .int 13, .int 9, .int 7, .unb, .unb, .unb] 699 [(15, .code), (1, .list [.int 0, .int 0, .int 2, .int 6, .int 4, .int 6, .int 1, .int 0, .int 6, .int 5, .int 1, .int 2, .int 3, .int 2]), (0, .tab 0 (some 15))] :=
  (for_start (hi := 14) (c := 13) (fun _ => by kernel_rfl) (by kernel_rfl) (by kernel_rfl)).trans ((loop_turn (f := 12) (fun _ => rfl) rfl e9x7b_1).trans ((loop_turn (f := 11) (fun _ => rfl) rfl e9x7b_2).trans ((loop_turn (f := 10) (fun _ => rfl) rfl e9x7b_3).trans ((loop_turn (f := 9) (fun _ => rfl) rfl e9x7b_4).trans ((loop_turn (f := 8) (fun _ => rfl) rfl e9x7b_5).trans ((loop_turn (f := 7) (fun _ => rfl) rfl e9x7b_6).trans ((loop_turn (f := 6) (fun _ => rfl) rfl e9x7b_7).trans ((loop_turn (f := 5) (fun _ => rfl) rfl e9x7b_8).trans ((loop_turn (f := 4) (fun _ => rfl) rfl e9x7b_9).trans ((loop_turn (f := 3) (fun _ => rfl) rfl e9x7b_10).trans ((loop_turn (f := 2) (fun _ => rfl) rfl e9x7b_11).trans ((loop_turn (f := 1) (fun _ => rfl) rfl e9x7b_12).trans ((loop_turn (f := 0) (fun _ => rfl) rfl e9x7b_13).trans rfl)))))))))))))
theorem e9x7c_1 (K : KS) : l_turn2 [.unb, .unb, .ref 1, .int 1, .int 9, .int 7, .unb, .unb, .unb] 699 [(15, .code), (1, .list [.int 0, .int 0, .int 2, .int 6, .int 4, .int 6, .int 1, .int 0, .int 6, .int 5, .int 1, .int 2, .int 3, .int 2]), (0, .tab 0 (some 15))] K = K .nxt [.unb, .unb, .ref 1, .int 1, .int 9, .int 7, .int 1, .unb, .unb] 777 [(770, .list [.int 1]), (700, .list [.int 7]), (699, .list [.int 1]), (15, .code), (1, .list [.int 0, .int 0, .int 2, .int 6, .int 4, .int 6, .int 1, .int 0, .int 6, .int 5, .int 1, .int 2, .int 3, .int 2]), (0, .tab 0 (some 15))] := by kernel_rfl
theorem e9x7c_2 (K : KS) : l_turn2 [.unb, .unb, .ref 1, .int 2, .int 9, .int 7, .int 1, .unb, .unb] 777 [(770, .list [.int 1]), (700, .list [.int 7]), (699, .list [.int 1]), (15, .code), (1, .list [.int 0, .int 0, .int 2, .int 6, .int 4, .int 6, .int 1, .int 0, .int 6, .int 5, .int 1, .int 2, .int 3, .int 2]), (0, .tab 0 (some 15))] K = K .nxt [.unb, .unb, .ref 1, .int 2, .int 9, .int 7, .int 4, .unb, .unb] 892 [(888, .list [.int 4]), (778, .list [.int 7]), (777, .list [.int 2]), (770, .list [.int 1]), (700, .list [.int 7]), (699, .list [.int 1]), (15, .code), (1, .list [.int 0, .int 0, .int 2, .int 6, .int 4, .int 6, .int 1, .int 0, .int 6, .int 5, .int 1, .int 2, .int 3, .int 2]), (0, .tab 0 (some 15))] := by kernel_rfl
theorem e9x7c_3 (K : KS) : l_turn2 [.unb, .unb, .ref 1, .int 3, .int 9, .int 7, .int 4, .unb, .unb] 892 [(888, .list [.int 4]), (778, .list [.int 7]), (777, .list [.int 2]), (770, .list [.int 1]), (700, .list [.int 7]), (699, .list [.int 1]), (15, .code), (1, .list [.int 0, .int 0, .int 2, .int 6, .int 4, .int 6, .int 1, .int 0, .int 6, .int 5, .int 1, .int 2, .int 3, .int 2]), (0, .tab 0 (some 15))] K = K .nxt [.unb, .unb, .ref 1, .int 3, .int 9, .int 7, .int 5, .unb, .unb] 1007 [(1003, .list [.int 5]), (893, .list [.int 7]), (892, .list [.int 3]), (888, .list [.int 4]), (778, .list [.int 7]), (777, .list [.int 2]), (770, .list [.int 1]), (700, .list [.int 7]), (699, .list [.int 1]), (15, .code), (1, .list [.int 0, .int 0, .int 2, .int 6, .int 4, .int 6, .int 1, .int 0, .int 6, .int 5, .int 1, .int 2, .int 3, .int 2]), (0, .tab 0 (some 15))] := by kernel_rfl
theorem e9x7c_4 (K : KS) : l_turn2 [.unb, .unb, .ref 1, .int 4, .int 9, .int 7, .int 5, .unb, .unb] 1007 [(1003, .list [.int 5]), (893, .list [.int 7]), (892, .list [.int 3]), (888, .list [.int 4]), (778, .list [.int 7]), (777, .list [.int 2]), (770, .list [.int 1]), (700, .list [.int 7]), (699, .list [.int 1]), (15, .code), (1, .list [.int 0, .int 0, .int 2, .int 6, .int 4, .int 6, .int 1, .int 0, .int 6, .int 5, .int 1, .int 2, .int 3, .int 2]), (0, .tab 0 (some 15))] K = K .nxt [.unb, .unb, .ref 1, .int 4, .int 9, .int 7, .int 2, .unb, .unb] 1144 [(1137, .list [.int 2]), (1008, .list [.int 7]), (1007, .list [.int 4]), (1003, .list [.int 5]), (893, .list [.int 7]), (892, .list [.int 3]), (888, .list [.int 4]), (778, .list [.int 7]), (777, .list [.int 2]), (770, .list [.int 1]), (700, .list [.int 7]), (699, .list [.int 1]), (15, .code), (1, .list [.int 0, .int 0, .int 2, .int 6, .int 4, .int 6, .int 1, .int 0, .int 6, .int 5, .int 1, .int 2, .int 3, .int 2]), (0, .tab 0 (some 15))] := by kernel_rfl
theorem e9x7c_5 (K : KS) : l_turn2 [.unb, .unb, .ref 1, .int 5, .int 9, .int 7, .int 2, .unb, .unb] 1144 [(1137, .list [.int 2]), (1008, .list [.int 7]), (1007, .list [.int 4]), (1003, .list [.int 5]), (893, .list [.int 7]), (892, .list [.int 3]), (888, .list [.int 4]), (778, .list [.int 7]), (777, .list [.int 2]), (770, .list [.int 1]), (700, .list [.int 7]), (699, .list [.int 1]), (15, .code), (1, .list [.int 0, .int 0, .int 2, .int 6, .int 4, .int 6, .int 1, .int 0, .int 6, .int 5, .int 1, .int 2, .int 3, .int 2]), (0, .tab 0 (some 15))] K = K .nxt [.unb, .unb, .ref 1, .int 5, .int 9, .int 7, .int 3, .unb, .unb] 1281 [(1274, .list [.int 3]), (1145, .list [.int 7]), (1144, .list [.int 5]), (1137, .list [.int 2]), (1008, .list [.int 7]), (1007, .list [.int 4]), (1003, .list [.int 5]), (893, .list [.int 7]), (892, .list [.int 3]), (888, .list [.int 4]), (778, .list [.int 7]), (777, .list [.int 2]), (770, .list [.int 1]), (700, .list [.int 7]), (699, .list [.int 1]), (15, .code), (1, .list [.int 0, .int 0, .int 2, .int 6, .int 4, .int 6, .int 1, .int 0, .int 6, .int 5, .int 1, .int 2, .int 3, .int 2]), (0, .tab 0 (some 15))] := by kernel_rfl
theorem e9x7c_6 (K : KS) : l_turn2 [.unb, .unb, .ref 1, .int 6, .int 9, .int 7, .int 3, .unb, .unb] 1281 [(1274, .list [.int 3]), (1145, .list [.int 7]), (1144, .list [.int 5]), (1137, .list [.int 2]), (1008, .list [.int 7]), (1007, .list [.int 4]), (1003, .list [.int 5]), (893, .list [.int 7]), (892, .list [.int 3]), (888, .list [.int 4]), (778, .list [.int 7]), (777, .list [.int 2]), (770, .list [.int 1]), (700, .list [.int 7]), (699, .list [.int 1]), (15, .code), (1, .list [.int 0, .int 0, .int 2, .int 6, .int 4, .int 6, .int 1, .int 0, .int 6, .int 5, .int 1, .int 2, .int 3, .int 2]), (0, .tab 0 (some 15))] K = K .nxt [.unb, .unb, .ref 1, .int 6, .int 9, .int 7, .int 6, .unb, .unb] 1396 [(1392, .list [.int 6]), (1282, .list [.int 7]), (1281, .list [.int 6]), (1274, .list [.int 3]), (1145, .list [.int 7]), (1144, .list [.int 5]), (1137, .list [.int 2]), (1008, .list [.int 7]), (1007, .list [.int 4]), (1003, .list [.int 5]), (893, .list [.int 7]), (892, .list [.int 3]), (888, .list [.int 4]), (778, .list [.int 7]), (777, .list [.int 2]), (770, .list [.int 1]), (700, .list [.int 7]), (699, .list [.int 1]), (15, .code), (1, .list [.int 0, .int 0, .int 2, .int 6, .int 4, .int 6, .int 1, .int 0, .int 6, .int 5, .int 1, .int 2, .int 3, .int 2]), (0, .tab 0 (some 15))] := by kernel_rfl
theorem e9x7c (K : KS) : l_law2 [.unb, .unb, .ref 1, .int 13, .int 9, .int 7, .unb, .unb, .unb] 699 [(15, .code), (1, .list [.int 0, .int 0, .int 2, .int 6, .int 4, .int 6, .int 1, .int 0, .int 6, .int 5, .int 1, .int 2, .int 3, .int 2]), (0, .tab 0 (some 15))] K = K .nxt [.unb, .unb, .ref 1, .int 6, .int 9, .int 7, .int 6, .unb, .unb] 1396 [(1392, .list [.int 6]), (1282, .list [.int 7]), (1281, .list [.int 6]), (1274, .list [.int 3]), (1145, .list [.int 7]), (1144, .list [.int 5]), (1137, .list [.int 2]), (1008, .list [.int 7]), (1007, .list [.int 4]), (1003, .list [.int 5]), (893, .list [.int 7]), (892, .list [.int 3]), (888, .list [.int 4]), (778, .list [.int 7]), (777, .list [.int 2]), (770, .list [.int 1]), (700, .list [.int 7]), (699, .list [.int 1]), (15, .code), (1, .list [.int 0, .int 0, .int 2, .int 6, .int 4, .int 6, .int 1, .int 0, .int 6, .int 5, .int 1, .int 2, .int 3, .int 2]), (0, .tab 0 (some 15))] :=
  (for_start (hi := 7) (c := 6) (fun _ => by kernel_rfl) (by kernel_rfl) (by kernel_rfl)).trans ((loop_turn (f := 5) (fun _ => rfl) rfl e9x7c_1).trans ((loop_turn (f := 4) (fun _ => rfl) rfl e9x7c_2).trans ((loop_turn (f := 3) (fun _ => rfl) rfl e9x7c_3).trans ((loop_turn (f := 2) (fun _ => rfl) rfl e9x7c_4).trans ((loop_turn (f := 1) (fun _ => rfl) rfl e9x7c_5).trans ((loop_turn (f := 0) (fun _ => rfl) rfl e9x7c_6).trans rfl))))))
theorem e9x7d (K : KS) : l_law3 [.unb, .unb, .ref 1, .int 6, .int 9, .int 7, .int 6, .unb, .unb] 1396 [(1392, .list [.int 6]), (1282, .list [.int 7]), (1281, .list [.int 6]), (1274, .list [.int 3]), (1145, .list [.int 7]), (1144, .list [.int 5]), (1137, .list [.int 2]), (1008, .list [.int 7]), (1007, .list [.int 4]), (1003, .list [.int 5]), (893, .list [.int 7]), (892, .list [.int 3]), (888, .list [.int 4]), (778, .list [.int 7]), (777, .list [.int 2]), (770, .list [.int 1]), (700, .list [.int 7]), (699, .list [.int 1]), (15, .code), (1, .list [.int 0, .int 0, .int 2, .int 6, .int 4, .int 6, .int 1, .int 0, .int 6, .int 5, .int 1, .int 2, .int 3, .int 2]), (0, .tab 0 (some 15))] K = K .nxt [.unb, .unb, .ref 1, .int 6, .int 9, .int 7, .int 6, .ref 1487, .ref 1489] 1491 [(1490, .tup [.ref 1487, .ref 1489]), (1489, .list []), (1487, .list [.int 103]), (1483, .list [.int 7]), (1481, .list [.int 209, .int 1]), (1480, .list [.int 208, .int 1]), (1392, .list [.int 6]), (1282, .list [.int 7]), (1281, .list [.int 6]), (1274, .list [.int 3]), (1145, .list [.int 7]), (1144, .list [.int 5]), (1137, .list [.int 2]), (1008, .list [.int 7]), (1007, .list [.int 4]), (1003, .list [.int 5]), (893, .list [.int 7]), (892, .list [.int 3]), (888, .list [.int 4]), (778, .list [.int 7]), (777, .list [.int 2]), (770, .list [.int 1]), (700, .list [.int 7]), (699, .list [.int 1]), (15, .code), (1, .list [.int 0, .int 0, .int 2, .int 6, .int 4, .int 6, .int 1, .int 0, .int 6, .int 5, .int 1, .int 2, .int 3, .int 2]), (0, .tab 0 (some 15))] := by kernel_rfl
theorem e9x7e (K : KS) : l_law4 [.unb, .unb, .ref 1, .int 6, .int 9, .int 7, .int 6, .ref 1487, .ref 1489] 1491 [(1490, .tup [.ref 1487, .ref 1489]), (1489, .list []), (1487, .list [.int 103]), (1483, .list [.int 7]), (1481, .list [.int 209, .int 1]), (1480, .list [.int 208, .int 1]), (1392, .list [.int 6]), (1282, .list [.int 7]), (1281, .list [.int 6]), (1274, .list [.int 3]), (1145, .list [.int 7]), (1144, .list [.int 5]), (1137, .list [.int 2]), (1008, .list [.int 7]), (1007, .list [.int 4]), (1003, .list [.int 5]), (893, .list [.int 7]), (892, .list [.int 3]), (888, .list [.int 4]), (778, .list [.int 7]), (777, .list [.int 2]), (770, .list [.int 1]), (700, .list [.int 7]), (699, .list [.int 1]), (15, .code), (1, .list [.int 0, .int 0, .int 2, .int 6, .int 4, .int 6, .int 1, .int 0, .int 6, .int 5, .int 1, .int 2, .int 3, .int 2]), (0, .tab 0 (some 15))] K = K (.ret (.bool true)) [.unb, .unb, .ref 1, .int 6, .int 9, .int 7, .int 6, .ref 1487, .ref 1489] 1494 [(1493, .list [.int 0, .int 0, .int 2, .int 6, .int 4, .int 6, .int 1]), (1491, .list []), (1490, .tup [.ref 1487, .ref 1489]), (1489, .list []), (1487, .list [.int 103]), (1483, .list [.int 7]), (1481, .list [.int 209, .int 1]), (1480, .list [.int 208, .int 1]), (1392, .list [.int 6]), (1282, .list [.int 7]), (1281, .list [.int 6]), (1274, .list [.int 3]), (1145, .list [.int 7]), (1144, .list [.int 5]), (1137, .list [.int 2]), (1008, .list [.int 7]), (1007, .list [.int 4]), (1003, .list [.int 5]), (893, .list [.int 7]), (892, .list [.int 3]), (888, .list [.int 4]), (778, .list [.int 7]), (777, .list [.int 2]), (770, .list [.int 1]), (700, .list [.int 7]), (699, .list [.int 1]), (15, .code), (1, .list [.int 0, .int 0, .int 2, .int 6, .int 4, .int 6, .int 1, .int 0, .int 6, .int 5, .int 1, .int 2, .int 3, .int 2]), (0, .tab 0 (some 15))] := by kernel_rfl
theorem e9x7 : c_law (loc0 9 7) 1 [(0, .tab 0 none)] finK = true := law_chain e9x7a e9x7b e9x7c e9x7d e9x7e rfl
theorem e10x7a (K : KS) : l_law0 [.unb, .unb, .unb, .unb, .int 10, .int 7, .unb, .unb, .unb] 1 [(0, .tab 0 none)] K = K .nxt [.unb, .unb, .ref 1, .unb, .int 10, .int 7, .unb, .unb, .unb] 2 [(1, .list [.int 0]), (0, .tab 0 none)] := by kernel_rfl
theorem e10x7b_1 (K : KS) : l_turn1 [.unb, .unb, .ref 1, .int 1, .int 10, .int 7, .unb, .unb, .unb] 2 [(1, .list [.int 0]), (0, .tab 0 none)] K = K .nxt [.unb, .unb, .ref 1, .int 1, .int 10, .int 7, .unb, .unb, .unb] 49 [(15, .code), (1, .list [.int 0, .int 0]), (0, .tab 0 (some 15))] := by kernel_rfl
theorem e10x7b_2 (K : KS) : l_turn1 [.unb, .unb, .ref 1, .int 2, .int 10, .int 7, .unb, .unb, .unb] 49 [(15, .code), (1, .list [.int 0, .int 0]), (0, .tab 0 (some 15))] K = K .nxt [.unb, .unb, .ref 1, .int 2, .int 10, .int 7, .unb, .unb, .unb] 103 [(15, .code), (1, .list [.int 0, .int 0, .int 2]), (0, .tab 0 (some 15))] := by kernel_rfl
theorem e10x7b_3 (K : KS) : l_turn1 [.unb, .unb, .ref 1, .int 3, .int 10, .int 7, .unb, .unb, .unb] 103 [(15, .code), (1, .list [.int 0, .int 0, .int 2]), (0, .tab 0 (some 15))] K = K .nxt [.unb, .unb, .ref 1, .int 3, .int 10, .int 7, .unb, .unb, .unb] 157 [(15, .code), (1, .list [.int 0, .int 0, .int 2, .int 6]), (0, .tab 0 (some 15))] := by kernel_rfl
theorem e10x7b_4 (K : KS) : l_turn1 [.unb, .unb, .ref 1, .int 4, .int 10, .int 7, .unb, .unb, .unb] 157 [(15, .code), (1, .list [.int 0, .int 0, .int 2, .int 6]), (0, .tab 0 (some 15))] K = K .nxt [.unb, .unb, .ref 1, .int 4, .int 10, .int 7, .unb, .unb, .unb] 215 [(15, .code), (1, .list [.int 0, .int 0, .int 2, .int 6, .int 4]), (0, .tab 0 (some 15))] := by kernel_rfl
theorem e10x7b_5 (K : KS) : l_turn1 [.unb, .unb, .ref 1, .int 5, .int 10, .int 7, .unb, .unb, .unb] 215 [(15, .code), (1, .list [.int 0, .int 0, .int 2, .int 6, .int 4]), (0, .tab 0 (some 15))] K = K .nxt [.unb, .unb, .ref 1, .int 5, .int 10, .int 7, .unb, .unb, .unb] 273 [(15, .code), (1, .list [.int 0, .int 0, .int 2, .int 6, .int 4, .int 6]), (0, .tab 0 (some 15))] := by kernel_rfl
theorem e10x7b_6 (K : KS) : l_turn1 [.unb, .unb, .ref 1, .int 6, .int 10, .int 7, .unb, .unb, .unb] 273 [(15, .code), (1, .list [.int 0, .int 0, .int 2, .int 6, .int 4, .int 6]), (0, .tab 0 (some 15))] K = K .nxt [.unb, .unb, .ref 1, .int 6, .int 10, .int 7, .unb, .unb, .unb] 331 [(15, .code), (1, .list [.int 0, .int 0, .int 2, .int 6, .int 4, .int 6, .int 1]), (0, .tab 0 (some 15))] := by kernel_rfl
theorem e10x7b_7 (K : KS) : l_turn1 [.unb, .unb, .ref 1, .int 7, .int 10, .int 7, .unb, .unb, .unb] 331 [(15, .code), (1, .list [.int 0, .int 0, .int 2, .int 6, .int 4, .int 6, .int 1]), (0, .tab 0 (some 15))] K = K .nxt [.unb, .unb, .ref 1, .int 7, .int 10, .int 7, .unb, .unb, .unb] 331 [(15, .code), (1, .list [.int 0, .int 0, .int 2, .int 6, .int 4, .int 6, .int 1, .int 0]), (0, .tab 0 (some 15))] := by kernel_rfl
theorem e10x7b_8 (K : KS) : l_turn1 [.unb, .unb, .ref 1, .int 8, .int 10, .int 7, .unb, .unb, .unb] 331 [(15, .code), (1, .list [.int 0, .int 0, .int 2, .int 6, .int 4, .int 6, .int 1, .int 0]), (0, .tab 0 (some 15))] K = K .nxt [.unb, .unb, .ref 1, .int 8, .int 10, .int 7, .unb, .unb, .unb] 393 [(15, .code), (1, .list [.int 0, .int 0, .int 2, .int 6, .int 4, .int 6, .int 1, .int 0, .int 6]), (0, .tab 0 (some 15))] := by kernel_rfl
theorem e10x7b_9 (K : KS) : l_turn1 [.unb, .unb, .ref 1, .int 9, .int 10, .int 7, .unb, .unb, .unb] 393 [(15, .code), (1, .list [.int 0, .int 0, .int 2, .int 6, .int 4, .int 6, .int 1, .int 0, .int 6]), (0, .tab 0 (some 15))] K = K .nxt [.unb, .unb, .ref 1, .int 9, .int 10, .int 7, .unb, .unb, .unb] 455 [(15, .code), (1, .list [.int 0, .int 0, .int 2, .int 6, .int 4, .int 6, .int 1, .int 0, .int 6, .int 5]), (0, .tab 0 (some 15))] := by kernel_rfl
theorem e10x7b_10 (K : KS) : l_turn1 [.unb, .unb, .ref 1, .int 10, .int 10, .int 7, .unb, .unb, .unb] 455 [(15, .code), (1, .list [.int 0, .int 0, .int 2, .int 6, .int 4, .int 6, .int 1, .int 0, .int 6, .int 5]), (0, .tab 0 (some 15))] K = K .nxt [.unb, .unb, .ref 1, .int 10, .int 10, .int 7, .unb, .unb, .unb] 513 [(15, .code), (1, .list [.int 0, .int 0, .int 2, .int 6, .int 4, .int 6, .int 1, .int 0, .int 6, .int 5, .int 1]), (0, .tab 0 (some 15))] := by kernel_rfl
theorem e10x7b_11 (K : KS) : l_turn1 [.unb, .unb, .ref 1, .int 11, .int 10, .int 7, .unb, .unb, .unb] 513 [(15, .code), (1, .list [.int 0, .int 0, .int 2, .int 6, .int 4, .int 6, .int 1, .int 0, .int 6, .int 5, .int 1]), (0, .tab 0 (some 15))] K = K .nxt [.unb, .unb, .ref 1, .int 11, .int 10, .int 7, .unb, .unb, .unb] 575 [(15, .code), (1, .list [.int 0, .int 0, .int 2, .int 6, .int 4, .int 6, .int 1, .int 0, .int 6, .int 5, .int 1, .int 2]), (0, .tab 0 (some 15))] := by kernel_rfl
theorem e10x7b_12 (K : KS) : l_turn1 [.unb, .unb, .ref 1, .int 12, .int 10, .int 7, .unb, .unb, .unb] 575 [(15, .code), (1, .list [.int 0, .int 0, .int 2, .int 6, .int 4, .int 6, .int 1, .int 0, .int 6, .int 5, .int 1, .int 2]), (0, .tab 0 (some 15))] K = K .nxt [.unb, .unb, .ref 1, .int 12, .int 10, .int 7, .unb, .unb, .unb] 637 [(15, .code), (1, .list [.int 0, .int 0, .int 2, .int 6, .int 4, .int 6, .int 1, .int 0, .int 6, .int 5, .int 1, .int 2, .int 3]), (0, .tab 0 (some 15))] := by kernel_rfl
theorem e10x7b_13 (K : KS) : l_turn1 [.unb, .unb, .ref 1, .int 13, .int 10, .int 7, .unb, .unb, .unb] 637 [(15, .code), (1, .list [.int 0, .int 0, .int 2, .int 6, .int 4, .int 6, .int 1, .int 0, .int 6, .int 5, .int 1, .int 2, .int 3]), (0, .tab 0 (some 15))] K = K .nxt [.unb, .unb, .ref 1, .int 13, .int 10, .int 7, .unb, .unb, .unb] 699 [(15, .code), (1, .list [.int 0, .int 0, .int 2, .int 6, .int 4, .int 6, .int 1, .int 0, .int 6, .int 5, .int 1, .int 2, .int 3, .int 2]), (0, .tab 0 (some 15))] := by kernel_rfl
theorem e10x7b (K : KS) : l_law1 [.unb, .unb, .ref 1, .unb, .int 10, .int 7, .unb, .unb, .unb] 2 [(1, .list [.int 0]), (0, .tab 0 none)] K = K .nxt [.unb, .unb, .ref 1, .int 13, .int 10, .int 7, .unb, .unb, .unb] 699 [(15, .code), (1, .list [.int 0, .int 0, .int 2, .int 6, .int 4, .int 6, .int 1, .int 0, .int 6, .int 5, .int 1, .int 2, .int 3, .int 2]), (0, .tab 0 (some 15))] :=
  (for_start (hi := 14) (c := 13) (fun _ => by kernel_rfl) (by kernel_rfl) (by kernel_rfl)).trans ((loop_turn (f := 12) (fun _ => rfl) rfl e10x7b_1).trans ((loop_turn (f := 11) (fun _ => rfl) rfl e10x7b_2).trans ((loop_turn (f := 10) (fun _ => rfl) rfl e10x7b_3).trans ((loop_turn (f := 9) (fun _ => rfl) rfl e10x7b_4).trans ((loop_turn (f := 8) (fun _ => rfl) rfl e10x7b_5).trans ((loop_turn (f := 7) (fun _ => rfl) rfl e10x7b_6).trans ((loop_turn (f := 6) (fun _ => rfl) rfl e10x7b_7).trans ((loop_turn (f := 5) (fun _ => rfl) rfl e10x7b_8).trans ((loop_turn (f := 4) (fun _ => rfl) rfl e10x7b_9).trans ((loop_turn (f := 3) (fun _ => rfl) rfl e10x7b_10).trans ((loop_turn (f := 2) (fun _ => rfl) rfl e10x7b_11).trans ((loop_turn (f := 1) (fun _ => rfl) rfl e10x7b_12).trans ((loop_turn (f := 0) (fun _ => rfl) rfl e10x7b_13).trans rfl)))))))))))))
theorem e10x7c_1 (K : KS) : l_turn2 [.unb, .unb, .ref 1, .int 1, .int 10, .int 7, .unb, .unb, .unb] 699 [(15, .code), (1, .list [.int 0, .int 0, .int 2, .int 6, .int 4, .int 6, .int 1, .int 0, .int 6, .int 5, .int 1, .int 2, .int 3, .int 2]), (0, .tab 0 (some 15))] K = K .nxt [.unb, .unb, .ref 1, .int 1, .int 10, .int 7, .int 1, .unb, .unb] 777 [(770, .list [.int 1]), (700, .list [.int 7]), (699, .list [.int 1]), (15, .code), (1, .list [.int 0, .int 0, .int 2, .int 6, .int 4, .int 6, .int 1, .int 0, .int 6, .int 5, .int 1, .int 2, .int 3, .int 2]), (0, .tab 0 (some 15))] := by kernel_rfl
theorem e10x7c_2 (K : KS) : l_turn2 [.unb, .unb, .ref 1, .int 2, .int 10, .int 7, .int 1, .unb, .unb] 777 [(770, .list [.int 1]), (700, .list [.int 7]), (699, .list [.int 1]), (15, .code), (1, .list [.int 0, .int 0, .int 2, .int 6, .int 4, .int 6, .int 1, .int 0, .int 6, .int 5, .int 1, .int 2, .int 3, .int 2]), (0, .tab 0 (some 15))] K = K .nxt [.unb, .unb, .ref 1, .int 2, .int 10, .int 7, .int 4, .unb, .unb] 892 [(888, .list [.int 4]), (778, .list [.int 7]), (777, .list [.int 2]), (770, .list [.int 1]), (700, .list [.int 7]), (699, .list [.int 1]), (15, .code), (1, .list [.int 0, .int 0, .int 2, .int 6, .int 4, .int 6, .int 1, .int 0, .int 6, .int 5, .int 1, .int 2, .int 3, .int 2]), (0, .tab 0 (some 15))] := by kernel_rfl
theorem e10x7c_3 (K : KS) : l_turn2 [.unb, .unb, .ref 1, .int 3, .int 10, .int 7, .int 4, .unb, .unb] 892 [(888, .list [.int 4]), (778, .list [.int 7]), (777, .list [.int 2]), (770, .list [.int 1]), (700, .list [.int 7]), (699, .list [.int 1]), (15, .code), (1, .list [.int 0, .int 0, .int 2, .int 6, .int 4, .int 6, .int 1, .int 0, .int 6, .int 5, .int 1, .int 2, .int 3, .int 2]), (0, .tab 0 (some 15))] K = K .nxt [.unb, .unb, .ref 1, .int 3, .int 10, .int 7, .int 5, .unb, .unb] 1007 [(1003, .list [.int 5]), (893, .list [.int 7]), (892, .list [.int 3]), (888, .list [.int 4]), (778, .list [.int 7]), (777, .list [.int 2]), (770, .list [.int 1]), (700, .list [.int 7]), (699, .list [.int 1]), (15, .code), (1, .list [.int 0, .int 0, .int 2, .int 6, .int 4, .int 6, .int 1, .int 0, .int 6, .int 5, .int 1, .int 2, .int 3, .int 2]), (0, .tab 0 (some 15))] := by kernel_rfl
theorem e10x7c_4 (K : KS) : l_turn2 [.unb, .unb, .ref 1, .int 4, .int 10, .int 7, .int 5, .unb, .unb] 1007 [(1003, .list [.int 5]), (893, .list [.int 7]), (892, .list [.int 3]), (888, .list [.int 4]), (778, .list [.int 7]), (777, .list [.int 2]), (770, .list [.int 1]), (700, .list [.int 7]), (699, .list [.int 1]), (15, .code), (1, .list [.int 0, .int 0, .int 2, .int 6, .int 4, .int 6, .int 1, .int 0, .int 6, .int 5, .int 1, .int 2, .int 3, .int 2]), (0, .tab 0 (some 15))] K = K .nxt [.unb, .unb, .ref 1, .int 4, .int 10, .int 7, .int 2, .unb, .unb] 1144 [(1137, .list [.int 2]), (1008, .list [.int 7]), (1007, .list [.int 4]), (1003, .list [.int 5]), (893, .list [.int 7]), (892, .list [.int 3]), (888, .list [.int 4]), (778, .list [.int 7]), (777, .list [.int 2]), (770, .list [.int 1]), (700, .list [.int 7]), (699, .list [.int 1]), (15, .code), (1, .list [.int 0, .int 0, .int 2, .int 6, .int 4, .int 6, .int 1, .int 0, .int 6, .int 5, .int 1, .int 2, .int 3, .int 2]), (0, .tab 0 (some 15))] := by kernel_rfl
theorem e10x7c_5 (K : KS) : l_turn2 [.unb, .unb, .ref 1, .int 5, .int 10, .int 7, .int 2, .unb, .unb] 1144 [(1137, .list [.int 2]), (1008, .list [.int 7]), (1007, .list [.int 4]), (1003, .list [.int 5]), (893, .list [.int 7]), (892, .list [.int 3]), (888, .list [.int 4]), (778, .list [.int 7]), (777, .list [.int 2]), (770, .list [.int 1]), (700, .list [.int 7]), (699, .list [.int 1]), (15, .code), (1, .list [.int 0, .int 0, .int 2, .int 6, .int 4, .int 6, .int 1, .int 0, .int 6, .int 5, .int 1, .int 2, .int 3, .int 2]), (0, .tab 0 (some 15))] K = K .nxt [.unb, .unb, .ref 1, .int 5, .int 10, .int 7, .int 3, .unb, .unb] 1281 [(1274, .list [.int 3]), (1145, .list [.int 7]), (1144, .list [.int 5]), (1137, .list [.int 2]), (1008, .list [.int 7]), (1007, .list [.int 4]), (1003, .list [.int 5]), (893, .list [.int 7]), (892, .list [.int 3]), (888, .list [.int 4]), (778, .list [.int 7]), (777, .list [.int 2]), (770, .list [.int 1]), (700, .list [.int 7]), (699, .list [.int 1]), (15, .code), (1, .list [.int 0, .int 0, .int 2, .int 6, .int 4, .int 6, .int 1, .int 0, .int 6, .int 5, .int 1, .int 2, .int 3, .int 2]), (0, .tab 0 (some 15))] := by kernel_rfl
theorem e10x7c_6 (K : KS) : l_turn2 [.unb, .unb, .ref 1, .int 6, .int 10, .int 7, .int 3, .unb, .unb] 1281 [(1274, .list [.int 3]), (1145, .list [.int 7]), (1144, .list [.int 5]), (1137, .list [.int 2]), (1008, .list [.int 7]), (1007, .list [.int 4]), (1003, .list [.int 5]), (893, .list [.int 7]), (892, .list [.int 3]), (888, .list [.int 4]), (778, .list [.int 7]), (777, .list [.int 2]), (770, .list [.int 1]), (700, .list [.int 7]), (699, .list [.int 1]), (15, .code), (1, .list [.int 0, .int 0, .int 2, .int 6, .int 4, .int 6, .int 1, .int 0, .int 6, .int 5, .int 1, .int 2, .int 3, .int 2]), (0, .tab 0 (some 15))] K = K .nxt [.unb, .unb, .ref 1, .int 6, .int 10, .int 7, .int 6, .unb, .unb] 1396 [(1392, .list [.int 6]), (1282, .list [.int 7]), (1281, .list [.int 6]), (1274, .list [.int 3]), (1145, .list [.int 7]), (1144, .list [.int 5]), (1137, .list [.int 2]), (1008, .list [.int 7]), (1007, .list [.int 4]), (1003, .list [.int 5]), (893, .list [.int 7]), (892, .list [.int 3]), (888, .list [.int 4]), (778, .list [.int 7]), (777, .list [.int 2]), (770, .list [.int 1]), (700, .list [.int 7]), (699, .list [.int 1]), (15, .code), (1, .list [.int 0, .int 0, .int 2, .int 6, .int 4, .int 6, .int 1, .int 0, .int 6, .int 5, .int 1, .int 2, .int 3, .int 2]), (0, .tab 0 (some 15))] := by kernel_rfl
theorem e10x7c (K : KS) : l_law2 [.unb, .unb, .ref 1, .int 13, .int 10, .int 7, .unb, .unb, .unb] 699 [(15, .code), (1, .list [.int 0, .int 0, .int 2, .int 6, .int 4, .int 6, .int 1, .int 0, .int 6, .int 5, .int 1, .int 2, .int 3, .int 2]), (0, .tab 0 (some 15))] K = K .nxt [.unb, .unb, .ref 1, .int 6, .int 10, .int 7, .int 6, .unb, .unb] 1396 [(1392, .list [.int 6]), (1282, .list [.int 7]), (1281, .list [.int 6]), (1274, .list [.int 3]), (1145, .list [.int 7]), (1144, .list [.int 5]), (1137, .list [.int 2]), (1008, .list [.int 7]), (1007, .list [.int 4]), (1003, .list [.int 5]), (893, .list [.int 7]), (892, .list [.int 3]), (888, .list [.int 4]), (778, .list [.int 7]), (777, .list [.int 2]), (770, .list [.int 1]), (700, .list [.int 7]), (699, .list [.int 1]), (15, .code), (1, .list [.int 0, .int 0, .int 2, .int 6, .int 4, .int 6, .int 1, .int 0, .int 6, .int 5, .int 1, .int 2, .int 3, .int 2]), (0, .tab 0 (some 15))] :=
  (for_start (hi := 7) (c := 6) (fun _ => by kernel_rfl) (by kernel_rfl) (by kernel_rfl)).trans ((loop_turn (f := 5) (fun _ => rfl) rfl e10x7c_1).trans ((loop_turn (f := 4) (fun _ => rfl) rfl e10x7c_2).trans ((loop_turn (f := 3) (fun _ => rfl) rfl e10x7c_3).trans ((loop_turn (f := 2) (fun _ => rfl) rfl e10x7c_4).trans ((loop_turn (f := 1) (fun _ => rfl) rfl e10x7c_5).trans ((loop_turn (f := 0) (fun _ => rfl) rfl e10x7c_6).trans rfl))))))
theorem e10x7d (K : KS) : l_law3 [.unb, .unb, .ref 1, .int 6, .int 10, .int 7, .int 6, .unb, .unb] 1396 [(1392, .list [.int 6]), (1282, .list [.int 7]), (1281, .list [.int 6]), (1274, .list [.int 3]), (1145, .list [.int 7]), (1144, .list [.int 5]), (1137, .list [.int 2]), (1008, .list [.int 7]), (1007, .list [.int 4]), (1003, .list [.int 5]), (893, .list [.int 7]), (892, .list [.int 3]), (888, .list [.int 4]), (778, .list [.int 7]), (777, .list [.int 2]), (770, .list [.int 1]), (700, .list [.int 7]), (699, .list [.int 1]), (15, .code), (1, .list [.int 0, .int 0, .int 2, .int 6, .int 4, .int 6, .int 1, .int 0, .int 6, .int 5, .int 1, .int 2, .int 3, .int 2]), (0, .tab 0 (some 15))] K = K .nxt [.unb, .unb, .ref 1, .int 6, .int 10, .int 7, .int 6, .ref 1487, .ref 1489] 1491 [(1490, .tup [.ref 1487, .ref 1489]), (1489, .list []), (1487, .list [.int 103]), (1483, .list [.int 7]), (1481, .list [.int 721]), (1480, .list [.int 720]), (1392, .list [.int 6]), (1282, .list [.int 7]), (1281, .list [.int 6]), (1274, .list [.int 3]), (1145, .list [.int 7]), (1144, .list [.int 5]), (1137, .list [.int 2]), (1008, .list [.int 7]), (1007, .list [.int 4]), (1003, .list [.int 5]), (893, .list [.int 7]), (892, .list [.int 3]), (888, .list [.int 4]), (778, .list [.int 7]), (777, .list [.int 2]), (770, .list [.int 1]), (700, .list [.int 7]), (699, .list [.int 1]), (15, .code), (1, .list [.int 0, .int 0, .int 2, .int 6, .int 4, .int 6, .int 1, .int 0, .int 6, .int 5, .int 1, .int 2, .int 3, .int 2]), (0, .tab 0 (some 15))] := by kernel_rfl
theorem e10x7e (K : KS) : l_law4 [.unb, .unb, .ref 1, .int 6, .int 10, .int 7, .int 6, .ref 1487, .ref 1489] 1491 [(1490, .tup [.ref 1487, .ref 1489]), (1489, .list []), (1487, .list [.int 103]), (1483, .list [.int 7]), (1481, .list [.int 721]), (1480, .list [.int 720]), (1392, .list [.int 6]), (1282, .list [.int 7]), (1281, .list [.int 6]), (1274, .list [.int 3]), (1145, .list [.int 7]), (1144, .list [.int 5]), (1137, .list [.int 2]), (1008, .list [.int 7]), (1007, .list [.int 4]), (1003, .list [.int 5]), (893, .list [.int 7]), (892, .list [.int 3]), (888, .list [.int 4]), (778, .list [.int 7]), (777, .list [.int 2]), (770, .list [.int 1]), (700, .list [.int 7]), (699, .list [.int 1]), (15, .code), (1, .list [.int 0, .int 0, .int 2, .int 6, .int 4, .int 6, .int 1, .int 0, .int 6, .int 5, .int 1, .int 2, .int 3, .int 2]), (0, .tab 0 (some 15))] K = K (.ret (.bool true)) [.unb, .unb, .ref 1, .int 6, .int 10, .int 7, .int 6, .ref 1487, .ref 1489] 1494 [(1493, .list [.int 0, .int 0, .int 2, .int 6, .int 4, .int 6, .int 1]), (1491, .list []), (1490, .tup [.ref 1487, .ref 1489]), (1489, .list []), (1487, .list [.int 103]), (1483, .list [.int 7]), (1481, .list [.int 721]), (1480, .list [.int 720]), (1392, .list [.int 6]), (1282, .list [.int 7]), (1281, .list [.int 6]), (1274, .list [.int 3]), (1145, .list [.int 7]), (1144, .list [.int 5]), (1137, .list [.int 2]), (1008, .list [.int 7]), (1007, .list [.int 4]), (1003, .list [.int 5]), (893, .list [.int 7]), (892, .list [.int 3]), (888, .list [.int 4]), (778, .list [.int 7]), (777, .list [.int 2]), (770, .list [.int 1]), (700, .list [.int 7]), (699, .list [.int 1]), (15, .code), (1, .list [.int 0, .int 0, .int 2, .int 6, .int 4, .int 6, .int 1, .int 0, .int 6, .int 5, .int 1, .int 2, .int 3, .int 2]), (0, .tab 0 (some 15))] := by kernel_rfl
theorem e10x7 : c_law (loc0 10 7) 1 [(0, .tab 0 none)] finK = true := law_chain e10x7a e10x7b e10x7c e10x7d e10x7e rfl
theorem e11x7a (K : KS) : l_law0 [.unb, .unb, .unb, .unb, .int 11, .int 7, .unb, .unb, .unb] 1 [(0, .tab 0 none)] K = K .nxt [.unb, .unb, .ref 1, .unb, .int 11, .int 7, .unb, .unb, .unb] 2 [(1, .list [.int 0]), (0, .tab 0 none)] := by kernel_rfl
theorem e11x7b_1 (K : KS) : l_turn1 [.unb, .unb, .ref 1, .int 1, .int 11, .int 7, .unb, .unb, .unb] 2 [(1, .list [.int 0]), (0, .tab 0 none)] K = K .nxt [.unb, .unb, .ref 1, .int 1, .int 11, .int 7, .unb, .unb, .unb] 49 [(15, .code), (1, .list [.int 0, .int 0]), (0, .tab 0 (some 15))] := by kernel_rfl
theorem e11x7b_2 (K : KS) : l_turn1 [.unb, .unb, .ref 1, .int 2, .int 11, .int 7, .unb, .unb, .unb] 49 [(15, .code), (1, .list [.int 0, .int 0]), (0, .tab 0 (some 15))] K = K .nxt [.unb, .unb, .ref 1, .int 2, .int 11, .int 7, .unb, .unb, .unb] 103 [(15, .code), (1, .list [.int 0, .int 0, .int 2]), (0, .tab 0 (some 15))] := by kernel_rfl
theorem e11x7b_3 (K : KS) : l_turn1 [.unb, .unb, .ref 1, .int 3, .int 11, .int 7, .unb, .unb, .unb] 103 [(15, .code), (1, .list [.int 0, .int 0, .int 2]), (0, .tab 0 (some 15))] K = K .nxt [.unb, .unb, .ref 1, .int 3, .int 11, .int 7, .unb, .unb, .unb] 157 [(15, .code), (1, .list [.int 0, .int 0, .int 2, .int 6]), (0, .tab 0 (some 15))] := by kernel_rfl
theorem e11x7b_4 (K : KS) : l_turn1 [.unb, .unb, .ref 1, .int 4, .int 11, .int 7, .unb, .unb, .unb] 157 [(15, .code), (1, .list [.int 0, .int 0, .int 2, .int 6]), (0, .tab 0 (some 15))] K = K .nxt [.unb, .unb, .ref 1, .int 4, .int 11, .int 7, .unb, .unb, .unb] 215 [(15, .code), (1, .list [.int 0, .int 0, .int 2, .int 6, .int 4]), (0, .tab 0 (some 15))] := by kernel_rfl
theorem e11x7b_5 (K : KS) : l_turn1 [.unb, .unb, .ref 1, .int 5, .int 11, .int 7, .unb, .unb, .unb] 215 [(15, .code), (1, .list [.int 0, .int 0, .int 2, .int 6, .int 4]), (0, .tab 0 (some 15))] K = K .nxt [.unb, .unb, .ref 1, .int 5, .int 11, .int 7, .unb, .unb, .unb] 273 [(15, .code), (1, .list [.int 0, .int 0, .int 2, .int 6, .int 4, .int 6]), (0, .tab 0 (some 15))] := by kernel_rfl
theorem e11x7b_6 (K : KS) : l_turn1 [.unb, .unb, .ref 1, .int 6, .int 11, .int 7, .unb, .unb, .unb] 273 [(15, .code), (1, .list [.int 0, .int 0, .int 2, .int 6, .int 4, .int 6]), (0, .tab 0 (some 15))] K = K .nxt [.unb, .unb, .ref 1, .int 6, .int 11, .int 7, .unb, .unb, .unb] 331 [(15, .code), (1, .list [.int 0, .int 0, .int 2, .int 6, .int 4, .int 6, .int 1]), (0, .tab 0 (some 15))] := by kernel_rfl
theorem e11x7b_7 (K : KS) : l_turn1 [.unb, .unb, .ref 1, .int 7, .int 11, .int 7, .unb, .unb, .unb] 331 [(15, .code), (1, .list [.int 0, .int 0, .int 2, .int 6, .int 4, .int 6, .int 1]), (0, .tab 0 (some 15))] K = K .nxt [.unb, .unb, .ref 1, .int 7, .int 11, .int 7, .unb, .unb, .unb] 331 [(15, .code), (1, .list [.int 0, .int 0, .int 2, .int 6, .int 4, .int 6, .int 1, .int 0]), (0, .tab 0 (some 15))] := by kernel_rfl
theorem e11x7b_8 (K : KS) : l_turn1 [.unb, .unb, .ref 1, .int 8, .int 11, .int 7, .unb, .unb, .unb] 331 [(15, .code), (1, .list [.int 0, .int 0, .int 2, .int 6, .int 4, .int 6, .int 1, .int 0]), (0, .tab 0 (some 15))] K = K .nxt [.unb, .unb, .ref 1, .int 8, .int 11, .int 7, .unb, .unb, .unb] 393 [(15, .code), (1, .list [.int 0, .int 0, .int 2, .int 6, .int 4, .int 6, .int 1, .int 0, .int 6]), (0, .tab 0 (some 15))] := by kernel_rfl
theorem e11x7b_9 (K : KS) : l_turn1 [.unb, .unb, .ref 1, .int 9, .int 11, .int 7, .unb, .unb, .unb] 393 [(15, .code), (1, .list [.int 0, .int 0, .int 2, .int 6, .int 4, .int 6, .int 1, .int 0, .int 6]), (0, .tab 0 (some 15))] K = K .nxt [.unb, .unb, .ref 1, .int 9, .int 11, .int 7, .unb, .unb, .unb] 455 [(15, .code), (1, .list [.int 0, .int 0, .int 2, .int 6, .int 4, .int 6, .int 1, .int 0, .int 6, .int 5]), (0, .tab 0 (some 15))] := by kernel_rfl
theorem e11x7b_10 (K : KS) : l_turn1 [.unb, .unb, .ref 1, .int 10, .int 11, .int 7, .unb, .unb, .unb] 455 [(15, .code), (1, .list [.int 0, .int 0, .int 2, .int 6, .int 4, .int 6, .int 1, .int 0, .int 6, .int 5]), (0, .tab 0 (some 15))] K = K .nxt [.unb, .unb, .ref 1, .int 10, .int 11, .int 7, .unb, .unb, .unb] 513 [(15, .code), (1, .list [.int 0, .int 0, .int 2, .int 6, .int 4, .int 6, .int 1, .int 0, .int 6, .int 5, .int 1]), (0, .tab 0 (some 15))] := by kernel_rfl
theorem e11x7b_11 (K : KS) : l_turn1 [.unb, .unb, .ref 1, .int 11, .int 11, .int 7, .unb, .unb, .unb] 513 [(15, .code), (1, .list [.int 0, .int 0, .int 2, .int 6, .int 4, .int 6, .int 1, .int 0, .int 6, .int 5, .int 1]), (0, .tab 0 (some 15))] K = K .nxt [.unb, .unb, .ref 1, .int 11, .int 11, .int 7, .unb, .unb, .unb] 575 [(15, .code), (1, .list [.int 0, .int 0, .int 2, .int 6, .int 4, .int 6, .int 1, .int 0, .int 6, .int 5, .int 1, .int 2]), (0, .tab 0 (some 15))] := by kernel_rfl
theorem e11x7b_12 (K : KS) : l_turn1 [.unb, .unb, .ref 1, .int 12, .int 11, .int 7, .unb, .unb, .unb] 575 [(15, .code), (1, .list [.int 0, .int 0, .int 2, .int 6, .int 4, .int 6, .int 1, .int 0, .int 6, .int 5, .int 1, .int 2]), (0, .tab 0 (some 15))] K = K .nxt [.unb, .unb, .ref 1, .int 12, .int 11, .int 7, .unb, .unb, .unb] 637 [(15, .code), (1, .list [.int 0, .int 0, .int 2, .int 6, .int 4, .int 6, .int 1, .int 0, .int 6, .int 5, .int 1, .int 2, .int 3]), (0, .tab 0 (some 15))] := by kernel_rfl
theorem e11x7b_13 (K : KS) : l_turn1 [.unb, .unb, .ref 1, .int 13, .int 11, .int 7, .unb, .unb, .unb] 637 [(15, .code), (1, .list [.int 0, .int 0, .int 2, .int 6, .int 4, .int 6, .int 1, .int 0, .int 6, .int 5, .int 1, .int 2, .int 3]), (0, .tab 0 (some 15))] K = K .nxt [.unb, .unb, .ref 1, .int 13, .int 11, .int 7, .unb, .unb, .unb] 699 [(15, .code), (1, .list [.int 0, .int 0, .int 2, .int 6, .int 4, .int 6, .int 1, .int 0, .int 6, .int 5, .int 1, .int 2, .int 3, .int 2]), (0, .tab 0 (some 15))] := by kernel_rfl
theorem e11x7b (K : KS) : l_law1 [.unb, .unb, .ref 1, .unb, .int 11, .int 7, .unb, .unb, .unb] 2 [(1, .list [.int 0]), (0, .tab 0 none)] K = K .nxt [.unb, .unb, .ref 1, .int 13, .int 11, .int 7, .unb, .unb, .unb] 699 [(15, .code), (1, .list [.int 0, .int 0, .int 2, .int 6, .int 4, .int 6, .int 1, .int 0, .int 6, .int 5, .int 1, .int 2, .int 3, .int 2]), (0, .tab 0 (some 15))] :=
  (for_start (hi := 14) (c := 13) (fun _ => by kernel_rfl) (by kernel_rfl) (by kernel_rfl)).trans ((loop_turn (f := 12) (fun _ => rfl) rfl e11x7b_1).trans ((loop_turn (f := 11) (fun _ => rfl) rfl e11x7b_2).trans ((loop_turn (f := 10) (fun _ => rfl) rfl e11x7b_3).trans ((loop_turn (f := 9) (fun _ => rfl) rfl e11x7b_4).trans ((loop_turn (f := 8) (fun _ => rfl) rfl e11x7b_5).trans ((loop_turn (f := 7) (fun _ => rfl) rfl e11x7b_6).trans ((loop_turn (f := 6) (fun _ => rfl) rfl e11x7b_7).trans ((loop_turn (f := 5) (fun _ => rfl) rfl e11x7b_8).trans ((loop_turn (f := 4) (fun _ => rfl) rfl e11x7b_9).trans ((loop_turn (f := 3) (fun _ => rfl) rfl e11x7b_10).trans ((loop_turn (f := 2) (fun _ => rfl) rfl e11x7b_11).trans ((loop_turn (f := 1) (fun _ => rfl) rfl e11x7b_12).trans ((loop_turn (f := 0) (fun _ => rfl) rfl e11x7b_13).trans rfl)))))))))))))
theorem e11x7c_1 (K : KS) : l_turn2 [.unb, .unb, .ref 1, .int 1, .int 11, .int 7, .unb, .unb, .unb] 699 [(15, .code), (1, .list [.int 0, .int 0, .int 2, .int 6, .int 4, .int 6, .int 1, .int 0, .int 6, .int 5, .int 1, .int 2, .int 3, .int 2]), (0, .tab 0 (some 15))] K = K .nxt [.unb, .unb, .ref 1, .int 1, .int 11, .int 7, .int 1, .unb, .unb] 777 [(770, .list [.int 1]), (700, .list [.int 7]), (699, .list [.int 1]), (15, .code), (1, .list [.int 0, .int 0, .int 2, .int 6, .int 4, .int 6, .int 1, .int 0, .int 6, .int 5, .int 1, .int 2, .int 3, .int 2]), (0, .tab 0 (some 15))] := by kernel_rfl
theorem e11x7c_2 (K : KS) : l_turn2 [.unb, .unb, .ref 1, .int 2, .int 11, .int 7, .int 1, .unb, .unb] 777 [(770, .list [.int 1]), (700, .list [.int 7]), (699, .list [.int 1]), (15, .code), (1, .list [.int 0, .int 0, .int 2, .int 6, .int 4, .int 6, .int 1, .int 0, .int 6, .int 5, .int 1, .int 2, .int 3, .int 2]), (0, .tab 0 (some 15))] K = K .nxt [.unb, .unb, .ref 1, .int 2, .int 11, .int 7, .int 4, .unb, .unb] 892 [(888, .list [.int 4]), (778, .list [.int 7]), (777, .list [.int 2]), (770, .list [.int 1]), (700, .list [.int 7]), (699, .list [.int 1]), (15, .code), (1, .list [.int 0, .int 0, .int 2, .int 6, .int 4, .int 6, .int 1, .int 0, .int 6, .int 5, .int 1, .int 2, .int 3, .int 2]), (0, .tab 0 (some 15))] := by kernel_rfl
theorem e11x7c_3 (K : KS) : l_turn2 [.unb, .unb, .ref 1, .int 3, .int 11, .int 7, .int 4, .unb, .unb] 892 [(888, .list [.int 4]), (778, .list [.int 7]), (777, .list [.int 2]), (770, .list [.int 1]), (700, .list [.int 7]), (699, .list [.int 1]), (15, .code), (1, .list [.int 0, .int 0, .int 2, .int 6, .int 4, .int 6, .int 1, .int 0, .int 6, .int 5, .int 1, .int 2, .int 3, .int 2]), (0, .tab 0 (some 15))] K = K .nxt [.unb, .unb, .ref 1, .int 3, .int 11, .int 7, .int 5, .unb, .unb] 1007 [(1003, .list [.int 5]), (893, .list [.int 7]), (892, .list [.int 3]), (888, .list [.int 4]), (778, .list [.int 7]), (777, .list [.int 2]), (770, .list [.int 1]), (700, .list [.int 7]), (699, .list [.int 1]), (15, .code), (1, .list [.int 0, .int 0, .int 2, .int 6, .int 4, .int 6, .int 1, .int 0, .int 6, .int 5, .int 1, .int 2, .int 3, .int 2]), (0, .tab 0 (some 15))] := by kernel_rfl
theorem e11x7c_4 (K : KS) : l_turn2 [.unb, .unb, .ref 1, .int 4, .int 11, .int 7, .int 5, .unb, .unb] 1007 [(1003, .list [.int 5]), (893, .list [.int 7]), (892, .list [.int 3]), (888, .list [.int 4]), (778, .list [.int 7]), (777, .list [.int 2]), (770, .list [.int 1]), (700, .list [.int 7]), (699, .list [.int 1]), (15, .code), (1, .list [.int 0, .int 0, .int 2, .int 6, .int 4, .int 6, .int 1, .int 0, .int 6, .int 5, .int 1, .int 2, .int 3, .int 2]), (0, .tab 0 (some 15))] K = K .nxt [.unb, .unb, .ref 1, .int 4, .int 11, .int 7, .int 2, .unb, .unb] 1144 [(1137, .list [.int 2]), (1008, .list [.int 7]), (1007, .list [.int 4]), (1003, .list [.int 5]), (893, .list [.int 7]), (892, .list [.int 3]), (888, .list [.int 4]), (778, .list [.int 7]), (777, .list [.int 2]), (770, .list [.int 1]), (700, .list [.int 7]), (699, .list [.int 1]), (15, .code), (1, .list [.int 0, .int 0, .int 2, .int 6, .int 4, .int 6, .int 1, .int 0, .int 6, .int 5, .int 1, .int 2, .int 3, .int 2]), (0, .tab 0 (some 15))] := by kernel_rfl
theorem e11x7c_5 (K : KS) : l_turn2 [.unb, .unb, .ref 1, .int 5, .int 11, .int 7, .int 2, .unb, .unb] 1144 [(1137, .list [.int 2]), (1008, .list [.int 7]), (1007, .list [.int 4]), (1003, .list [.int 5]), (893, .list [.int 7]), (892, .list [.int 3]), (888, .list [.int 4]), (778, .list [.int 7]), (777, .list [.int 2]), (770, .list [.int 1]), (700, .list [.int 7]), (699, .list [.int 1]), (15, .code), (1, .list [.int 0, .int 0, .int 2, .int 6, .int 4, .int 6, .int 1, .int 0, .int 6, .int 5, .int 1, .int 2, .int 3, .int 2]), (0, .tab 0 (some 15))] K = K .nxt [.unb, .unb, .ref 1, .int 5, .int 11, .int 7, .int 3, .unb, .unb] 1281 [(1274, .list [.int 3]), (1145, .list [.int 7]), (1144, .list [.int 5]), (1137, .list [.int 2]), (1008, .list [.int 7]), (1007, .list [.int 4]), (1003, .list [.int 5]), (893, .list [.int 7]), (892, .list [.int 3]), (888, .list [.int 4]), (778, .list [.int 7]), (777, .list [.int 2]), (770, .list [.int 1]), (700, .list [.int 7]), (699, .list [.int 1]), (15, .code), (1, .list [.int 0, .int 0, .int 2, .int 6, .int 4, .int 6, .int 1, .int 0, .int 6, .int 5, .int 1, .int 2, .int 3, .int 2]), (0, .tab 0 (some 15))] := by kernel_rfl
theorem e11x7c_6 (K : KS) : l_turn2 [.unb, .unb, .ref 1, .int 6, .int 11, .int 7, .int 3, .unb, .unb] 1281 [(1274, .list [.int 3]), (1145, .list [.int 7]), (1144, .list [.int 5]), (1137, .list [.int 2]), (1008, .list [.int 7]), (1007, .list [.int 4]), (1003, .list [.int 5]), (893, .list [.int 7]), (892, .list [.int 3]), (888, .list [.int 4]), (778, .list [.int 7]), (777, .list [.int 2]), (770, .list [.int 1]), (700, .list [.int 7]), (699, .list [.int 1]), (15, .code), (1, .list [.int 0, .int 0, .int 2, .int 6, .int 4, .int 6, .int 1, .int 0, .int 6, .int 5, .int 1, .int 2, .int 3, .int 2]), (0, .tab 0 (some 15))] K = K .nxt [.unb, .unb, .ref 1, .int 6, .int 11, .int 7, .int 6, .unb, .unb] 1396 [(1392, .list [.int 6]), (1282, .list [.int 7]), (1281, .list [.int 6]), (1274, .list [.int 3]), (1145, .list [.int 7]), (1144, .list [.int 5]), (1137, .list [.int 2]), (1008, .list [.int 7]), (1007, .list [.int 4]), (1003, .list [.int 5]), (893, .list [.int 7]), (892, .list [.int 3]), (888, .list [.int 4]), (778, .list [.int 7]), (777, .list [.int 2]), (770, .list [.int 1]), (700, .list [.int 7]), (699, .list [.int 1]), (15, .code), (1, .list [.int 0, .int 0, .int 2, .int 6, .int 4, .int 6, .int 1, .int 0, .int 6, .int 5, .int 1, .int 2, .int 3, .int 2]), (0, .tab 0 (some 15))] := by kernel_rfl
theorem e11x7c (K : KS) : l_law2 [.unb, .unb, .ref 1, .int 13, .int 11, .int 7, .unb, .unb, .unb] 699 [(15, .code), (1, .list [.int 0, .int 0, .int 2, .int 6, .int 4, .int 6, .int 1, .int 0, .int 6, .int 5, .int 1, .int 2, .int 3, .int 2]), (0, .tab 0 (some 15))] K = K .nxt [.unb, .unb, .ref 1, .int 6, .int 11, .int 7, .int 6, .unb, .unb] 1396 [(1392, .list [.int 6]), (1282, .list [.int 7]), (1281, .list [.int 6]), (1274, .list [.int 3]), (1145, .list [.int 7]), (1144, .list [.int 5]), (1137, .list [.int 2]), (1008, .list [.int 7]), (1007, .list [.int 4]), (1003, .list [.int 5]), (893, .list [.int 7]), (892, .list [.int 3]), (888, .list [.int 4]), (778, .list [.int 7]), (777, .list [.int 2]), (770, .list [.int 1]), (700, .list [.int 7]), (699, .list [.int 1]), (15, .code), (1, .list [.int 0, .int 0, .int 2, .int 6, .int 4, .int 6, .int 1, .int 0, .int 6, .int 5, .int 1, .int 2, .int 3, .int 2]), (0, .tab 0 (some 15))] :=
  (for_start (hi := 7) (c := 6) (fun _ => by kernel_rfl) (by kernel_rfl) (by kernel_rfl)).trans ((loop_turn (f := 5) (fun _ => rfl) rfl e11x7c_1).trans ((loop_turn (f := 4) (fun _ => rfl) rfl e11x7c_2).trans ((loop_turn (f := 3) (fun _ => rfl) rfl e11x7c_3).trans ((loop_turn (f := 2) (fun _ => rfl) rfl e11x7c_4).trans ((loop_turn (f := 1) (fun _ => rfl) rfl e11x7c_5).trans ((loop_turn (f := 0) (fun _ => rfl) rfl e11x7c_6).trans rfl))))))
theorem e11x7d (K : KS) : l_law3 [.unb, .unb, .ref 1, .int 6, .int 11, .int 7, .int 6, .unb, .unb] 1396 [(1392, .list [.int 6]), (1282, .list [.int 7]), (1281, .list [.int 6]), (1274, .list [.int 3]), (1145, .list [.int 7]), (1144, .list [.int 5]), (1137, .list [.int 2]), (1008, .list [.int 7]), (1007, .list [.int 4]), (1003, .list [.int 5]), (893, .list [.int 7]), (892, .list [.int 3]), (888, .list [.int 4]), (778, .list [.int 7]), (777, .list [.int 2]), (770, .list [.int 1]), (700, .list [.int 7]), (699, .list [.int 1]), (15, .code), (1, .list [.int 0, .int 0, .int 2, .int 6, .int 4, .int 6, .int 1, .int 0, .int 6, .int 5, .int 1, .int 2, .int 3, .int 2]), (0, .tab 0 (some 15))] K = K .nxt [.unb, .unb, .ref 1, .int 6, .int 11, .int 7, .int 6, .ref 1487, .ref 1489] 1491 [(1490, .tup [.ref 1487, .ref 1489]), (1489, .list []), (1487, .list [.int 103]), (1483, .list [.int 7]), (1481, .list [.int 721]), (1480, .list [.int 720]), (1392, .list [.int 6]), (1282, .list [.int 7]), (1281, .list [.int 6]), (1274, .list [.int 3]), (1145, .list [.int 7]), (1144, .list [.int 5]), (1137, .list [.int 2]), (1008, .list [.int 7]), (1007, .list [.int 4]), (1003, .list [.int 5]), (893, .list [.int 7]), (892, .list [.int 3]), (888, .list [.int 4]), (778, .list [.int 7]), (777, .list [.int 2]), (770, .list [.int 1]), (700, .list [.int 7]), (699, .list [.int 1]), (15, .code), (1, .list [.int 0, .int 0, .int 2, .int 6, .int 4, .int 6, .int 1, .int 0, .int 6, .int 5, .int 1, .int 2, .int 3, .int 2]), (0, .tab 0 (some 15))] := by kernel_rfl
theorem e11x7e (K : KS) : l_law4 [.unb, .unb, .ref 1, .int 6, .int 11, .int 7, .int 6, .ref 1487, .ref 1489] 1491 [(1490, .tup [.ref 1487, .ref 1489]), (1489, .list []), (1487, .list [.int 103]), (1483, .list [.int 7]), (1481, .list [.int 721]), (1480, .list [.int 720]), (1392, .list [.int 6]), (1282, .list [.int 7]), (1281, .list [.int 6]), (1274, .list [.int 3]), (1145, .list [.int 7]), (1144, .list [.int 5]), (1137, .list [.int 2]), (1008, .list [.int 7]), (1007, .list [.int 4]), (1003, .list [.int 5]), (893, .list [.int 7]), (892, .list [.int 3]), (888, .list [.int 4]), (778, .list [.int 7]), (777, .list [.int 2]), (770, .list [.int 1]), (700, .list [.int 7]), (699, .list [.int 1]), (15, .code), (1, .list [.int 0, .int 0, .int 2, .int 6, .int 4, .int 6, .int 1, .int 0, .int 6, .int 5, .int 1, .int 2, .int 3, .int 2]), (0, .tab 0 (some 15))] K = K (.ret (.bool true)) [.unb, .unb, .ref 1, .int 6, .int 11, .int 7, .int 6, .ref 1487, .ref 1489] 1494 [(1493, .list [.int 0, .int 0, .int 2, .int 6, .int 4, .int 6, .int 1]), (1491, .list []), (1490, .tup [.ref 1487, .ref 1489]), (1489, .list []), (1487, .list [.int 103]), (1483, .list [.int 7]), (1481, .list [.int 721]), (1480, .list [.int 720]), (1392, .list [.int 6]), (1282, .list [.int 7]), (1281, .list [.int 6]), (1274, .list [.int 3]), (1145, .list [.int 7]), (1144, .list [.int 5]), (1137, .list [.int 2]), (1008, .list [.int 7]), (1007, .list [.int 4]), (1003, .list [.int 5]), (893, .list [.int 7]), (892, .list [.int 3]), (888, .list [.int 4]), (778, .list [.int 7]), (777, .list [.int 2]), (770, .list [.int 1]), (700, .list [.int 7]), (699, .list [.int 1]), (15, .code), (1, .list [.int 0, .int 0, .int 2, .int 6, .int 4, .int 6, .int 1, .int 0, .int 6, .int 5, .int 1, .int 2, .int 3, .int 2]), (0, .tab 0 (some 15))] := by kernel_rfl
theorem e11x7 : c_law (loc0 11 7) 1 [(0, .tab 0 none)] finK = true := law_chain e11x7a e11x7b e11x7c e11x7d e11x7e rfl
theorem e12x7a (K : KS) : l_law0 [.unb, .unb, .unb, .unb, .int 12, .int 7, .unb, .unb, .unb] 1 [(0, .tab 0 none)] K = K .nxt [.unb, .unb, .ref 1, .unb, .int 12, .int 7, .unb, .unb, .unb] 2 [(1, .list [.int 0]), (0, .tab 0 none)] := by kernel_rfl
theorem e12x7b_1 (K : KS) : l_turn1 [.unb, .unb, .ref 1, .int 1, .int 12, .int 7, .unb, .unb, .unb] 2 [(1, .list [.int 0]), (0, .tab 0 none)] K = K .nxt [.unb, .unb, .ref 1, .int 1, .int 12, .int 7, .unb, .unb, .unb] 49 [(15, .code), (1, .list [.int 0, .int 0]), (0, .tab 0 (some 15))] := by kernel_rfl
theorem e12x7b_2 (K : KS) : l_turn1 [.unb, .unb, .ref 1, .int 2, .int 12, .int 7, .unb, .unb, .unb] 49 [(15, .code), (1, .list [.int 0, .int 0]), (0, .tab 0 (some 15))] K = K .nxt [.unb, .unb, .ref 1, .int 2, .int 12, .int 7, .unb, .unb, .unb] 103 [(15, .code), (1, .list [.int 0, .int 0, .int 2]), (0, .tab 0 (some 15))] := by kernel_rfl
theorem e12x7b_3 (K : KS) : l_turn1 [.unb, .unb, .ref 1, .int 3, .int 12, .int 7, .unb, .unb, .unb] 103 [(15, .code), (1, .list [.int 0, .int 0, .int 2]), (0, .tab 0 (some 15))] K = K .nxt [.unb, .unb, .ref 1, .int 3, .int 12, .int 7, .unb, .unb, .unb] 157 [(15, .code), (1, .list [.int 0, .int 0, .int 2, .int 6]), (0, .tab 0 (some 15))] := by kernel_rfl
theorem e12x7b_4 (K : KS) : l_turn1 [.unb, .unb, .ref 1, .int 4, .int 12, .int 7, .unb, .unb, .unb] 157 [(15, .code), (1, .list [.int 0, .int 0, .int 2, .int 6]), (0, .tab 0 (some 15))] K = K .nxt [.unb, .unb, .ref 1, .int 4, .int 12, .int 7, .unb, .unb, .unb] 215 [(15, .code), (1, .list [.int 0, .int 0, .int 2, .int 6, .int 4]), (0, .tab 0 (some 15))] := by kernel_rfl
theorem e12x7b_5 (K : KS) : l_turn1 [.unb, .unb, .ref 1, .int 5, .int 12, .int 7, .unb, .unb, .unb] 215 [(15, .code), (1, .list [.int 0, .int 0, .int 2, .int 6, .int 4]), (0, .tab 0 (some 15))] K = K .nxt [.unb, .unb, .ref 1, .int 5, .int 12, .int 7, .unb, .unb, .unb] 273 [(15, .code), (1, .list [.int 0, .int 0, .int 2, .int 6, .int 4, .int 6]), (0, .tab 0 (some 15))] := by kernel_rfl
theorem e12x7b_6 (K : KS) : l_turn1 [.unb, .unb, .ref 1, .int 6, .int 12, .int 7, .unb, .unb, .unb] 273 [(15, .code), (1, .list [.int 0, .int 0, .int 2, .int 6, .int 4, .int 6]), (0, .tab 0 (some 15))] K = K .nxt [.unb, .unb, .ref 1, .int 6, .int 12, .int 7, .unb, .unb, .unb] 331 [(15, .code), (1, .list [.int 0, .int 0, .int 2, .int 6, .int 4, .int 6, .int 1]), (0, .tab 0 (some 15))] := by kernel_rfl
theorem e12x7b_7 (K : KS) : l_turn1 [.unb, .unb, .ref 1, .int 7, .int 12, .int 7, .unb, .unb, .unb] 331 [(15, .code), (1, .list [.int 0, .int 0, .int 2, .int 6, .int 4, .int 6, .int 1]), (0, .tab 0 (some 15))] K = K .nxt [.unb, .unb, .ref 1, .int 7, .int 12, .int 7, .unb, .unb, .unb] 331 [(15, .code), (1, .list [.int 0, .int 0, .int 2, .int 6, .int 4, .int 6, .int 1, .int 0]), (0, .tab 0 (some 15))] := by kernel_rfl
theorem e12x7b_8 (K : KS) : l_turn1 [.unb, .unb, .ref 1, .int 8, .int 12, .int 7, .unb, .unb, .unb] 331 [(15, .code), (1, .list [.int 0, .int 0, .int 2, .int 6, .int 4, .int 6, .int 1, .int 0]), (0, .tab 0 (some 15))] K = K .nxt [.unb, .unb, .ref 1, .int 8, .int 12, .int 7, .unb, .unb, .unb] 393 [(15, .code), (1, .list [.int 0, .int 0, .int 2, .int 6, .int 4, .int 6, .int 1, .int 0, .int 6]), (0, .tab 0 (some 15))] := by kernel_rfl
theorem e12x7b_9 (K : KS) : l_turn1 [.unb, .unb, .ref 1, .int 9, .int 12, .int 7, .unb, .unb, .unb] 393 [(15, .code), (1, .list [.int 0, .int 0, .int 2, .int 6, .int 4, .int 6, .int 1, .int 0, .int 6]), (0, .tab 0 (some 15))] K = K .nxt [.unb, .unb, .ref 1, .int 9, .int 12, .int 7, .unb, .unb, .unb] 455 [(15, .code), (1, .list [.int 0, .int 0, .int 2, .int 6, .int 4, .int 6, .int 1, .int 0, .int 6, .int 5]), (0, .tab 0 (some 15))] := by kernel_rfl
theorem e12x7b_10 (K : KS) : l_turn1 [.unb, .unb, .ref 1, .int 10, .int 12, .int 7, .unb, .unb, .unb] 455 [(15, .code), (1, .list [.int 0, .int 0, .int 2, .int 6, .int 4, .int 6, .int 1, .int 0, .int 6, .int 5]), (0, .tab 0 (some 15))] K = K .nxt [.unb, .unb, .ref 1, .int 10, .int 12, .int 7, .unb, .unb, .unb] 513 [(15, .code), (1, .list [.int 0, .int 0, .int 2, .int 6, .int 4, .int 6, .int 1, .int 0, .int 6, .int 5, .int 1]), (0, .tab 0 (some 15))] := by kernel_rfl
theorem e12x7b_11 (K : KS) : l_turn1 [.unb, .unb, .ref 1, .int 11, .int 12, .int 7, .unb, .unb, .unb] 513 [(15, .code), (1, .list [.int 0, .int 0, .int 2, .int 6, .int 4, .int 6, .int 1, .int 0, .int 6, .int 5, .int 1]), (0, .tab 0 (some 15))] K = K .nxt [.unb, .unb, .ref 1, .int 11, .int 12, .int 7, .unb, .unb, .unb] 575 [(15, .code), (1, .list [.int 0, .int 0, .int 2, .int 6, .int 4, .int 6, .int 1, .int 0, .int 6, .int 5, .int 1, .int 2]), (0, .tab 0 (some 15))] := by kernel_rfl
theorem e12x7b_12 (K : KS) : l_turn1 [.unb, .unb, .ref 1, .int 12, .int 12, .int 7, .unb, .unb, .unb] 575 [(15, .code), (1, .list [.int 0, .int 0, .int 2, .int 6, .int 4, .int 6, .int 1, .int 0, .int 6, .int 5, .int 1, .int 2]), (0, .tab 0 (some 15))] K = K .nxt [.unb, .unb, .ref 1, .int 12, .int 12, .int 7, .unb, .unb, .unb] 637 [(15, .code), (1, .list [.int 0, .int 0, .int 2, .int 6, .int 4, .int 6, .int 1, .int 0, .int 6, .int 5, .int 1, .int 2, .int 3]), (0, .tab 0 (some 15))] := by kernel_rfl
theorem e12x7b_13 (K : KS) : l_turn1 [.unb, .unb, .ref 1, .int 13, .int 12, .int 7, .unb, .unb, .unb] 637 [(15, .code), (1, .list [.int 0, .int 0, .int 2, .int 6, .int 4, .int 6, .int 1, .int 0, .int 6, .int 5, .int 1, .int 2, .int 3]), (0, .tab 0 (some 15))] K = K .nxt [.unb, .unb, .ref 1, .int 13, .int 12, .int 7, .unb, .unb, .unb] 699 [(15, .code), (1, .list [.int 0, .int 0, .int 2, .int 6, .int 4, .int 6, .int 1, .int 0, .int 6, .int 5, .int 1, .int 2, .int 3, .int 2]), (0, .tab 0 (some 15))] := by kernel_rfl
theorem e12x7b (K : KS) : l_law1 [.unb, .unb, .ref 1, .unb, .int 12, .int 7, .unb, .unb, .unb] 2 [(1, .list [.int 0]), (0, .tab 0 none)] K = K .nxt [.unb, .unb, .ref 1, .int 13, .int 12, .int 7, .unb, .unb, .unb] 699 [(15, .code), (1, .list [.int 0, .int 0, .int 2, .int 6, .int 4, .int 6, .int 1, .int 0, .int 6, .int 5, .int 1, .int 2, .int 3, .int 2]), (0, .tab 0 (some 15))] :=
  (for_start (hi := 14) (c := 13) (fun _ => by kernel_rfl) (by kernel_rfl) (by kernel_rfl)).trans ((loop_turn (f := 12) (fun _ => rfl) rfl e12x7b_1).trans ((loop_turn (f := 11) (fun _ => rfl) rfl e12x7b_2).trans ((loop_turn (f := 10) (fun _ => rfl) rfl e12x7b_3).trans ((loop_turn (f := 9) (fun _ => rfl) rfl e12x7b_4).trans ((loop_turn (f := 8) (fun _ => rfl) rfl e12x7b_5).trans ((loop_turn (f := 7) (fun _ => rfl) rfl e12x7b_6).trans ((loop_turn (f := 6) (fun _ => rfl) rfl e12x7b_7).trans ((loop_turn (f := 5) (fun _ => rfl) rfl e12x7b_8).trans ((loop_turn (f := 4) (fun _ => rfl) rfl e12x7b_9).trans ((loop_turn (f := 3) (fun _ => rfl) rfl e12x7b_10).trans ((loop_turn (f := 2) (fun _ => rfl) rfl e12x7b_11).trans ((loop_turn (f := 1) (fun _ => rfl) rfl e12x7b_12).trans ((loop_turn (f := 0) (fun _ => rfl) rfl e12x7b_13).trans rfl)))))))))))))
theorem e12x7c_1 (K : KS) : l_turn2 [.unb, .unb, .ref 1, .int 1, .int 12, .int 7, .unb, .unb, .unb] 699 [(15, .code), (1, .list [.int 0, .int 0, .int 2, .int 6, .int 4, .int 6, .int 1, .int 0, .int 6, .int 5, .int 1, .int 2, .int 3, .int 2]), (0, .tab 0 (some 15))] K = K .nxt [.unb, .unb, .ref 1, .int 1, .int 12, .int 7, .int 1, .unb, .unb] 777 [(770, .list [.int 1]), (700, .list [.int 7]), (699, .list [.int 1]), (15, .code), (1, .list [.int 0, .int 0, .int 2, .int 6, .int 4, .int 6, .int 1, .int 0, .int 6, .int 5, .int 1, .int 2, .int 3, .int 2]), (0, .tab 0 (some 15))] := by kernel_rfl
theorem e12x7c_2 (K : KS) : l_turn2 [.unb, .unb, .ref 1, .int 2, .int 12, .int 7, .int 1, .unb, .unb] 777 [(770, .list [.int 1]), (700, .list [.int 7]), (699, .list [.int 1]), (15, .code), (1, .list [.int 0, .int 0, .int 2, .int 6, .int 4, .int 6, .int 1, .int 0, .int 6, .int 5, .int 1, .int 2, .int 3, .int 2]), (0, .tab 0 (some 15))] K = K .nxt [.unb, .unb, .ref 1, .int 2, .int 12, .int 7, .int 4, .unb, .unb] 892 [(888, .list [.int 4]), (778, .list [.int 7]), (777, .list [.int 2]), (770, .list [.int 1]), (700, .list [.int 7]), (699, .list [.int 1]), (15, .code), (1, .list [.int 0, .int 0, .int 2, .int 6, .int 4, .int 6, .int 1, .int 0, .int 6, .int 5, .int 1, .int 2, .int 3, .int 2]), (0, .tab 0 (some 15))] := by kernel_rfl
theorem e12x7c_3 (K : KS) : l_turn2 [.unb, .unb, .ref 1, .int 3, .int 12, .int 7, .int 4, .unb, .unb] 892 [(888, .list [.int 4]), (778, .list [.int 7]), (777, .list [.int 2]), (770, .list [.int 1]), (700, .list [.int 7]), (699, .list [.int 1]), (15, .code), (1, .list [.int 0, .int 0, .int 2, .int 6, .int 4, .int 6, .int 1, .int 0, .int 6, .int 5, .int 1, .int 2, .int 3, .int 2]), (0, .tab 0 (some 15))] K = K .nxt [.unb, .unb, .ref 1, .int 3, .int 12, .int 7, .int 5, .unb, .unb] 1007 [(1003, .list [.int 5]), (893, .list [.int 7]), (892, .list [.int 3]), (888, .list [.int 4]), (778, .list [.int 7]), (777, .list [.int 2]), (770, .list [.int 1]), (700, .list [.int 7]), (699, .list [.int 1]), (15, .code), (1, .list [.int 0, .int 0, .int 2, .int 6, .int 4, .int 6, .int 1, .int 0, .int 6, .int 5, .int 1, .int 2, .int 3, .int 2]), (0, .tab 0 (some 15))] := by kernel_rfl
theorem e12x7c_4 (K : KS) : l_turn2 [.unb, .unb, .ref 1, .int 4, .int 12, .int 7, .int 5, .unb, .unb] 1007 [(1003, .list [.int 5]), (893, .list [.int 7]), (892, .list [.int 3]), (888, .list [.int 4]), (778, .list [.int 7]), (777, .list [.int 2]), (770, .list [.int 1]), (700, .list [.int 7]), (699, .list [.int 1]), (15, .code), (1, .list [.int 0, .int 0, .int 2, .int 6, .int 4, .int 6, .int 1, .int 0, .int 6, .int 5, .int 1, .int 2, .int 3, .int 2]), (0, .tab 0 (some 15))] K = K .nxt [.unb, .unb, .ref 1, .int 4, .int 12, .int 7, .int 2, .unb, .unb] 1144 [(1137, .list [.int 2]), (1008, .list [.int 7]), (1007, .list [.int 4]), (1003, .list [.int 5]), (893, .list [.int 7]), (892, .list [.int 3]), (888, .list [.int 4]), (778, .list [.int 7]), (777, .list [.int 2]), (770, .list [.int 1]), (700, .list [.int 7]), (699, .list [.int 1]), (15, .code), (1, .list [.int 0, .int 0, .int 2, .int 6, .int 4, .int 6, .int 1, .int 0, .int 6, .int 5, .int 1, .int 2, .int 3, .int 2]), (0, .tab 0 (some 15))] := by kernel_rfl
theorem e12x7c_5 (K : KS) : l_turn2 [.unb, .unb, .ref 1, .int 5, .int 12, .int 7, .int 2, .unb, .unb] 1144 [(1137, .list [.int 2]), (1008, .list [.int 7]), (1007, .list [.int 4]), (1003, .list [.int 5]), (893, .list [.int 7]), (892, .list [.int 3]), (888, .list [.int 4]), (778, .list [.int 7]), (777, .list [.int 2]), (770, .list [.int 1]), (700, .list [.int 7]), (699, .list [.int 1]), (15, .code), (1, .list [.int 0, .int 0, .int 2, .int 6, .int 4, .int 6, .int 1, .int 0, .int 6, .int 5, .int 1, .int 2, .int 3, .int 2]), (0, .tab 0 (some 15))] K = K .nxt [.unb, .unb, .ref 1, .int 5, .int 12, .int 7, .int 3, .unb, .unb] 1281 [(1274, .list [.int 3]), (1145, .list [.int 7]), (1144, .list [.int 5]), (1137, .list [.int 2]), (1008, .list [.int 7]), (1007, .list [.int 4]), (1003, .list [.int 5]), (893, .list [.int 7]), (892, .list [.int 3]), (888, .list [.int 4]), (778, .list [.int 7]), (777, .list [.int 2]), (770, .list [.int 1]), (700, .list [.int 7]), (699, .list [.int 1]), (15, .code), (1, .list [.int 0, .int 0, .int 2, .int 6, .int 4, .int 6, .int 1, .int 0, .int 6, .int 5, .int 1, .int 2, .int 3, .int 2]), (0, .tab 0 (some 15))] := by kernel_rfl
theorem e12x7c_6 (K : KS) : l_turn2 [.unb, .unb, .ref 1, .int 6, .int 12, .int 7, .int 3, .unb, .unb] 1281 [(1274, .list [.int 3]), (1145, .list [.int 7]), (1144, .list [.int 5]), (1137, .list [.int 2]), (1008, .list [.int 7]), (1007, .list [.int 4]), (1003, .list [.int 5]), (893, .list [.int 7]), (892, .list [.int 3]), (888, .list [.int 4]), (778, .list [.int 7]), (777, .list [.int 2]), (770, .list [.int 1]), (700, .list [.int 7]), (699, .list [.int 1]), (15, .code), (1, .list [.int 0, .int 0, .int 2, .int 6, .int 4, .int 6, .int 1, .int 0, .int 6, .int 5, .int 1, .int 2, .int 3, .int 2]), (0, .tab 0 (some 15))] K = K .nxt [.unb, .unb, .ref 1, .int 6, .int 12, .int 7, .int 6, .unb, .unb] 1396 [(1392, .list [.int 6]), (1282, .list [.int 7]), (1281, .list [.int 6]), (1274, .list [.int 3]), (1145, .list [.int 7]), (1144, .list [.int 5]), (1137, .list [.int 2]), (1008, .list [.int 7]), (1007, .list [.int 4]), (1003, .list [.int 5]), (893, .list [.int 7]), (892, .list [.int 3]), (888, .list [.int 4]), (778, .list [.int 7]), (777, .list [.int 2]), (770, .list [.int 1]), (700, .list [.int 7]), (699, .list [.int 1]), (15, .code), (1, .list [.int 0, .int 0, .int 2, .int 6, .int 4, .int 6, .int 1, .int 0, .int 6, .int 5, .int 1, .int 2, .int 3, .int 2]), (0, .tab 0 (some 15))] := by kernel_rfl
theorem e12x7c (K : KS) : l_law2 [.unb, .unb, .ref 1, .int 13, .int 12, .int 7, .unb, .unb, .unb] 699 [(15, .code), (1, .list [.int 0, .int 0, .int 2, .int 6, .int 4, .int 6, .int 1, .int 0, .int 6, .int 5, .int 1, .int 2, .int 3, .int 2]), (0, .tab 0 (some 15))] K = K .nxt [.unb, .unb, .ref 1, .int 6, .int 12, .int 7, .int 6, .unb, .unb] 1396 [(1392, .list [.int 6]), (1282, .list [.int 7]), (1281, .list [.int 6]), (1274, .list [.int 3]), (1145, .list [.int 7]), (1144, .list [.int 5]), (1137, .list [.int 2]), (1008, .list [.int 7]), (1007, .list [.int 4]), (1003, .list [.int 5]), (893, .list [.int 7]), (892, .list [.int 3]), (888, .list [.int 4]), (778, .list [.int 7]), (777, .list [.int 2]), (770, .list [.int 1]), (700, .list [.int 7]), (699, .list [.int 1]), (15, .code), (1, .list [.int 0, .int 0, .int 2, .int 6, .int 4, .int 6, .int 1, .int 0, .int 6, .int 5, .int 1, .int 2, .int 3, .int 2]), (0, .tab 0 (some 15))] :=
  (for_start (hi := 7) (c := 6) (fun _ => by kernel_rfl) (by kernel_rfl) (by kernel_rfl)).trans ((loop_turn (f := 5) (fun _ => rfl) rfl e12x7c_1).trans ((loop_turn (f := 4) (fun _ => rfl) rfl e12x7c_2).trans ((loop_turn (f := 3) (fun _ => rfl) rfl e12x7c_3).trans ((loop_turn (f := 2) (fun _ => rfl) rfl e12x7c_4).trans ((loop_turn (f := 1) (fun _ => rfl) rfl e12x7c_5).trans ((loop_turn (f := 0) (fun _ => rfl) rfl e12x7c_6).trans rfl))))))
theorem e12x7d (K : KS) : l_law3 [.unb, .unb, .ref 1, .int 6, .int 12, .int 7, .int 6, .unb, .unb] 1396 [(1392, .list [.int 6]), (1282, .list [.int 7]), (1281, .list [.int 6]), (1274, .list [.int 3]), (1145, .list [.int 7]), (1144, .list [.int 5]), (1137, .list [.int 2]), (1008, .list [.int 7]), (1007, .list [.int 4]), (1003, .list [.int 5]), (893, .list [.int 7]), (892, .list [.int 3]), (888, .list [.int 4]), (778, .list [.int 7]), (777, .list [.int 2]), (770, .list [.int 1]), (700, .list [.int 7]), (699, .list [.int 1]), (15, .code), (1, .list [.int 0, .int 0, .int 2, .int 6, .int 4, .int 6, .int 1, .int 0, .int 6, .int 5, .int 1, .int 2, .int 3, .int 2]), (0, .tab 0 (some 15))] K = K .nxt [.unb, .unb, .ref 1, .int 6, .int 12, .int 7, .int 6, .ref 1487, .ref 1489] 1491 [(1490, .tup [.ref 1487, .ref 1489]), (1489, .list []), (1487, .list [.int 103]), (1483, .list [.int 7]), (1481, .list [.int 721]), (1480, .list [.int 720]), (1392, .list [.int 6]), (1282, .list [.int 7]), (1281, .list [.int 6]), (1274, .list [.int 3]), (1145, .list [.int 7]), (1144, .list [.int 5]), (1137, .list [.int 2]), (1008, .list [.int 7]), (1007, .list [.int 4]), (1003, .list [.int 5]), (893, .list [.int 7]), (892, .list [.int 3]), (888, .list [.int 4]), (778, .list [.int 7]), (777, .list [.int 2]), (770, .list [.int 1]), (700, .list [.int 7]), (699, .list [.int 1]), (15, .code), (1, .list [.int 0, .int 0, .int 2, .int 6, .int 4, .int 6, .int 1, .int 0, .int 6, .int 5, .int 1, .int 2, .int 3, .int 2]), (0, .tab 0 (some 15))] := by kernel_rfl
theorem e12x7e (K : KS) : l_law4 [.unb, .unb, .ref 1, .int 6, .int 12, .int 7, .int 6, .ref 1487, .ref 1489] 1491 [(1490, .tup [.ref 1487, .ref 1489]), (1489, .list []), (1487, .list [.int 103]), (1483, .list [.int 7]), (1481, .list [.int 721]), (1480, .list [.int 720]), (1392, .list [.int 6]), (1282, .list [.int 7]), (1281, .list [.int 6]), (1274, .list [.int 3]), (1145, .list [.int 7]), (1144, .list [.int 5]), (1137, .list [.int 2]), (1008, .list [.int 7]), (1007, .list [.int 4]), (1003, .list [.int 5]), (893, .list [.int 7]), (892, .list [.int 3]), (888, .list [.int 4]), (778, .list [.int 7]), (777, .list [.int 2]), (770, .list [.int 1]), (700, .list [.int 7]), (699, .list [.int 1]), (15, .code), (1, .list [.int 0, .int 0, .int 2, .int 6, .int 4, .int 6, .int 1, .int 0, .int 6, .int 5, .int 1, .int 2, .int 3, .int 2]), (0, .tab 0 (some 15))] K = K (.ret (.bool true)) [.unb, .unb, .ref 1, .int 6, .int 12, .int 7, .int 6, .ref 1487, .ref 1489] 1494 [(1493, .list [.int 0, .int 0, .int 2, .int 6, .int 4, .int 6, .int 1]), (1491, .list []), (1490, .tup [.ref 1487, .ref 1489]), (1489, .list []), (1487, .list [.int 103]), (1483, .list [.int 7]), (1481, .list [.int 721]), (1480, .list [.int 720]), (1392, .list [.int 6]), (1282, .list [.int 7]), (1281, .list [.int 6]), (1274, .list [.int 3]), (1145, .list [.int 7]), (1144, .list [.int 5]), (1137, .list [.int 2]), (1008, .list [.int 7]), (1007, .list [.int 4]), (1003, .list [.int 5]), (893, .list [.int 7]), (892, .list [.int 3]), (888, .list [.int 4]), (778, .list [.int 7]), (777, .list [.int 2]), (770, .list [.int 1]), (700, .list [.int 7]), (699, .list [.int 1]), (15, .code), (1, .list [.int 0, .int 0, .int 2, .int 6, .int 4, .int 6, .int 1, .int 0, .int 6, .int 5, .int 1, .int 2, .int 3, .int 2]), (0, .tab 0 (some 15))] := by kernel_rfl
theorem e12x7 : c_law (loc0 12 7) 1 [(0, .tab 0 none)] finK = true := law_chain e12x7a e12x7b e12x7c e12x7d e12x7e rfl
end Mine
end
-- part M23_11
section
namespace Mine
open PySem PySem.W PySem.Spec PySem.Calls PyProof.Rows
theorem e8x11a (K : KS) : l_law0 [.unb, .unb, .unb, .unb, .int 8, .int 11, .unb, .unb, .unb] 1 [(0, .tab 0 none)] K = K .nxt [.unb, .unb, .ref 1, .unb, .int 8, .int 11, .unb, .unb, .unb] 2 [(1, .list [.int 0]), (0, .tab 0 none)] := by kernel_rfl
theorem e8x11b_1 (K : KS) : l_turn1 [.unb, .unb, .ref 1, .int 1, .int 8, .int 11, .unb, .unb, .unb] 2 [(1, .list [.int 0]), (0, .tab 0 none)] K = K .nxt [.unb, .unb, .ref 1, .int 1, .int 8, .int 11, .unb, .unb, .unb] 71 [(15, .code), (1, .list [.int 0, .int 0]), (0, .tab 0 (some 15))] := by kernel_rfl
theorem e8x11b_2 (K : KS) : l_turn1 [.unb, .unb, .ref 1, .int 2, .int 8, .int 11, .unb, .unb, .unb] 71 [(15, .code), (1, .list [.int 0, .int 0]), (0, .tab 0 (some 15))] K = K .nxt [.unb, .unb, .ref 1, .int 2, .int 8, .int 11, .unb, .unb, .unb] 147 [(15, .code), (1, .list [.int 0, .int 0, .int 5]), (0, .tab 0 (some 15))] := by kernel_rfl
theorem e8x11b_3 (K : KS) : l_turn1 [.unb, .unb, .ref 1, .int 3, .int 8, .int 11, .unb, .unb, .unb] 147 [(15, .code), (1, .list [.int 0, .int 0, .int 5]), (0, .tab 0 (some 15))] K = K .nxt [.unb, .unb, .ref 1, .int 3, .int 8, .int 11, .unb, .unb, .unb] 219 [(15, .code), (1, .list [.int 0, .int 0, .int 5, .int 0]), (0, .tab 0 (some 15))] := by kernel_rfl
theorem e8x11b_4 (K : KS) : l_turn1 [.unb, .unb, .ref 1, .int 4, .int 8, .int 11, .unb, .unb, .unb] 219 [(15, .code), (1, .list [.int 0, .int 0, .int 5, .int 0]), (0, .tab 0 (some 15))] K = K .nxt [.unb, .unb, .ref 1, .int 4, .int 8, .int 11, .unb, .unb, .unb] 299 [(15, .code), (1, .list [.int 0, .int 0, .int 5, .int 0, .int 10]), (0, .tab 0 (some 15))] := by kernel_rfl
theorem e8x11b_5 (K : KS) : l_turn1 [.unb, .unb, .ref 1, .int 5, .int 8, .int 11, .unb, .unb, .unb] 299 [(15, .code), (1, .list [.int 0, .int 0, .int 5, .int 0, .int 10]), (0, .tab 0 (some 15))] K = K .nxt [.unb, .unb, .ref 1, .int 5, .int 8, .int 11, .unb, .unb, .unb] 383 [(15, .code), (1, .list [.int 0, .int 0, .int 5, .int 0, .int 10, .int 7]), (0, .tab 0 (some 15))] := by kernel_rfl
theorem e8x11b_6 (K : KS) : l_turn1 [.unb, .unb, .ref 1, .int 6, .int 8, .int 11, .unb, .unb, .unb] 383 [(15, .code), (1, .list [.int 0, .int 0, .int 5, .int 0, .int 10, .int 7]), (0, .tab 0 (some 15))] K = K .nxt [.unb, .unb, .ref 1, .int 6, .int 8, .int 11, .unb, .unb, .unb] 471 [(15, .code), (1, .list [.int 0, .int 0, .int 5, .int 0, .int 10, .int 7, .int 5]), (0, .tab 0 (some 15))] := by kernel_rfl
theorem e8x11b_7 (K : KS) : l_turn1 [.unb, .unb, .ref 1, .int 7, .int 8, .int 11, .unb, .unb, .unb] 471 [(15, .code), (1, .list [.int 0, .int 0, .int 5, .int 0, .int 10, .int 7, .int 5]), (0, .tab 0 (some 15))] K = K .nxt [.unb, .unb, .ref 1, .int 7, .int 8, .int 11, .unb, .unb, .unb] 559 [(15, .code), (1, .list [.int 0, .int 0, .int 5, .int 0, .int 10, .int 7, .int 5, .int 2]), (0, .tab 0 (some 15))] := by kernel_rfl
theorem e8x11b_8 (K : KS) : l_turn1 [.unb, .unb, .ref 1, .int 8, .int 8, .int 11, .unb, .unb, .unb] 559 [(15, .code), (1, .list [.int 0, .int 0, .int 5, .int 0, .int 10, .int 7, .int 5, .int 2]), (0, .tab 0 (some 15))] K = K .nxt [.unb, .unb, .ref 1, .int 8, .int 8, .int 11, .unb, .unb, .unb] 647 [(15, .code), (1, .list [.int 0, .int 0, .int 5, .int 0, .int 10, .int 7, .int 5, .int 2, .int 4]), (0, .tab 0 (some 15))] := by kernel_rfl
theorem e8x11b_9 (K : KS) : l_turn1 [.unb, .unb, .ref 1, .int 9, .int 8, .int 11, .unb, .unb, .unb] 647 [(15, .code), (1, .list [.int 0, .int 0, .int 5, .int 0, .int 10, .int 7, .int 5, .int 2, .int 4]), (0, .tab 0 (some 15))] K = K .nxt [.unb, .unb, .ref 1, .int 9, .int 8, .int 11, .unb, .unb, .unb] 727 [(15, .code), (1, .list [.int 0, .int 0, .int 5, .int 0, .int 10, .int 7, .int 5, .int 2, .int 4, .int 0]), (0, .tab 0 (some 15))] := by kernel_rfl
theorem e8x11b_10 (K : KS) : l_turn1 [.unb, .unb, .ref 1, .int 10, .int 8, .int 11, .unb, .unb, .unb] 727 [(15, .code), (1, .list [.int 0, .int 0, .int 5, .int 0, .int 10, .int 7, .int 5, .int 2, .int 4, .int 0]), (0, .tab 0 (some 15))] K = K .nxt [.unb, .unb, .ref 1, .int 10, .int 8, .int 11, .unb, .unb, .unb] 815 [(15, .code), (1, .list [.int 0, .int 0, .int 5, .int 0, .int 10, .int 7, .int 5, .int 2, .int 4, .int 0, .int 1]), (0, .tab 0 (some 15))] := by kernel_rfl
theorem e8x11b_11 (K : KS) : l_turn1 [.unb, .unb, .ref 1, .int 11, .int 8, .int 11, .unb, .unb, .unb] 815 [(15, .code), (1, .list [.int 0, .int 0, .int 5, .int 0, .int 10, .int 7, .int 5, .int 2, .int 4, .int 0, .int 1]), (0, .tab 0 (some 15))] K = K .nxt [.unb, .unb, .ref 1, .int 11, .int 8, .int 11, .unb, .unb, .unb] 815 [(15, .code), (1, .list [.int 0, .int 0, .int 5, .int 0, .int 10, .int 7, .int 5, .int 2, .int 4, .int 0, .int 1, .int 0]), (0, .tab 0 (some 15))] := by kernel_rfl
theorem e8x11b_12 (K : KS) : l_turn1 [.unb, .unb, .ref 1, .int 12, .int 8, .int 11, .unb, .unb, .unb] 815 [(15, .code), (1, .list [.int 0, .int 0, .int 5, .int 0, .int 10, .int 7, .int 5, .int 2, .int 4, .int 0, .int 1, .int 0]), (0, .tab 0 (some 15))] K = K .nxt [.unb, .unb, .ref 1, .int 12, .int 8, .int 11, .unb, .unb, .unb] 911 [(15, .code), (1, .list [.int 0, .int 0, .int 5, .int 0, .int 10, .int 7, .int 5, .int 2, .int 4, .int 0, .int 1, .int 0, .int 10]), (0, .tab 0 (some 15))] := by kernel_rfl
theorem e8x11b_13 (K : KS) : l_turn1 [.unb, .unb, .ref 1, .int 13, .int 8, .int 11, .unb, .unb, .unb] 911 [(15, .code), (1, .list [.int 0, .int 0, .int 5, .int 0, .int 10, .int 7, .int 5, .int 2, .int 4, .int 0, .int 1, .int 0, .int 10]), (0, .tab 0 (some 15))] K = K .nxt [.unb, .unb, .ref 1, .int 13, .int 8, .int 11, .unb, .unb, .unb] 1003 [(15, .code), (1, .list [.int 0, .int 0, .int 5, .int 0, .int 10, .int 7, .int 5, .int 2, .int 4, .int 0, .int 1, .int 0, .int 10, .int 10]), (0, .tab 0 (some 15))] := by kernel_rfl
theorem e8x11b_14 (K : KS) : l_turn1 [.unb, .unb, .ref 1, .int 14, .int 8, .int 11, .unb, .unb, .unb] 1003 [(15, .code), (1, .list [.int 0, .int 0, .int 5, .int 0, .int 10, .int 7, .int 5, .int 2, .int 4, .int 0, .int 1, .int 0, .int 10, .int 10]), (0, .tab 0 (some 15))] K = K .nxt [.unb, .unb, .ref 1, .int 14, .int 8, .int 11, .unb, .unb, .unb] 1099 [(15, .code), (1, .list [.int 0, .int 0, .int 5, .int 0, .int 10, .int 7, .int 5, .int 2, .int 4, .int 0, .int 1, .int 0, .int 10, .int 10, .int 7]), (0, .tab 0 (some 15))] := by kernel_rfl
theorem e8x11b_15 (K : KS) : l_turn1 [.unb, .unb, .ref 1, .int 15, .int 8, .int 11, .unb, .unb, .unb] 1099 [(15, .code), (1, .list [.int 0, .int 0, .int 5, .int 0, .int 10, .int 7, .int 5, .int 2, .int 4, .int 0, .int 1, .int 0, .int 10, .int 10, .int 7]), (0, .tab 0 (some 15))] K = K .nxt [.unb, .unb, .ref 1, .int 15, .int 8, .int 11, .unb, .unb, .unb] 1195 [(15, .code), (1, .list [.int 0, .int 0, .int 5, .int 0, .int 10, .int 7, .int 5, .int 2, .int 4, .int 0, .int 1, .int 0, .int 10, .int 10, .int 7, .int 7]), (0, .tab 0 (some 15))] := by kernel_rfl
theorem e8x11b_16 (K : KS) : l_turn1 [.unb, .unb, .ref 1, .int 16, .int 8, .int 11, .unb, .unb, .unb] 1195 [(15, .code), (1, .list [.int 0, .int 0, .int 5, .int 0, .int 10, .int 7, .int 5, .int 2, .int 4, .int 0, .int 1, .int 0, .int 10, .int 10, .int 7, .int 7]), (0, .tab 0 (some 15))] K = K .nxt [.unb, .unb, .ref 1, .int 16, .int 8, .int 11, .unb, .unb, .unb] 1291 [(15, .code), (1, .list [.int 0, .int 0, .int 5, .int 0, .int 10, .int 7, .int 5, .int 2, .int 4, .int 0, .int 1, .int 0, .int 10, .int 10, .int 7, .int 7, .int 9]), (0, .tab 0 (some 15))] := by kernel_rfl
theorem e8x11b_17 (K : KS) : l_turn1 [.unb, .unb, .ref 1, .int 17, .int 8, .int 11, .unb, .unb, .unb] 1291 [(15, .code), (1, .list [.int 0, .int 0, .int 5, .int 0, .int 10, .int 7, .int 5, .int 2, .int 4, .int 0, .int 1, .int 0, .int 10, .int 10, .int 7, .int 7, .int 9]), (0, .tab 0 (some 15))] K = K .nxt [.unb, .unb, .ref 1, .int 17, .int 8, .int 11, .unb, .unb, .unb] 1387 [(15, .code), (1, .list [.int 0, .int 0, .int 5, .int 0, .int 10, .int 7, .int 5, .int 2, .int 4, .int 0, .int 1, .int 0, .int 10, .int 10, .int 7, .int 7, .int 9, .int 3]), (0, .tab 0 (some 15))] := by kernel_rfl
theorem e8x11b_18 (K : KS) : l_turn1 [.unb, .unb, .ref 1, .int 18, .int 8, .int 11, .unb, .unb, .unb] 1387 [(15, .code), (1, .list [.int 0, .int 0, .int 5, .int 0, .int 10, .int 7, .int 5, .int 2, .int 4, .int 0, .int 1, .int 0, .int 10, .int 10, .int 7, .int 7, .int 9, .int 3]), (0, .tab 0 (some 15))] K = K .nxt [.unb, .unb, .ref 1, .int 18, .int 8, .int 11, .unb, .unb, .unb] 1483 [(15, .code), (1, .list [.int 0, .int 0, .int 5, .int 0, .int 10, .int 7, .int 5, .int 2, .int 4, .int 0, .int 1, .int 0, .int 10, .int 10, .int 7, .int 7, .int 9, .int 3, .int 5]), (0, .tab 0 (some 15))] := by kernel_rfl
theorem e8x11b_19 (K : KS) : l_turn1 [.unb, .unb, .ref 1, .int 19, .int 8, .int 11, .unb, .unb, .unb] 1483 [(15, .code), (1, .list [.int 0, .int 0, .int 5, .int 0, .int 10, .int 7, .int 5, .int 2, .int 4, .int 0, .int 1, .int 0, .int 10, .int 10, .int 7, .int 7, .int 9, .int 3, .int 5]), (0, .tab 0 (some 15))] K = K .nxt [.unb, .unb, .ref 1, .int 19, .int 8, .int 11, .unb, .unb, .unb] 1575 [(15, .code), (1, .list [.int 0, .int 0, .int 5, .int 0, .int 10, .int 7, .int 5, .int 2, .int 4, .int 0, .int 1, .int 0, .int 10, .int 10, .int 7, .int 7, .int 9, .int 3, .int 5, .int 8]), (0, .tab 0 (some 15))] := by kernel_rfl
theorem e8x11b_20 (K : KS) : l_turn1 [.unb, .unb, .ref 1, .int 20, .int 8, .int 11, .unb, .unb, .unb] 1575 [(15, .code), (1, .list [.int 0, .int 0, .int 5, .int 0, .int 10, .int 7, .int 5, .int 2, .int 4, .int 0, .int 1, .int 0, .int 10, .int 10, .int 7, .int 7, .int 9, .int 3, .int 5, .int 8]), (0, .tab 0 (some 15))] K = K .nxt [.unb, .unb, .ref 1, .int 20, .int 8, .int 11, .unb, .unb, .unb] 1671 [(15, .code), (1, .list [.int 0, .int 0, .int 5, .int 0, .int 10, .int 7, .int 5, .int 2, .int 4, .int 0, .int 1, .int 0, .int 10, .int 10, .int 7, .int 7, .int 9, .int 3, .int 5, .int 8, .int 6]), (0, .tab 0 (some 15))] := by kernel_rfl
theorem e8x11b_21 (K : KS) : l_turn1 [.unb, .unb, .ref 1, .int 21, .int 8, .int 11, .unb, .unb, .unb] 1671 [(15, .code), (1, .list [.int 0, .int 0, .int 5, .int 0, .int 10, .int 7, .int 5, .int 2, .int 4, .int 0, .int 1, .int 0, .int 10, .int 10, .int 7, .int 7, .int 9, .int 3, .int 5, .int 8, .int 6]), (0, .tab 0 (some 15))] K = K .nxt [.unb, .unb, .ref 1, .int 21, .int 8, .int 11, .unb, .unb, .unb] 1767 [(15, .code), (1, .list [.int 0, .int 0, .int 5, .int 0, .int 10, .int 7, .int 5, .int 2, .int 4, .int 0, .int 1, .int 0, .int 10, .int 10, .int 7, .int 7, .int 9, .int 3, .int 5, .int 8, .int 6, .int 2]), (0, .tab 0 (some 15))] := by kernel_rfl
theorem e8x11b (K : KS) : l_law1 [.unb, .unb, .ref 1, .unb, .int 8, .int 11, .unb, .unb, .unb] 2 [(1, .list [.int 0]), (0, .tab 0 none)] K = K .nxt [.unb, .unb, .ref 1, .int 21, .int 8, .int 11, .unb, .unb, .unb] 1767 [(15, .code), (1, .list [.int 0, .int 0, .int 5, .int 0, .int 10, .int 7, .int 5, .int 2, .int 4, .int 0, .int 1, .int 0, .int 10, .int 10, .int 7, .int 7, .int 9, .int 3, .int 5, .int 8, .int 6, .int 2]), (0, .tab 0 (some 15))] :=
  (for_start (hi := 22) (c := 21) (fun _ => by kernel_rfl) (by kernel_rfl) (by kernel_rfl)).trans ((loop_turn (f := 20) (fun _ => rfl) rfl e8x11b_1).trans ((loop_turn (f := 19) (fun _ => rfl) rfl e8x11b_2).trans ((loop_turn (f := 18) (fun _ => rfl) rfl e8x11b_3).trans ((loop_turn (f := 17) (fun _ => rfl) rfl e8x11b_4).trans ((loop_turn (f := 16) (fun _ => rfl) rfl e8x11b_5).trans ((loop_turn (f := 15) (fun _ => rfl) rfl e8x11b_6).trans ((loop_turn (f := 14) (fun _ => rfl) rfl e8x11b_7).trans ((loop_turn (f := 13) (fun _ => rfl) rfl e8x11b_8).trans ((loop_turn (f := 12) (fun _ => rfl) rfl e8x11b_9).trans ((loop_turn (f := 11) (fun _ => rfl) rfl e8x11b_10).trans ((loop_turn (f := 10) (fun _ => rfl) rfl e8x11b_11).trans ((loop_turn (f := 9) (fun _ => rfl) rfl e8x11b_12).trans ((loop_turn (f := 8) (fun _ => rfl) rfl e8x11b_13).trans ((loop_turn (f := 7) (fun _ => rfl) rfl e8x11b_14).trans ((loop_turn (f := 6) (fun _ => rfl) rfl e8x11b_15).trans ((loop_turn (f := 5) (fun _ => rfl) rfl e8x11b_16).trans ((loop_turn (f := 4) (fun _ => rfl) rfl e8x11b_17).trans ((loop_turn (f := 3) (fun _ => rfl) rfl e8x11b_18).trans ((loop_turn (f := 2) (fun _ => rfl) rfl e8x11b_19).trans ((loop_turn (f := 1) (fun _ => rfl) rfl e8x11b_20).trans ((loop_turn (f := 0) (fun _ => rfl) rfl e8x11b_21).trans rfl)))))))))))))))))))))
theorem e8x11c_1 (K : KS) : l_turn2 [.unb, .unb, .ref 1, .int 1, .int 8, .int 11, .unb, .unb, .unb] 1767 [(15, .code), (1, .list [.int 0, .int 0, .int 5, .int 0, .int 10, .int 7, .int 5, .int 2, .int 4, .int 0, .int 1, .int 0, .int 10, .int 10, .int 7, .int 7, .int 9, .int 3, .int 5, .int 8, .int 6, .int 2]), (0, .tab 0 (some 15))] K = K .nxt [.unb, .unb, .ref 1, .int 1, .int 8, .int 11, .int 1, .unb, .unb] 1845 [(1838, .list [.int 1]), (1768, .list [.int 11]), (1767, .list [.int 1]), (15, .code), (1, .list [.int 0, .int 0, .int 5, .int 0, .int 10, .int 7, .int 5, .int 2, .int 4, .int 0, .int 1, .int 0, .int 10, .int 10, .int 7, .int 7, .int 9, .int 3, .int 5, .int 8, .int 6, .int 2]), (0, .tab 0 (some 15))] := by kernel_rfl
theorem e8x11c_2 (K : KS) : l_turn2 [.unb, .unb, .ref 1, .int 2, .int 8, .int 11, .int 1, .unb, .unb] 1845 [(1838, .list [.int 1]), (1768, .list [.int 11]), (1767, .list [.int 1]), (15, .code), (1, .list [.int 0, .int 0, .int 5, .int 0, .int 10, .int 7, .int 5, .int 2, .int 4, .int 0, .int 1, .int 0, .int 10, .int 10, .int 7, .int 7, .int 9, .int 3, .int 5, .int 8, .int 6, .int 2]), (0, .tab 0 (some 15))] K = K .nxt [.unb, .unb, .ref 1, .int 2, .int 8, .int 11, .int 6, .unb, .unb] 1960 [(1956, .list [.int 6]), (1846, .list [.int 11]), (1845, .list [.int 2]), (1838, .list [.int 1]), (1768, .list [.int 11]), (1767, .list [.int 1]), (15, .code), (1, .list [.int 0, .int 0, .int 5, .int 0, .int 10, .int 7, .int 5, .int 2, .int 4, .int 0, .int 1, .int 0, .int 10, .int 10, .int 7, .int 7, .int 9, .int 3, .int 5, .int 8, .int 6, .int 2]), (0, .tab 0 (some 15))] := by kernel_rfl
theorem e8x11c_3 (K : KS) : l_turn2 [.unb, .unb, .ref 1, .int 3, .int 8, .int 11, .int 6, .unb, .unb] 1960 [(1956, .list [.int 6]), (1846, .list [.int 11]), (1845, .list [.int 2]), (1838, .list [.int 1]), (1768, .list [.int 11]), (1767, .list [.int 1]), (15, .code), (1, .list [.int 0, .int 0, .int 5, .int 0, .int 10, .int 7, .int 5, .int 2, .int 4, .int 0, .int 1, .int 0, .int 10, .int 10, .int 7, .int 7, .int 9, .int 3, .int 5, .int 8, .int 6, .int 2]), (0, .tab 0 (some 15))] K = K .nxt [.unb, .unb, .ref 1, .int 3, .int 8, .int 11, .int 4, .unb, .unb] 2097 [(2090, .list [.int 4]), (1961, .list [.int 11]), (1960, .list [.int 3]), (1956, .list [.int 6]), (1846, .list [.int 11]), (1845, .list [.int 2]), (1838, .list [.int 1]), (1768, .list [.int 11]), (1767, .list [.int 1]), (15, .code), (1, .list [.int 0, .int 0, .int 5, .int 0, .int 10, .int 7, .int 5, .int 2, .int 4, .int 0, .int 1, .int 0, .int 10, .int 10, .int 7, .int 7, .int 9, .int 3, .int 5, .int 8, .int 6, .int 2]), (0, .tab 0 (some 15))] := by kernel_rfl
theorem e8x11c_4 (K : KS) : l_turn2 [.unb, .unb, .ref 1, .int 4, .int 8, .int 11, .int 4, .unb, .unb] 2097 [(2090, .list [.int 4]), (1961, .list [.int 11]), (1960, .list [.int 3]), (1956, .list [.int 6]), (1846, .list [.int 11]), (1845, .list [.int 2]), (1838, .list [.int 1]), (1768, .list [.int 11]), (1767, .list [.int 1]), (15, .code), (1, .list [.int 0, .int 0, .int 5, .int 0, .int 10, .int 7, .int 5, .int 2, .int 4, .int 0, .int 1, .int 0, .int 10, .int 10, .int 7, .int 7, .int 9, .int 3, .int 5, .int 8, .int 6, .int 2]), (0, .tab 0 (some 15))] K = K .nxt [.unb, .unb, .ref 1, .int 4, .int 8, .int 11, .int 3, .unb, .unb] 2234 [(2227, .list [.int 3]), (2098, .list [.int 11]), (2097, .list [.int 4]), (2090, .list [.int 4]), (1961, .list [.int 11]), (1960, .list [.int 3]), (1956, .list [.int 6]), (1846, .list [.int 11]), (1845, .list [.int 2]), (1838, .list [.int 1]), (1768, .list [.int 11]), (1767, .list [.int 1]), (15, .code), (1, .list [.int 0, .int 0, .int 5, .int 0, .int 10, .int 7, .int 5, .int 2, .int 4, .int 0, .int 1, .int 0, .int 10, .int 10, .int 7, .int 7, .int 9, .int 3, .int 5, .int 8, .int 6, .int 2]), (0, .tab 0 (some 15))] := by kernel_rfl
theorem e8x11c_5 (K : KS) : l_turn2 [.unb, .unb, .ref 1, .int 5, .int 8, .int 11, .int 3, .unb, .unb] 2234 [(2227, .list [.int 3]), (2098, .list [.int 11]), (2097, .list [.int 4]), (2090, .list [.int 4]), (1961, .list [.int 11]), (1960, .list [.int 3]), (1956, .list [.int 6]), (1846, .list [.int 11]), (1845, .list [.int 2]), (1838, .list [.int 1]), (1768, .list [.int 11]), (1767, .list [.int 1]), (15, .code), (1, .list [.int 0, .int 0, .int 5, .int 0, .int 10, .int 7, .int 5, .int 2, .int 4, .int 0, .int 1, .int 0, .int 10, .int 10, .int 7, .int 7, .int 9, .int 3, .int 5, .int 8, .int 6, .int 2]), (0, .tab 0 (some 15))] K = K .nxt [.unb, .unb, .ref 1, .int 5, .int 8, .int 11, .int 9, .unb, .unb] 2349 [(2345, .list [.int 9]), (2235, .list [.int 11]), (2234, .list [.int 5]), (2227, .list [.int 3]), (2098, .list [.int 11]), (2097, .list [.int 4]), (2090, .list [.int 4]), (1961, .list [.int 11]), (1960, .list [.int 3]), (1956, .list [.int 6]), (1846, .list [.int 11]), (1845, .list [.int 2]), (1838, .list [.int 1]), (1768, .list [.int 11]), (1767, .list [.int 1]), (15, .code), (1, .list [.int 0, .int 0, .int 5, .int 0, .int 10, .int 7, .int 5, .int 2, .int 4, .int 0, .int 1, .int 0, .int 10, .int 10, .int 7, .int 7, .int 9, .int 3, .int 5, .int 8, .int 6, .int 2]), (0, .tab 0 (some 15))] := by kernel_rfl
theorem e8x11c_6 (K : KS) : l_turn2 [.unb, .unb, .ref 1, .int 6, .int 8, .int 11, .int 9, .unb, .unb] 2349 [(2345, .list [.int 9]), (2235, .list [.int 11]), (2234, .list [.int 5]), (2227, .list [.int 3]), (2098, .list [.int 11]), (2097, .list [.int 4]), (2090, .list [.int 4]), (1961, .list [.int 11]), (1960, .list [.int 3]), (1956, .list [.int 6]), (1846, .list [.int 11]), (1845, .list [.int 2]), (1838, .list [.int 1]), (1768, .list [.int 11]), (1767, .list [.int 1]), (15, .code), (1, .list [.int 0, .int 0, .int 5, .int 0, .int 10, .int 7, .int 5, .int 2, .int 4, .int 0, .int 1, .int 0, .int 10, .int 10, .int 7, .int 7, .int 9, .int 3, .int 5, .int 8, .int 6, .int 2]), (0, .tab 0 (some 15))] K = K .nxt [.unb, .unb, .ref 1, .int 6, .int 8, .int 11, .int 2, .unb, .unb] 2486 [(2479, .list [.int 2]), (2350, .list [.int 11]), (2349, .list [.int 6]), (2345, .list [.int 9]), (2235, .list [.int 11]), (2234, .list [.int 5]), (2227, .list [.int 3]), (2098, .list [.int 11]), (2097, .list [.int 4]), (2090, .list [.int 4]), (1961, .list [.int 11]), (1960, .list [.int 3]), (1956, .list [.int 6]), (1846, .list [.int 11]), (1845, .list [.int 2]), (1838, .list [.int 1]), (1768, .list [.int 11]), (1767, .list [.int 1]), (15, .code), (1, .list [.int 0, .int 0, .int 5, .int 0, .int 10, .int 7, .int 5, .int 2, .int 4, .int 0, .int 1, .int 0, .int 10, .int 10, .int 7, .int 7, .int 9, .int 3, .int 5, .int 8, .int 6, .int 2]), (0, .tab 0 (some 15))] := by kernel_rfl
theorem e8x11c_7 (K : KS) : l_turn2 [.unb, .unb, .ref 1, .int 7, .int 8, .int 11, .int 2, .unb, .unb] 2486 [(2479, .list [.int 2]), (2350, .list [.int 11]), (2349, .list [.int 6]), (2345, .list [.int 9]), (2235, .list [.int 11]), (2234, .list [.int 5]), (2227, .list [.int 3]), (2098, .list [.int 11]), (2097, .list [.int 4]), (2090, .list [.int 4]), (1961, .list [.int 11]), (1960, .list [.int 3]), (1956, .list [.int 6]), (1846, .list [.int 11]), (1845, .list [.int 2]), (1838, .list [.int 1]), (1768, .list [.int 11]), (1767, .list [.int 1]), (15, .code), (1, .list [.int 0, .int 0, .int 5, .int 0, .int 10, .int 7, .int 5, .int 2, .int 4, .int 0, .int 1, .int 0, .int 10, .int 10, .int 7, .int 7, .int 9, .int 3, .int 5, .int 8, .int 6, .int 2]), (0, .tab 0 (some 15))] K = K .nxt [.unb, .unb, .ref 1, .int 7, .int 8, .int 11, .int 8, .unb, .unb] 2659 [(2655, .list [.int 8]), (2487, .list [.int 11]), (2486, .list [.int 7]), (2479, .list [.int 2]), (2350, .list [.int 11]), (2349, .list [.int 6]), (2345, .list [.int 9]), (2235, .list [.int 11]), (2234, .list [.int 5]), (2227, .list [.int 3]), (2098, .list [.int 11]), (2097, .list [.int 4]), (2090, .list [.int 4]), (1961, .list [.int 11]), (1960, .list [.int 3]), (1956, .list [.int 6]), (1846, .list [.int 11]), (1845, .list [.int 2]), (1838, .list [.int 1]), (1768, .list [.int 11]), (1767, .list [.int 1]), (15, .code), (1, .list [.int 0, .int 0, .int 5, .int 0, .int 10, .int 7, .int 5, .int 2, .int 4, .int 0, .int 1, .int 0, .int 10, .int 10, .int 7, .int 7, .int 9, .int 3, .int 5, .int 8, .int 6, .int 2]), (0, .tab 0 (some 15))] := by kernel_rfl
theorem e8x11c_8 (K : KS) : l_turn2 [.unb, .unb, .ref 1, .int 8, .int 8, .int 11, .int 8, .unb, .unb] 2659 [(2655, .list [.int 8]), (2487, .list [.int 11]), (2486, .list [.int 7]), (2479, .list [.int 2]), (2350, .list [.int 11]), (2349, .list [.int 6]), (2345, .list [.int 9]), (2235, .list [.int 11]), (2234, .list [.int 5]), (2227, .list [.int 3]), (2098, .list [.int 11]), (2097, .list [.int 4]), (2090, .list [.int 4]), (1961, .list [.int 11]), (1960, .list [.int 3]), (1956, .list [.int 6]), (1846, .list [.int 11]), (1845, .list [.int 2]), (1838, .list [.int 1]), (1768, .list [.int 11]), (1767, .list [.int 1]), (15, .code), (1, .list [.int 0, .int 0, .int 5, .int 0, .int 10, .int 7, .int 5, .int 2, .int 4, .int 0, .int 1, .int 0, .int 10, .int 10, .int 7, .int 7, .int 9, .int 3, .int 5, .int 8, .int 6, .int 2]), (0, .tab 0 (some 15))] K = K .nxt [.unb, .unb, .ref 1, .int 8, .int 8, .int 11, .int 7, .unb, .unb] 2832 [(2828, .list [.int 7]), (2660, .list [.int 11]), (2659, .list [.int 8]), (2655, .list [.int 8]), (2487, .list [.int 11]), (2486, .list [.int 7]), (2479, .list [.int 2]), (2350, .list [.int 11]), (2349, .list [.int 6]), (2345, .list [.int 9]), (2235, .list [.int 11]), (2234, .list [.int 5]), (2227, .list [.int 3]), (2098, .list [.int 11]), (2097, .list [.int 4]), (2090, .list [.int 4]), (1961, .list [.int 11]), (1960, .list [.int 3]), (1956, .list [.int 6]), (1846, .list [.int 11]), (1845, .list [.int 2]), (1838, .list [.int 1]), (1768, .list [.int 11]), (1767, .list [.int 1]), (15, .code), (1, .list [.int 0, .int 0, .int 5, .int 0, .int 10, .int 7, .int 5, .int 2, .int 4, .int 0, .int 1, .int 0, .int 10, .int 10, .int 7, .int 7, .int 9, .int 3, .int 5, .int 8, .int 6, .int 2]), (0, .tab 0 (some 15))] := by kernel_rfl
theorem e8x11c_9 (K : KS) : l_turn2 [.unb, .unb, .ref 1, .int 9, .int 8, .int 11, .int 7, .unb, .unb] 2832 [(2828, .list [.int 7]), (2660, .list [.int 11]), (2659, .list [.int 8]), (2655, .list [.int 8]), (2487, .list [.int 11]), (2486, .list [.int 7]), (2479, .list [.int 2]), (2350, .list [.int 11]), (2349, .list [.int 6]), (2345, .list [.int 9]), (2235, .list [.int 11]), (2234, .list [.int 5]), (2227, .list [.int 3]), (2098, .list [.int 11]), (2097, .list [.int 4]), (2090, .list [.int 4]), (1961, .list [.int 11]), (1960, .list [.int 3]), (1956, .list [.int 6]), (1846, .list [.int 11]), (1845, .list [.int 2]), (1838, .list [.int 1]), (1768, .list [.int 11]), (1767, .list [.int 1]), (15, .code), (1, .list [.int 0, .int 0, .int 5, .int 0, .int 10, .int 7, .int 5, .int 2, .int 4, .int 0, .int 1, .int 0, .int 10, .int 10, .int 7, .int 7, .int 9, .int 3, .int 5, .int 8, .int 6, .int 2]), (0, .tab 0 (some 15))] K = K .nxt [.unb, .unb, .ref 1, .int 9, .int 8, .int 11, .int 5, .unb, .unb] 2969 [(2962, .list [.int 5]), (2833, .list [.int 11]), (2832, .list [.int 9]), (2828, .list [.int 7]), (2660, .list [.int 11]), (2659, .list [.int 8]), (2655, .list [.int 8]), (2487, .list [.int 11]), (2486, .list [.int 7]), (2479, .list [.int 2]), (2350, .list [.int 11]), (2349, .list [.int 6]), (2345, .list [.int 9]), (2235, .list [.int 11]), (2234, .list [.int 5]), (2227, .list [.int 3]), (2098, .list [.int 11]), (2097, .list [.int 4]), (2090, .list [.int 4]), (1961, .list [.int 11]), (1960, .list [.int 3]), (1956, .list [.int 6]), (1846, .list [.int 11]), (1845, .list [.int 2]), (1838, .list [.int 1]), (1768, .list [.int 11]), (1767, .list [.int 1]), (15, .code), (1, .list [.int 0, .int 0, .int 5, .int 0, .int 10, .int 7, .int 5, .int 2, .int 4, .int 0, .int 1, .int 0, .int 10, .int 10, .int 7, .int 7, .int 9, .int 3, .int 5, .int 8, .int 6, .int 2]), (0, .tab 0 (some 15))] := by kernel_rfl
theorem e8x11c_10 (K : KS) : l_turn2 [.unb, .unb, .ref 1, .int 10, .int 8, .int 11, .int 5, .unb, .unb] 2969 [(2962, .list [.int 5]), (2833, .list [.int 11]), (2832, .list [.int 9]), (2828, .list [.int 7]), (2660, .list [.int 11]), (2659, .list [.int 8]), (2655, .list [.int 8]), (2487, .list [.int 11]), (2486, .list [.int 7]), (2479, .list [.int 2]), (2350, .list [.int 11]), (2349, .list [.int 6]), (2345, .list [.int 9]), (2235, .list [.int 11]), (2234, .list [.int 5]), (2227, .list [.int 3]), (2098, .list [.int 11]), (2097, .list [.int 4]), (2090, .list [.int 4]), (1961, .list [.int 11]), (1960, .list [.int 3]), (1956, .list [.int 6]), (1846, .list [.int 11]), (1845, .list [.int 2]), (1838, .list [.int 1]), (1768, .list [.int 11]), (1767, .list [.int 1]), (15, .code), (1, .list [.int 0, .int 0, .int 5, .int 0, .int 10, .int 7, .int 5, .int 2, .int 4, .int 0, .int 1, .int 0, .int 10, .int 10, .int 7, .int 7, .int 9, .int 3, .int 5, .int 8, .int 6, .int 2]), (0, .tab 0 (some 15))] K = K .nxt [.unb, .unb, .ref 1, .int 10, .int 8, .int 11, .int 10, .unb, .unb] 3084 [(3080, .list [.int 10]), (2970, .list [.int 11]), (2969, .list [.int 10]), (2962, .list [.int 5]), (2833, .list [.int 11]), (2832, .list [.int 9]), (2828, .list [.int 7]), (2660, .list [.int 11]), (2659, .list [.int 8]), (2655, .list [.int 8]), (2487, .list [.int 11]), (2486, .list [.int 7]), (2479, .list [.int 2]), (2350, .list [.int 11]), (2349, .list [.int 6]), (2345, .list [.int 9]), (2235, .list [.int 11]), (2234, .list [.int 5]), (2227, .list [.int 3]), (2098, .list [.int 11]), (2097, .list [.int 4]), (2090, .list [.int 4]), (1961, .list [.int 11]), (1960, .list [.int 3]), (1956, .list [.int 6]), (1846, .list [.int 11]), (1845, .list [.int 2]), (1838, .list [.int 1]), (1768, .list [.int 11]), (1767, .list [.int 1]), (15, .code), (1, .list [.int 0, .int 0, .int 5, .int 0, .int 10, .int 7, .int 5, .int 2, .int 4, .int 0, .int 1, .int 0, .int 10, .int 10, .int 7, .int 7, .int 9, .int 3, .int 5, .int 8, .int 6, .int 2]), (0, .tab 0 (some 15))] := by kernel_rfl
theorem e8x11c (K : KS) : l_law2 [.unb, .unb, .ref 1, .int 21, .int 8, .int 11, .unb, .unb, .unb] 1767 [(15, .code), (1, .list [.int 0, .int 0, .int 5, .int 0, .int 10, .int 7, .int 5, .int 2, .int 4, .int 0, .int 1, .int 0, .int 10, .int 10, .int 7, .int 7, .int 9, .int 3, .int 5, .int 8, .int 6, .int 2]), (0, .tab 0 (some 15))] K = K .nxt [.unb, .unb, .ref 1, .int 10, .int 8, .int 11, .int 10, .unb, .unb] 3084 [(3080, .list [.int 10]), (2970, .list [.int 11]), (2969, .list [.int 10]), (2962, .list [.int 5]), (2833, .list [.int 11]), (2832, .list [.int 9]), (2828, .list [.int 7]), (2660, .list [.int 11]), (2659, .list [.int 8]), (2655, .list [.int 8]), (2487, .list [.int 11]), (2486, .list [.int 7]), (2479, .list [.int 2]), (2350, .list [.int 11]), (2349, .list [.int 6]), (2345, .list [.int 9]), (2235, .list [.int 11]), (2234, .list [.int 5]), (2227, .list [.int 3]), (2098, .list [.int 11]), (2097, .list [.int 4]), (2090, .list [.int 4]), (1961, .list [.int 11]), (1960, .list [.int 3]), (1956, .list [.int 6]), (1846, .list [.int 11]), (1845, .list [.int 2]), (1838, .list [.int 1]), (1768, .list [.int 11]), (1767, .list [.int 1]), (15, .code), (1, .list [.int 0, .int 0, .int 5, .int 0, .int 10, .int 7, .int 5, .int 2, .int 4, .int 0, .int 1, .int 0, .int 10, .int 10, .int 7, .int 7, .int 9, .int 3, .int 5, .int 8, .int 6, .int 2]), (0, .tab 0 (some 15))] :=
  (for_start (hi := 11) (c := 10) (fun _ => by kernel_rfl) (by kernel_rfl) (by kernel_rfl)).trans ((loop_turn (f := 9) (fun _ => rfl) rfl e8x11c_1).trans ((loop_turn (f := 8) (fun _ => rfl) rfl e8x11c_2).trans ((loop_turn (f := 7) (fun _ => rfl) rfl e8x11c_3).trans ((loop_turn (f := 6) (fun _ => rfl) rfl e8x11c_4).trans ((loop_turn (f := 5) (fun _ => rfl) rfl e8x11c_5).trans ((loop_turn (f := 4) (fun _ => rfl) rfl e8x11c_6).trans ((loop_turn (f := 3) (fun _ => rfl) rfl e8x11c_7).trans ((loop_turn (f := 2) (fun _ => rfl) rfl e8x11c_8).trans ((loop_turn (f := 1) (fun _ => rfl) rfl e8x11c_9).trans ((loop_turn (f := 0) (fun _ => rfl) rfl e8x11c_10).trans rfl))))))))))
theorem e8x11d (K : KS) : l_law3 [.unb, .unb, .ref 1, .int 10, .int 8, .int 11, .int 10, .unb, .unb] 3084 [(3080, .list [.int 10]), (2970, .list [.int 11]), (2969, .list [.int 10]), (2962, .list [.int 5]), (2833, .list [.int 11]), (2832, .list [.int 9]), (2828, .list [.int 7]), (2660, .list [.int 11]), (2659, .list [.int 8]), (2655, .list [.int 8]), (2487, .list [.int 11]), (2486, .list [.int 7]), (2479, .list [.int 2]), (2350, .list [.int 11]), (2349, .list [.int 6]), (2345, .list [.int 9]), (2235, .list [.int 11]), (2234, .list [.int 5]), (2227, .list [.int 3]), (2098, .list [.int 11]), (2097, .list [.int 4]), (2090, .list [.int 4]), (1961, .list [.int 11]), (1960, .list [.int 3]), (1956, .list [.int 6]), (1846, .list [.int 11]), (1845, .list [.int 2]), (1838, .list [.int 1]), (1768, .list [.int 11]), (1767, .list [.int 1]), (15, .code), (1, .list [.int 0, .int 0, .int 5, .int 0, .int 10, .int 7, .int 5, .int 2, .int 4, .int 0, .int 1, .int 0, .int 10, .int 10, .int 7, .int 7, .int 9, .int 3, .int 5, .int 8, .int 6, .int 2]), (0, .tab 0 (some 15))] K = K .nxt [.unb, .unb, .ref 1, .int 10, .int 8, .int 11, .int 10, .ref 3234, .ref 3236] 3238 [(3237, .tup [.ref 3234, .ref 3236]), (3236, .list []), (3234, .list [.int 163, .int 8, .int 5]), (3230, .list [.int 11]), (3228, .list [.int 1, .int 95, .int 55]), (3227, .list [.int 0, .int 95, .int 55]), (3080, .list [.int 10]), (2970, .list [.int 11]), (2969, .list [.int 10]), (2962, .list [.int 5]), (2833, .list [.int 11]), (2832, .list [.int 9]), (2828, .list [.int 7]), (2660, .list [.int 11]), (2659, .list [.int 8]), (2655, .list [.int 8]), (2487, .list [.int 11]), (2486, .list [.int 7]), (2479, .list [.int 2]), (2350, .list [.int 11]), (2349, .list [.int 6]), (2345, .list [.int 9]), (2235, .list [.int 11]), (2234, .list [.int 5]), (2227, .list [.int 3]), (2098, .list [.int 11]), (2097, .list [.int 4]), (2090, .list [.int 4]), (1961, .list [.int 11]), (1960, .list [.int 3]), (1956, .list [.int 6]), (1846, .list [.int 11]), (1845, .list [.int 2]), (1838, .list [.int 1]), (1768, .list [.int 11]), (1767, .list [.int 1]), (15, .code), (1, .list [.int 0, .int 0, .int 5, .int 0, .int 10, .int 7, .int 5, .int 2, .int 4, .int 0, .int 1, .int 0, .int 10, .int 10, .int 7, .int 7, .int 9, .int 3, .int 5, .int 8, .int 6, .int 2]), (0, .tab 0 (some 15))] := by kernel_rfl
theorem e8x11e (K : KS) : l_law4 [.unb, .unb, .ref 1, .int 10, .int 8, .int 11, .int 10, .ref 3234, .ref 3236] 3238 [(3237, .tup [.ref 3234, .ref 3236]), (3236, .list []), (3234, .list [.int 163, .int 8, .int 5]), (3230, .list [.int 11]), (3228, .list [.int 1, .int 95, .int 55]), (3227, .list [.int 0, .int 95, .int 55]), (3080, .list [.int 10]), (2970, .list [.int 11]), (2969, .list [.int 10]), (2962, .list [.int 5]), (2833, .list [.int 11]), (2832, .list [.int 9]), (2828, .list [.int 7]), (2660, .list [.int 11]), (2659, .list [.int 8]), (2655, .list [.int 8]), (2487, .list [.int 11]), (2486, .list [.int 7]), (2479, .list [.int 2]), (2350, .list [.int 11]), (2349, .list [.int 6]), (2345, .list [.int 9]), (2235, .list [.int 11]), (2234, .list [.int 5]), (2227, .list [.int 3]), (2098, .list [.int 11]), (2097, .list [.int 4]), (2090, .list [.int 4]), (1961, .list [.int 11]), (1960, .list [.int 3]), (1956, .list [.int 6]), (1846, .list [.int 11]), (1845, .list [.int 2]), (1838, .list [.int 1]), (1768, .list [.int 11]), (1767, .list [.int 1]), (15, .code), (1, .list [.int 0, .int 0, .int 5, .int 0, .int 10, .int 7, .int 5, .int 2, .int 4, .int 0, .int 1, .int 0, .int 10, .int 10, .int 7, .int 7, .int 9, .int 3, .int 5, .int 8, .int 6, .int 2]), (0, .tab 0 (some 15))] K = K (.ret (.bool true)) [.unb, .unb, .ref 1, .int 10, .int 8, .int 11, .int 10, .ref 3234, .ref 3236] 3241 [(3240, .list [.int 0, .int 0, .int 5, .int 0, .int 10, .int 7, .int 5, .int 2, .int 4, .int 0, .int 1]), (3238, .list []), (3237, .tup [.ref 3234, .ref 3236]), (3236, .list []), (3234, .list [.int 163, .int 8, .int 5]), (3230, .list [.int 11]), (3228, .list [.int 1, .int 95, .int 55]), (3227, .list [.int 0, .int 95, .int 55]), (3080, .list [.int 10]), (2970, .list [.int 11]), (2969, .list [.int 10]), (2962, .list [.int 5]), (2833, .list [.int 11]), (2832, .list [.int 9]), (2828, .list [.int 7]), (2660, .list [.int 11]), (2659, .list [.int 8]), (2655, .list [.int 8]), (2487, .list [.int 11]), (2486, .list [.int 7]), (2479, .list [.int 2]), (2350, .list [.int 11]), (2349, .list [.int 6]), (2345, .list [.int 9]), (2235, .list [.int 11]), (2234, .list [.int 5]), (2227, .list [.int 3]), (2098, .list [.int 11]), (2097, .list [.int 4]), (2090, .list [.int 4]), (1961, .list [.int 11]), (1960, .list [.int 3]), (1956, .list [.int 6]), (1846, .list [.int 11]), (1845, .list [.int 2]), (1838, .list [.int 1]), (1768, .list [.int 11]), (1767, .list [.int 1]), (15, .code), (1, .list [.int 0, .int 0, .int 5, .int 0, .int 10, .int 7, .int 5, .int 2, .int 4, .int 0, .int 1, .int 0, .int 10, .int 10, .int 7, .int 7, .int 9, .int 3, .int 5, .int 8, .int 6, .int 2]), (0, .tab 0 (some 15))] := by kernel_rfl
theorem e8x11 : c_law (loc0 8 11) 1 [(0, .tab 0 none)] finK = true := law_chain e8x11a e8x11b e8x11c e8x11d e8x11e rfl
theorem e9x11a (K : KS) : l_law0 [.unb, .unb, .unb, .unb, .int 9, .int 11, .unb, .unb, .unb] 1 [(0, .tab 0 none)] K = K .nxt [.unb, .unb, .ref 1, .unb, .int 9, .int 11, .unb, .unb, .unb] 2 [(1, .list [.int 0]), (0, .tab 0 none)] := by kernel_rfl
theorem e9x11b_1 (K : KS) : l_turn1 [.unb, .unb, .ref 1, .int 1, .int 9, .int 11, .unb, .unb, .unb] 2 [(1, .list [.int 0]), (0, .tab 0 none)] K = K .nxt [.unb, .unb, .ref 1, .int 1, .int 9, .int 11, .unb, .unb, .unb] 71 [(15, .code), (1, .list [.int 0, .int 0]), (0, .tab 0 (some 15))] := by kernel_rfl
theorem e9x11b_2 (K : KS) : l_turn1 [.unb, .unb, .ref 1, .int 2, .int 9, .int 11, .unb, .unb, .unb] 71 [(15, .code), (1, .list [.int 0, .int 0]), (0, .tab 0 (some 15))] K = K .nxt [.unb, .unb, .ref 1, .int 2, .int 9, .int 11, .unb, .unb, .unb] 147 [(15, .code), (1, .list [.int 0, .int 0, .int 5]), (0, .tab 0 (some 15))] := by kernel_rfl
theorem e9x11b_3 (K : KS) : l_turn1 [.unb, .unb, .ref 1, .int 3, .int 9, .int 11, .unb, .unb, .unb] 147 [(15, .code), (1, .list [.int 0, .int 0, .int 5]), (0, .tab 0 (some 15))] K = K .nxt [.unb, .unb, .ref 1, .int 3, .int 9, .int 11, .unb, .unb, .unb] 219 [(15, .code), (1, .list [.int 0, .int 0, .int 5, .int 0]), (0, .tab 0 (some 15))] := by kernel_rfl
theorem e9x11b_4 (K : KS) : l_turn1 [.unb, .unb, .ref 1, .int 4, .int 9, .int 11, .unb, .unb, .unb] 219 [(15, .code), (1, .list [.int 0, .int 0, .int 5, .int 0]), (0, .tab 0 (some 15))] K = K .nxt [.unb, .unb, .ref 1, .int 4, .int 9, .int 11, .unb, .unb, .unb] 299 [(15, .code), (1, .list [.int 0, .int 0, .int 5, .int 0, .int 10]), (0, .tab 0 (some 15))] := by kernel_rfl
theorem e9x11b_5 (K : KS) : l_turn1 [.unb, .unb, .ref 1, .int 5, .int 9, .int 11, .unb, .unb, .unb] 299 [(15, .code), (1, .list [.int 0, .int 0, .int 5, .int 0, .int 10]), (0, .tab 0 (some 15))] K = K .nxt [.unb, .unb, .ref 1, .int 5, .int 9, .int 11, .unb, .unb, .unb] 383 [(15, .code), (1, .list [.int 0, .int 0, .int 5, .int 0, .int 10, .int 7]), (0, .tab 0 (some 15))] := by kernel_rfl
theorem e9x11b_6 (K : KS) : l_turn1 [.unb, .unb, .ref 1, .int 6, .int 9, .int 11, .unb, .unb, .unb] 383 [(15, .code), (1, .list [.int 0, .int 0, .int 5, .int 0, .int 10, .int 7]), (0, .tab 0 (some 15))] K = K .nxt [.unb, .unb, .ref 1, .int 6, .int 9, .int 11, .unb, .unb, .unb] 471 [(15, .code), (1, .list [.int 0, .int 0, .int 5, .int 0, .int 10, .int 7, .int 5]), (0, .tab 0 (some 15))] := by kernel_rfl
theorem e9x11b_7 (K : KS) : l_turn1 [.unb, .unb, .ref 1, .int 7, .int 9, .int 11, .unb, .unb, .unb] 471 [(15, .code), (1, .list [.int 0, .int 0, .int 5, .int 0, .int 10, .int 7, .int 5]), (0, .tab 0 (some 15))] K = K .nxt [.unb, .unb, .ref 1, .int 7, .int 9, .int 11, .unb, .unb, .unb] 559 [(15, .code), (1, .list [.int 0, .int 0, .int 5, .int 0, .int 10, .int 7, .int 5, .int 2]), (0, .tab 0 (some 15))] := by kernel_rfl
theorem e9x11b_8 (K : KS) : l_turn1 [.unb, .unb, .ref 1, .int 8, .int 9, .int 11, .unb, .unb, .unb] 559 [(15, .code), (1, .list [.int 0, .int 0, .int 5, .int 0, .int 10, .int 7, .int 5, .int 2]), (0, .tab 0 (some 15))] K = K .nxt [.unb, .unb, .ref 1, .int 8, .int 9, .int 11, .unb, .unb, .unb] 647 [(15, .code), (1, .list [.int 0, .int 0, .int 5, .int 0, .int 10, .int 7, .int 5, .int 2, .int 4]), (0, .tab 0 (some 15))] := by kernel_rfl
theorem e9x11b_9 (K : KS) : l_turn1 [.unb, .unb, .ref 1, .int 9, .int 9, .int 11, .unb, .unb, .unb] 647 [(15, .code), (1, .list [.int 0, .int 0, .int 5, .int 0, .int 10, .int 7, .int 5, .int 2, .int 4]), (0, .tab 0 (some 15))] K = K .nxt [.unb, .unb, .ref 1, .int 9, .int 9, .int 11, .unb, .unb, .unb] 727 [(15, .code), (1, .list [.int 0, .int 0, .int 5, .int 0, .int 10, .int 7, .int 5, .int 2, .int 4, .int 0]), (0, .tab 0 (some 15))] := by kernel_rfl
theorem e9x11b_10 (K : KS) : l_turn1 [.unb, .unb, .ref 1, .int 10, .int 9, .int 11, .unb, .unb, .unb] 727 [(15, .code), (1, .list [.int 0, .int 0, .int 5, .int 0, .int 10, .int 7, .int 5, .int 2, .int 4, .int 0]), (0, .tab 0 (some 15))] K = K .nxt [.unb, .unb, .ref 1, .int 10, .int 9, .int 11, .unb, .unb, .unb] 815 [(15, .code), (1, .list [.int 0, .int 0, .int 5, .int 0, .int 10, .int 7, .int 5, .int 2, .int 4, .int 0, .int 1]), (0, .tab 0 (some 15))] := by kernel_rfl
theorem e9x11b_11 (K : KS) : l_turn1 [.unb, .unb, .ref 1, .int 11, .int 9, .int 11, .unb, .unb, .unb] 815 [(15, .code), (1, .list [.int 0, .int 0, .int 5, .int 0, .int 10, .int 7, .int 5, .int 2, .int 4, .int 0, .int 1]), (0, .tab 0 (some 15))] K = K .nxt [.unb, .unb, .ref 1, .int 11, .int 9, .int 11, .unb, .unb, .unb] 815 [(15, .code), (1, .list [.int 0, .int 0, .int 5, .int 0, .int 10, .int 7, .int 5, .int 2, .int 4, .int 0, .int 1, .int 0]), (0, .tab 0 (some 15))] := by kernel_rfl
theorem e9x11b_12 (K : KS) : l_turn1 [.unb, .unb, .ref 1, .int 12, .int 9, .int 11, .unb, .unb, .unb] 815 [(15, .code), (1, .list [.int 0, .int 0, .int 5, .int 0, .int 10, .int 7, .int 5, .int 2, .int 4, .int 0, .int 1, .int 0]), (0, .tab 0 (some 15))] K = K .nxt [.unb, .unb, .ref 1, .int 12, .int 9, .int 11, .unb, .unb, .unb] 911 [(15, .code), (1, .list [.int 0, .int 0, .int 5, .int 0, .int 10, .int 7, .int 5, .int 2, .int 4, .int 0, .int 1, .int 0, .int 10]), (0, .tab 0 (some 15))] := by kernel_rfl
theorem e9x11b_13 (K : KS) : l_turn1 [.unb, .unb, .ref 1, .int 13, .int 9, .int 11, .unb, .unb, .unb] 911 [(15, .code), (1, .list [.int 0, .int 0, .int 5, .int 0, .int 10, .int 7, .int 5, .int 2, .int 4, .int 0, .int 1, .int 0, .int 10]), (0, .tab 0 (some 15))] K = K .nxt [.unb, .unb, .ref 1, .int 13, .int 9, .int 11, .unb, .unb, .unb] 1003 [(15, .code), (1, .list [.int 0, .int 0, .int 5, .int 0, .int 10, .int 7, .int 5, .int 2, .int 4, .int 0, .int 1, .int 0, .int 10, .int 10]), (0, .tab 0 (some 15))] := by kernel_rfl
theorem e9x11b_14 (K : KS) : l_turn1 [.unb, .unb, .ref 1, .int 14, .int 9, .int 11, .unb, .unb, .unb] 1003 [(15, .code), (1, .list [.int 0, .int 0, .int 5, .int 0, .int 10, .int 7, .int 5, .int 2, .int 4, .int 0, .int 1, .int 0, .int 10, .int 10]), (0, .tab 0 (some 15))] K = K .nxt [.unb, .unb, .ref 1, .int 14, .int 9, .int 11, .unb, .unb, .unb] 1099 [(15, .code), (1, .list [.int 0, .int 0, .int 5, .int 0, .int 10, .int 7, .int 5, .int 2, .int 4, .int 0, .int 1, .int 0, .int 10, .int 10, .int 7]), (0, .tab 0 (some 15))] := by kernel_rfl
theorem e9x11b_15 (K : KS) : l_turn1 [.unb, .unb, .ref 1, .int 15, .int 9, .int 11, .unb, .unb, .unb] 1099 [(15, .code), (1, .list [.int 0, .int 0, .int 5, .int 0, .int 10, .int 7, .int 5, .int 2, .int 4, .int 0, .int 1, .int 0, .int 10, .int 10, .int 7]), (0, .tab 0 (some 15))] K = K .nxt [.unb, .unb, .ref 1, .int 15, .int 9, .int 11, .unb, .unb, .unb] 1195 [(15, .code), (1, .list [.int 0, .int 0, .int 5, .int 0, .int 10, .int 7, .int 5, .int 2, .int 4, .int 0, .int 1, .int 0, .int 10, .int 10, .int 7, .int 7]), (0, .tab 0 (some 15))] := by kernel_rfl
theorem e9x11b_16 (K : KS) : l_turn1 [.unb, .unb, .ref 1, .int 16, .int 9, .int 11, .unb, .unb, .unb] 1195 [(15, .code), (1, .list [.int 0, .int 0, .int 5, .int 0, .int 10, .int 7, .int 5, .int 2, .int 4, .int 0, .int 1, .int 0, .int 10, .int 10, .int 7, .int 7]), (0, .tab 0 (some 15))] K = K .nxt [.unb, .unb, .ref 1, .int 16, .int 9, .int 11, .unb, .unb, .unb] 1291 [(15, .code), (1, .list [.int 0, .int 0, .int 5, .int 0, .int 10, .int 7, .int 5, .int 2, .int 4, .int 0, .int 1, .int 0, .int 10, .int 10, .int 7, .int 7, .int 9]), (0, .tab 0 (some 15))] := by kernel_rfl
theorem e9x11b_17 (K : KS) : l_turn1 [.unb, .unb, .ref 1, .int 17, .int 9, .int 11, .unb, .unb, .unb] 1291 [(15, .code), (1, .list [.int 0, .int 0, .int 5, .int 0, .int 10, .int 7, .int 5, .int 2, .int 4, .int 0, .int 1, .int 0, .int 10, .int 10, .int 7, .int 7, .int 9]), (0, .tab 0 (some 15))] K = K .nxt [.unb, .unb, .ref 1, .int 17, .int 9, .int 11, .unb, .unb, .unb] 1387 [(15, .code), (1, .list [.int 0, .int 0, .int 5, .int 0, .int 10, .int 7, .int 5, .int 2, .int 4, .int 0, .int 1, .int 0, .int 10, .int 10, .int 7, .int 7, .int 9, .int 3]), (0, .tab 0 (some 15))] := by kernel_rfl
theorem e9x11b_18 (K : KS) : l_turn1 [.unb, .unb, .ref 1, .int 18, .int 9, .int 11, .unb, .unb, .unb] 1387 [(15, .code), (1, .list [.int 0, .int 0, .int 5, .int 0, .int 10, .int 7, .int 5, .int 2, .int 4, .int 0, .int 1, .int 0, .int 10, .int 10, .int 7, .int 7, .int 9, .int 3]), (0, .tab 0 (some 15))] K = K .nxt [.unb, .unb, .ref 1, .int 18, .int 9, .int 11, .unb, .unb, .unb] 1483 [(15, .code), (1, .list [.int 0, .int 0, .int 5, .int 0, .int 10, .int 7, .int 5, .int 2, .int 4, .int 0, .int 1, .int 0, .int 10, .int 10, .int 7, .int 7, .int 9, .int 3, .int 5]), (0, .tab 0 (some 15))] := by kernel_rfl
theorem e9x11b_19 (K : KS) : l_turn1 [.unb, .unb, .ref 1, .int 19, .int 9, .int 11, .unb, .unb, .unb] 1483 [(15, .code), (1, .list [.int 0, .int 0, .int 5, .int 0, .int 10, .int 7, .int 5, .int 2, .int 4, .int 0, .int 1, .int 0, .int 10, .int 10, .int 7, .int 7, .int 9, .int 3, .int 5]), (0, .tab 0 (some 15))] K = K .nxt [.unb, .unb, .ref 1, .int 19, .int 9, .int 11, .unb, .unb, .unb] 1575 [(15, .code), (1, .list [.int 0, .int 0, .int 5, .int 0, .int 10, .int 7, .int 5, .int 2, .int 4, .int 0, .int 1, .int 0, .int 10, .int 10, .int 7, .int 7, .int 9, .int 3, .int 5, .int 8]), (0, .tab 0 (some 15))] := by kernel_rfl
theorem e9x11b_20 (K : KS) : l_turn1 [.unb, .unb, .ref 1, .int 20, .int 9, .int 11, .unb, .unb, .unb] 1575 [(15, .code), (1, .list [.int 0, .int 0, .int 5, .int 0, .int 10, .int 7, .int 5, .int 2, .int 4, .int 0, .int 1, .int 0, .int 10, .int 10, .int 7, .int 7, .int 9, .int 3, .int 5, .int 8]), (0, .tab 0 (some 15))] K = K .nxt [.unb, .unb, .ref 1, .int 20, .int 9, .int 11, .unb, .unb, .unb] 1671 [(15, .code), (1, .list [.int 0, .int 0, .int 5, .int 0, .int 10, .int 7, .int 5, .int 2, .int 4, .int 0, .int 1, .int 0, .int 10, .int 10, .int 7, .int 7, .int 9, .int 3, .int 5, .int 8, .int 6]), (0, .tab 0 (some 15))] := by kernel_rfl
theorem e9x11b_21 (K : KS) : l_turn1 [.unb, .unb, .ref 1, .int 21, .int 9, .int 11, .unb, .unb, .unb] 1671 [(15, .code), (1, .list [.int 0, .int 0, .int 5, .int 0, .int 10, .int 7, .int 5, .int 2, .int 4, .int 0, .int 1, .int 0, .int 10, .int 10, .int 7, .int 7, .int 9, .int 3, .int 5, .int 8, .int 6]), (0, .tab 0 (some 15))] K = K .nxt [.unb, .unb, .ref 1, .int 21, .int 9, .int 11, .unb, .unb, .unb] 1767 [(15, .code), (1, .list [.int 0, .int 0, .int 5, .int 0, .int 10, .int 7, .int 5, .int 2, .int 4, .int 0, .int 1, .int 0, .int 10, .int 10, .int 7, .int 7, .int 9, .int 3, .int 5, .int 8, .int 6, .int 2]), (0, .tab 0 (some 15))] := by kernel_rfl
theorem e9x11b (K : KS) : l_law1 [.unb, .unb, .ref 1, .unb, .int 9, .int 11, .unb, .unb, .unb] 2 [(1, .list [.int 0]), (0, .tab 0 none)] K = K .nxt [.unb, .unb, .ref 1, .int 21, .int 9, .int 11, .unb, .unb, .unb] 1767 [(15, .code), (1, .list [.int 0, .int 0, .int 5, .int 0, .int 10, .int 7, .int 5, .int 2, .int 4, .int 0, .int 1, .int 0, .int 10, .int 10, .int 7, .int 7, .int 9, .int 3, .int 5, .int 8, .int 6, .int 2]), (0, .tab 0 (some 15))] :=
  (for_start (hi := 22) (c := 21) (fun _ => by kernel_rfl) (by kernel_rfl) (by kernel_rfl)).trans ((loop_turn (f := 20) (fun _ => rfl) rfl e9x11b_1).trans ((loop_turn (f := 19) (fun _ => rfl) rfl e9x11b_2).trans ((loop_turn (f := 18) (fun _ => rfl) rfl e9x11b_3).trans ((loop_turn (f := 17) (fun _ => rfl) rfl e9x11b_4).trans ((loop_turn (f := 16) (fun _ => rfl) rfl e9x11b_5).trans ((loop_turn (f := 15) (fun _ => rfl) rfl e9x11b_6).trans ((loop_turn (f := 14) (fun _ => rfl) rfl e9x11b_7).trans ((loop_turn (f := 13) (fun _ => rfl) rfl e9x11b_8).trans ((loop_turn (f := 12) (fun _ => rfl) rfl e9x11b_9).trans ((loop_turn (f := 11) (fun _ => rfl) rfl e9x11b_10).trans ((loop_turn (f := 10) (fun _ => rfl) rfl e9x11b_11).trans ((loop_turn (f := 9) (fun _ => rfl) rfl e9x11b_12).trans ((loop_turn (f := 8) (fun _ => rfl) rfl e9x11b_13).trans ((loop_turn (f := 7) (fun _ => rfl) rfl e9x11b_14).trans ((loop_turn (f := 6) (fun _ => rfl) rfl e9x11b_15).trans ((loop_turn (f := 5) (fun _ => rfl) rfl e9x11b_16).trans ((loop_turn (f := 4) (fun _ => rfl) rfl e9x11b_17).trans ((loop_turn (f := 3) (fun _ => rfl) rfl e9x11b_18).trans ((loop_turn (f := 2) (fun _ => rfl) rfl e9x11b_19).trans ((loop_turn (f := 1) (fun _ => rfl) rfl e9x11b_20).trans ((loop_turn (f := 0) (fun _ => rfl) rfl e9x11b_21).trans rfl)))))))))))))))))))))
theorem e9x11c_1 (K : KS) : l_turn2 [.unb, .unb, .ref 1, .int 1, .int 9, .int 11, .unb, .unb, .unb] 1767 [(15, .code), (1, .list [.int 0, .int 0, .int 5, .int 0, .int 10, .int 7, .int 5, .int 2, .int 4, .int 0, .int 1, .int 0, .int 10, .int 10, .int 7, .int 7, .int 9, .int 3, .int 5, .int 8, .int 6, .int 2]), (0, .tab 0 (some 15))] K = K .nxt [.unb, .unb, .ref 1, .int 1, .int 9, .int 11, .int 1, .unb, .unb] 1845 [(1838, .list [.int 1]), (1768, .list [.int 11]), (1767, .list [.int 1]), (15, .code), (1, .list [.int 0, .int 0, .int 5, .int 0, .int 10, .int 7, .int 5, .int 2, .int 4, .int 0, .int 1, .int 0, .int 10, .int 10, .int 7, .int 7, .int 9, .int 3, .int 5, .int 8, .int 6, .int 2]), (0, .tab 0 (some 15))] := by kernel_rfl
theorem e9x11c_2 (K : KS) : l_turn2 [.unb, .unb, .ref 1, .int 2, .int 9, .int 11, .int 1, .unb, .unb] 1845 [(1838, .list [.int 1]), (1768, .list [.int 11]), (1767, .list [.int 1]), (15, .code), (1, .list [.int 0, .int 0, .int 5, .int 0, .int 10, .int 7, .int 5, .int 2, .int 4, .int 0, .int 1, .int 0, .int 10, .int 10, .int 7, .int 7, .int 9, .int 3, .int 5, .int 8, .int 6, .int 2]), (0, .tab 0 (some 15))] K = K .nxt [.unb, .unb, .ref 1, .int 2, .int 9, .int 11, .int 6, .unb, .unb] 1960 [(1956, .list [.int 6]), (1846, .list [.int 11]), (1845, .list [.int 2]), (1838, .list [.int 1]), (1768, .list [.int 11]), (1767, .list [.int 1]), (15, .code), (1, .list [.int 0, .int 0, .int 5, .int 0, .int 10, .int 7, .int 5, .int 2, .int 4, .int 0, .int 1, .int 0, .int 10, .int 10, .int 7, .int 7, .int 9, .int 3, .int 5, .int 8, .int 6, .int 2]), (0, .tab 0 (some 15))] := by kernel_rfl
theorem e9x11c_3 (K : KS) : l_turn2 [.unb, .unb, .ref 1, .int 3, .int 9, .int 11, .int 6, .unb, .unb] 1960 [(1956, .list [.int 6]), (1846, .list [.int 11]), (1845, .list [.int 2]), (1838, .list [.int 1]), (1768, .list [.int 11]), (1767, .list [.int 1]), (15, .code), (1, .list [.int 0, .int 0, .int 5, .int 0, .int 10, .int 7, .int 5, .int 2, .int 4, .int 0, .int 1, .int 0, .int 10, .int 10, .int 7, .int 7, .int 9, .int 3, .int 5, .int 8, .int 6, .int 2]), (0, .tab 0 (some 15))] K = K .nxt [.unb, .unb, .ref 1, .int 3, .int 9, .int 11, .int 4, .unb, .unb] 2097 [(2090, .list [.int 4]), (1961, .list [.int 11]), (1960, .list [.int 3]), (1956, .list [.int 6]), (1846, .list [.int 11]), (1845, .list [.int 2]), (1838, .list [.int 1]), (1768, .list [.int 11]), (1767, .list [.int 1]), (15, .code), (1, .list [.int 0, .int 0, .int 5, .int 0, .int 10, .int 7, .int 5, .int 2, .int 4, .int 0, .int 1, .int 0, .int 10, .int 10, .int 7, .int 7, .int 9, .int 3, .int 5, .int 8, .int 6, .int 2]), (0, .tab 0 (some 15))] := by kernel_rfl
theorem e9x11c_4 (K : KS) : l_turn2 [.unb, .unb, .ref 1, .int 4, .int 9, .int 11, .int 4, .unb, .unb] 2097 [(2090, .list [.int 4]), (1961, .list [.int 11]), (1960, .list [.int 3]), (1956, .list [.int 6]), (1846, .list [.int 11]), (1845, .list [.int 2]), (1838, .list [.int 1]), (1768, .list [.int 11]), (1767, .list [.int 1]), (15, .code), (1, .list [.int 0, .int 0, .int 5, .int 0, .int 10, .int 7, .int 5, .int 2, .int 4, .int 0, .int 1, .int 0, .int 10, .int 10, .int 7, .int 7, .int 9, .int 3, .int 5, .int 8, .int 6, .int 2]), (0, .tab 0 (some 15))] K = K .nxt [.unb, .unb, .ref 1, .int 4, .int 9, .int 11, .int 3, .unb, .unb] 2234 [(2227, .list [.int 3]), (2098, .list [.int 11]), (2097, .list [.int 4]), (2090, .list [.int 4]), (1961, .list [.int 11]), (1960, .list [.int 3]), (1956, .list [.int 6]), (1846, .list [.int 11]), (1845, .list [.int 2]), (1838, .list [.int 1]), (1768, .list [.int 11]), (1767, .list [.int 1]), (15, .code), (1, .list [.int 0, .int 0, .int 5, .int 0, .int 10, .int 7, .int 5, .int 2, .int 4, .int 0, .int 1, .int 0, .int 10, .int 10, .int 7, .int 7, .int 9, .int 3, .int 5, .int 8, .int 6, .int 2]), (0, .tab 0 (some 15))] := by kernel_rfl
theorem e9x11c_5 (K : KS) : l_turn2 [.unb, .unb, .ref 1, .int 5, .int 9, .int 11, .int 3, .unb, .unb] 2234 [(2227, .list [.int 3]), (2098, .list [.int 11]), (2097, .list [.int 4]), (2090, .list [.int 4]), (1961, .list [.int 11]), (1960, .list [.int 3]), (1956, .list [.int 6]), (1846, .list [.int 11]), (1845, .list [.int 2]), (1838, .list [.int 1]), (1768, .list [.int 11]), (1767, .list [.int 1]), (15, .code), (1, .list [.int 0, .int 0, .int 5, .int 0, .int 10, .int 7, .int 5, .int 2, .int 4, .int 0, .int 1, .int 0, .int 10, .int 10, .int 7, .int 7, .int 9, .int 3, .int 5, .int 8, .int 6, .int 2]), (0, .tab 0 (some 15))] K = K .nxt [.unb, .unb, .ref 1, .int 5, .int 9, .int 11, .int 9, .unb, .unb] 2349 [(2345, .list [.int 9]), (2235, .list [.int 11]), (2234, .list [.int 5]), (2227, .list [.int 3]), (2098, .list [.int 11]), (2097, .list [.int 4]), (2090, .list [.int 4]), (1961, .list [.int 11]), (1960, .list [.int 3]), (1956, .list [.int 6]), (1846, .list [.int 11]), (1845, .list [.int 2]), (1838, .list [.int 1]), (1768, .list [.int 11]), (1767, .list [.int 1]), (15, .code), (1, .list [.int 0, .int 0, .int 5, .int 0, .int 10, .int 7, .int 5, .int 2, .int 4, .int 0, .int 1, .int 0, .int 10, .int 10, .int 7, .int 7, .int 9, .int 3, .int 5, .int 8, .int 6, .int 2]), (0, .tab 0 (some 15))] := by kernel_rfl
theorem e9x11c_6 (K : KS) : l_turn2 [.unb, .unb, .ref 1, .int 6, .int 9, .int 11, .int 9, .unb, .unb] 2349 [(2345, .list [.int 9]), (2235, .list [.int 11]), (2234, .list [.int 5]), (2227, .list [.int 3]), (2098, .list [.int 11]), (2097, .list [.int 4]), (2090, .list [.int 4]), (1961, .list [.int 11]), (1960, .list [.int 3]), (1956, .list [.int 6]), (1846, .list [.int 11]), (1845, .list [.int 2]), (1838, .list [.int 1]), (1768, .list [.int 11]), (1767, .list [.int 1]), (15, .code), (1, .list [.int 0, .int 0, .int 5, .int 0, .int 10, .int 7, .int 5, .int 2, .int 4, .int 0, .int 1, .int 0, .int 10, .int 10, .int 7, .int 7, .int 9, .int 3, .int 5, .int 8, .int 6, .int 2]), (0, .tab 0 (some 15))] K = K .nxt [.unb, .unb, .ref 1, .int 6, .int 9, .int 11, .int 2, .unb, .unb] 2486 [(2479, .list [.int 2]), (2350, .list [.int 11]), (2349, .list [.int 6]), (2345, .list [.int 9]), (2235, .list [.int 11]), (2234, .list [.int 5]), (2227, .list [.int 3]), (2098, .list [.int 11]), (2097, .list [.int 4]), (2090, .list [.int 4]), (1961, .list [.int 11]), (1960, .list [.int 3]), (1956, .list [.int 6]), (1846, .list [.int 11]), (1845, .list [.int 2]), (1838, .list [.int 1]), (1768, .list [.int 11]), (1767, .list [.int 1]), (15, .code), (1, .list [.int 0, .int 0, .int 5, .int 0, .int 10, .int 7, .int 5, .int 2, .int 4, .int 0, .int 1, .int 0, .int 10, .int 10, .int 7, .int 7, .int 9, .int 3, .int 5, .int 8, .int 6, .int 2]), (0, .tab 0 (some 15))] := by kernel_rfl
theorem e9x11c_7 (K : KS) : l_turn2 [.unb, .unb, .ref 1, .int 7, .int 9, .int 11, .int 2, .unb, .unb] 2486 [(2479, .list [.int 2]), (2350, .list [.int 11]), (2349, .list [.int 6]), (2345, .list [.int 9]), (2235, .list [.int 11]), (2234, .list [.int 5]), (2227, .list [.int 3]), (2098, .list [.int 11]), (2097, .list [.int 4]), (2090, .list [.int 4]), (1961, .list [.int 11]), (1960, .list [.int 3]), (1956, .list [.int 6]), (1846, .list [.int 11]), (1845, .list [.int 2]), (1838, .list [.int 1]), (1768, .list [.int 11]), (1767, .list [.int 1]), (15, .code), (1, .list [.int 0, .int 0, .int 5, .int 0, .int 10, .int 7, .int 5, .int 2, .int 4, .int 0, .int 1, .int 0, .int 10, .int 10, .int 7, .int 7, .int 9, .int 3, .int 5, .int 8, .int 6, .int 2]), (0, .tab 0 (some 15))] K = K .nxt [.unb, .unb, .ref 1, .int 7, .int 9, .int 11, .int 8, .unb, .unb] 2659 [(2655, .list [.int 8]), (2487, .list [.int 11]), (2486, .list [.int 7]), (2479, .list [.int 2]), (2350, .list [.int 11]), (2349, .list [.int 6]), (2345, .list [.int 9]), (2235, .list [.int 11]), (2234, .list [.int 5]), (2227, .list [.int 3]), (2098, .list [.int 11]), (2097, .list [.int 4]), (2090, .list [.int 4]), (1961, .list [.int 11]), (1960, .list [.int 3]), (1956, .list [.int 6]), (1846, .list [.int 11]), (1845, .list [.int 2]), (1838, .list [.int 1]), (1768, .list [.int 11]), (1767, .list [.int 1]), (15, .code), (1, .list [.int 0, .int 0, .int 5, .int 0, .int 10, .int 7, .int 5, .int 2, .int 4, .int 0, .int 1, .int 0, .int 10, .int 10, .int 7, .int 7, .int 9, .int 3, .int 5, .int 8, .int 6, .int 2]), (0, .tab 0 (some 15))] := by kernel_rfl
theorem e9x11c_8 (K : KS) : l_turn2 [.unb, .unb, .ref 1, .int 8, .int 9, .int 11, .int 8, .unb, .unb] 2659 [(2655, .list [.int 8]), (2487, .list [.int 11]), (2486, .list [.int 7]), (2479, .list [.int 2]), (2350, .list [.int 11]), (2349, .list [.int 6]), (2345, .list [.int 9]), (2235, .list [.int 11]), (2234, .list [.int 5]), (2227, .list [.int 3]), (2098, .list [.int 11]), (2097, .list [.int 4]), (2090, .list [.int 4]), (1961, .list [.int 11]), (1960, .list [.int 3]), (1956, .list [.int 6]), (1846, .list [.int 11]), (1845, .list [.int 2]), (1838, .list [.int 1]), (1768, .list [.int 11]), (1767, .list [.int 1]), (15, .code), (1, .list [.int 0, .int 0, .int 5, .int 0, .int 10, .int 7, .int 5, .int 2, .int 4, .int 0, .int 1, .int 0, .int 10, .int 10, .int 7, .int 7, .int 9, .int 3, .int 5, .int 8, .int 6, .int 2]), (0, .tab 0 (some 15))] K = K .nxt [.unb, .unb, .ref 1, .int 8, .int 9, .int 11, .int 7, .unb, .unb] 2832 [(2828, .list [.int 7]), (2660, .list [.int 11]), (2659, .list [.int 8]), (2655, .list [.int 8]), (2487, .list [.int 11]), (2486, .list [.int 7]), (2479, .list [.int 2]), (2350, .list [.int 11]), (2349, .list [.int 6]), (2345, .list [.int 9]), (2235, .list [.int 11]), (2234, .list [.int 5]), (2227, .list [.int 3]), (2098, .list [.int 11]), (2097, .list [.int 4]), (2090, .list [.int 4]), (1961, .list [.int 11]), (1960, .list [.int 3]), (1956, .list [.int 6]), (1846, .list [.int 11]), (1845, .list [.int 2]), (1838, .list [.int 1]), (1768, .list [.int 11]), (1767, .list [.int 1]), (15, .code), (1, .list [.int 0, .int 0, .int 5, .int 0, .int 10, .int 7, .int 5, .int 2, .int 4, .int 0, .int 1, .int 0, .int 10, .int 10, .int 7, .int 7, .int 9, .int 3, .int 5, .int 8, .int 6, .int 2]), (0, .tab 0 (some 15))] := by kernel_rfl
theorem e9x11c_9 (K : KS) : l_turn2 [.unb, .unb, .ref 1, .int 9, .int 9, .int 11, .int 7, .unb, .unb] 2832 [(2828, .list [.int 7]), (2660, .list [.int 11]), (2659, .list [.int 8]), (2655, .list [.int 8]), (2487, .list [.int 11]), (2486, .list [.int 7]), (2479, .list [.int 2]), (2350, .list [.int 11]), (2349, .list [.int 6]), (2345, .list [.int 9]), (2235, .list [.int 11]), (2234, .list [.int 5]), (2227, .list [.int 3]), (2098, .list [.int 11]), (2097, .list [.int 4]), (2090, .list [.int 4]), (1961, .list [.int 11]), (1960, .list [.int 3]), (1956, .list [.int 6]), (1846, .list [.int 11]), (1845, .list [.int 2]), (1838, .list [.int 1]), (1768, .list [.int 11]), (1767, .list [.int 1]), (15, .code), (1, .list [.int 0, .int 0, .int 5, .int 0, .int 10, .int 7, .int 5, .int 2, .int 4, .int 0, .int 1, .int 0, .int 10, .int 10, .int 7, .int 7, .int 9, .int 3, .int 5, .int 8, .int 6, .int 2]), (0, .tab 0 (some 15))] K = K .nxt [.unb, .unb, .ref 1, .int 9, .int 9, .int 11, .int 5, .unb, .unb] 2969 [(2962, .list [.int 5]), (2833, .list [.int 11]), (2832, .list [.int 9]), (2828, .list [.int 7]), (2660, .list [.int 11]), (2659, .list [.int 8]), (2655, .list [.int 8]), (2487, .list [.int 11]), (2486, .list [.int 7]), (2479, .list [.int 2]), (2350, .list [.int 11]), (2349, .list [.int 6]), (2345, .list [.int 9]), (2235, .list [.int 11]), (2234, .list [.int 5]), (2227, .list [.int 3]), (2098, .list [.int 11]), (2097, .list [.int 4]), (2090, .list [.int 4]), (1961, .list [.int 11]), (1960, .list [.int 3]), (1956, .list [.int 6]), (1846, .list [.int 11]), (1845, .list [.int 2]), (1838, .list [.int 1]), (1768, .list [.int 11]), (1767, .list [.int 1]), (15, .code), (1, .list [.int 0, .int 0, .int 5, .int 0, .int 10, .int 7, .int 5, .int 2, .int 4, .int 0, .int 1, .int 0, .int 10, .int 10, .int 7, .int 7, .int 9, .int 3, .int 5, .int 8, .int 6, .int 2]), (0, .tab 0 (some 15))] := by kernel_rfl
theorem e9x11c_10 (K : KS) : l_turn2 [.unb, .unb, .ref 1, .int 10, .int 9, .int 11, .int 5, .unb, .unb] 2969 [(2962, .list [.int 5]), (2833, .list [.int 11]), (2832, .list [.int 9]), (2828, .list [.int 7]), (2660, .list [.int 11]), (2659, .list [.int 8]), (2655, .list [.int 8]), (2487, .list [.int 11]), (2486, .list [.int 7]), (2479, .list [.int 2]), (2350, .list [.int 11]), (2349, .list [.int 6]), (2345, .list [.int 9]), (2235, .list [.int 11]), (2234, .list [.int 5]), (2227, .list [.int 3]), (2098, .list [.int 11]), (2097, .list [.int 4]), (2090, .list [.int 4]), (1961, .list [.int 11]), (1960, .list [.int 3]), (1956, .list [.int 6]), (1846, .list [.int 11]), (1845, .list [.int 2]), (1838, .list [.int 1]), (1768, .list [.int 11]), (1767, .list [.int 1]), (15, .code), (1, .list [.int 0, .int 0, .int 5, .int 0, .int 10, .int 7, .int 5, .int 2, .int 4, .int 0, .int 1, .int 0, .int 10, .int 10, .int 7, .int 7, .int 9, .int 3, .int 5, .int 8, .int 6, .int 2]), (0, .tab 0 (some 15))] K = K .nxt [.unb, .unb, .ref 1, .int 10, .int 9, .int 11, .int 10, .unb, .unb] 3084 [(3080, .list [.int 10]), (2970, .list [.int 11]), (2969, .list [.int 10]), (2962, .list [.int 5]), (2833, .list [.int 11]), (2832, .list [.int 9]), (2828, .list [.int 7]), (2660, .list [.int 11]), (2659, .list [.int 8]), (2655, .list [.int 8]), (2487, .list [.int 11]), (2486, .list [.int 7]), (2479, .list [.int 2]), (2350, .list [.int 11]), (2349, .list [.int 6]), (2345, .list [.int 9]), (2235, .list [.int 11]), (2234, .list [.int 5]), (2227, .list [.int 3]), (2098, .list [.int 11]), (2097, .list [.int 4]), (2090, .list [.int 4]), (1961, .list [.int 11]), (1960, .list [.int 3]), (1956, .list [.int 6]), (1846, .list [.int 11]), (1845, .list [.int 2]), (1838, .list [.int 1]), (1768, .list [.int 11]), (1767, .list [.int 1]), (15, .code), (1, .list [.int 0, .int 0, .int 5, .int 0, .int 10, .int 7, .int 5, .int 2, .int 4, .int 0, .int 1, .int 0, .int 10, .int 10, .int 7, .int 7, .int 9, .int 3, .int 5, .int 8, .int 6, .int 2]), (0, .tab 0 (some 15))] := by kernel_rfl
theorem e9x11c (K : KS) : l_law2 [.unb, .unb, .ref 1, .int 21, .int 9, .int 11, .unb, .unb, .unb] 1767 [(15, .code), (1, .list [.int 0, .int 0, .int 5, .int 0, .int 10, .int 7, .int 5, .int 2, .int 4, .int 0, .int 1, .int 0, .int 10, .int 10, .int 7, .int 7, .int 9, .int 3, .int 5, .int 8, .int 6, .int 2]), (0, .tab 0 (some 15))] K = K .nxt [.unb, .unb, .ref 1, .int 10, .int 9, .int 11, .int 10, .unb, .unb] 3084 [(3080, .list [.int 10]), (2970, .list [.int 11]), (2969, .list [.int 10]), (2962, .list [.int 5]), (2833, .list [.int 11]), (2832, .list [.int 9]), (2828, .list [.int 7]), (2660, .list [.int 11]), (2659, .list [.int 8]), (2655, .list [.int 8]), (2487, .list [.int 11]), (2486, .list [.int 7]), (2479, .list [.int 2]), (2350, .list [.int 11]), (2349, .list [.int 6]), (2345, .list [.int 9]), (2235, .list [.int 11]), (2234, .list [.int 5]), (2227, .list [.int 3]), (2098, .list [.int 11]), (2097, .list [.int 4]), (2090, .list [.int 4]), (1961, .list [.int 11]), (1960, .list [.int 3]), (1956, .list [.int 6]), (1846, .list [.int 11]), (1845, .list [.int 2]), (1838, .list [.int 1]), (1768, .list [.int 11]), (1767, .list [.int 1]), (15, .code), (1, .list [.int 0, .int 0, .int 5, .int 0, .int 10, .int 7, .int 5, .int 2, .int 4, .int 0, .int 1, .int 0, .int 10, .int 10, .int 7, .int 7, .int 9, .int 3, .int 5, .int 8, .int 6, .int 2]), (0, .tab 0 (some 15))] :=
  (for_start (hi := 11) (c := 10) (fun _ => by kernel_rfl) (by kernel_rfl) (by kernel_rfl)).trans ((loop_turn (f := 9) (fun _ => rfl) rfl e9x11c_1).trans ((loop_turn (f := 8) (fun _ => rfl) rfl e9x11c_2).trans ((loop_turn (f := 7) (fun _ => rfl) rfl e9x11c_3).trans ((loop_turn (f := 6) (fun _ => rfl) rfl e9x11c_4).trans ((loop_turn (f := 5) (fun _ => rfl) rfl e9x11c_5).trans ((loop_turn (f := 4) (fun _ => rfl) rfl e9x11c_6).trans ((loop_turn (f := 3) (fun _ => rfl) rfl e9x11c_7).trans ((loop_turn (f := 2) (fun _ => rfl) rfl e9x11c_8).trans ((loop_turn (f := 1) (fun _ => rfl) rfl e9x11c_9).trans ((loop_turn (f := 0) (fun _ => rfl) rfl e9x11c_10).trans rfl))))))))))
theorem e9x11d (K : KS) : l_law3 [.unb, .unb, .ref 1, .int 10, .int 9, .int 11, .int 10, .unb, .unb] 3084 [(3080, .list [.int 10]), (2970, .list [.int 11]), (2969, .list [.int 10]), (2962, .list [.int 5]), (2833, .list [.int 11]), (2832, .list [.int 9]), (2828, .list [.int 7]), (2660, .list [.int 11]), (2659, .list [.int 8]), (2655, .list [.int 8]), (2487, .list [.int 11]), (2486, .list [.int 7]), (2479, .list [.int 2]), (2350, .list [.int 11]), (2349, .list [.int 6]), (2345, .list [.int 9]), (2235, .list [.int 11]), (2234, .list [.int 5]), (2227, .list [.int 3]), (2098, .list [.int 11]), (2097, .list [.int 4]), (2090, .list [.int 4]), (1961, .list [.int 11]), (1960, .list [.int 3]), (1956, .list [.int 6]), (1846, .list [.int 11]), (1845, .list [.int 2]), (1838, .list [.int 1]), (1768, .list [.int 11]), (1767, .list [.int 1]), (15, .code), (1, .list [.int 0, .int 0, .int 5, .int 0, .int 10, .int 7, .int 5, .int 2, .int 4, .int 0, .int 1, .int 0, .int 10, .int 10, .int 7, .int 7, .int 9, .int 3, .int 5, .int 8, .int 6, .int 2]), (0, .tab 0 (some 15))] K = K .nxt [.unb, .unb, .ref 1, .int 10, .int 9, .int 11, .int 10, .ref 3234, .ref 3236] 3238 [(3237, .tup [.ref 3234, .ref 3236]), (3236, .list []), (3234, .list [.int 163, .int 132, .int 1]), (3230, .list [.int 11]), (3228, .list [.int 257, .int 431, .int 13]), (3227, .list [.int 256, .int 431, .int 13]), (3080, .list [.int 10]), (2970, .list [.int 11]), (2969, .list [.int 10]), (2962, .list [.int 5]), (2833, .list [.int 11]), (2832, .list [.int 9]), (2828, .list [.int 7]), (2660, .list [.int 11]), (2659, .list [.int 8]), (2655, .list [.int 8]), (2487, .list [.int 11]), (2486, .list [.int 7]), (2479, .list [.int 2]), (2350, .list [.int 11]), (2349, .list [.int 6]), (2345, .list [.int 9]), (2235, .list [.int 11]), (2234, .list [.int 5]), (2227, .list [.int 3]), (2098, .list [.int 11]), (2097, .list [.int 4]), (2090, .list [.int 4]), (1961, .list [.int 11]), (1960, .list [.int 3]), (1956, .list [.int 6]), (1846, .list [.int 11]), (1845, .list [.int 2]), (1838, .list [.int 1]), (1768, .list [.int 11]), (1767, .list [.int 1]), (15, .code), (1, .list [.int 0, .int 0, .int 5, .int 0, .int 10, .int 7, .int 5, .int 2, .int 4, .int 0, .int 1, .int 0, .int 10, .int 10, .int 7, .int 7, .int 9, .int 3, .int 5, .int 8, .int 6, .int 2]), (0, .tab 0 (some 15))] := by kernel_rfl
theorem e9x11e (K : KS) : l_law4 [.unb, .unb, .ref 1, .int 10, .int 9, .int 11, .int 10, .ref 3234, .ref 3236] 3238 [(3237, .tup [.ref 3234, .ref 3236]), (3236, .list []), (3234, .list [.int 163, .int 132, .int 1]), (3230, .list [.int 11]), (3228, .list [.int 257, .int 431, .int 13]), (3227, .list [.int 256, .int 431, .int 13]), (3080, .list [.int 10]), (2970, .list [.int 11]), (2969, .list [.int 10]), (2962, .list [.int 5]), (2833, .list [.int 11]), (2832, .list [.int 9]), (2828, .list [.int 7]), (2660, .list [.int 11]), (2659, .list [.int 8]), (2655, .list [.int 8]), (2487, .list [.int 11]), (2486, .list [.int 7]), (2479, .list [.int 2]), (2350, .list [.int 11]), (2349, .list [.int 6]), (2345, .list [.int 9]), (2235, .list [.int 11]), (2234, .list [.int 5]), (2227, .list [.int 3]), (2098, .list [.int 11]), (2097, .list [.int 4]), (2090, .list [.int 4]), (1961, .list [.int 11]), (1960, .list [.int 3]), (1956, .list [.int 6]), (1846, .list [.int 11]), (1845, .list [.int 2]), (1838, .list [.int 1]), (1768, .list [.int 11]), (1767, .list [.int 1]), (15, .code), (1, .list [.int 0, .int 0, .int 5, .int 0, .int 10, .int 7, .int 5, .int 2, .int 4, .int 0, .int 1, .int 0, .int 10, .int 10, .int 7, .int 7, .int 9, .int 3, .int 5, .int 8, .int 6, .int 2]), (0, .tab 0 (some 15))] K = K (.ret (.bool true)) [.unb, .unb, .ref 1, .int 10, .int 9, .int 11, .int 10, .ref 3234, .ref 3236] 3241 [(3240, .list [.int 0, .int 0, .int 5, .int 0, .int 10, .int 7, .int 5, .int 2, .int 4, .int 0, .int 1]), (3238, .list []), (3237, .tup [.ref 3234, .ref 3236]), (3236, .list []), (3234, .list [.int 163, .int 132, .int 1]), (3230, .list [.int 11]), (3228, .list [.int 257, .int 431, .int 13]), (3227, .list [.int 256, .int 431, .int 13]), (3080, .list [.int 10]), (2970, .list [.int 11]), (2969, .list [.int 10]), (2962, .list [.int 5]), (2833, .list [.int 11]), (2832, .list [.int 9]), (2828, .list [.int 7]), (2660, .list [.int 11]), (2659, .list [.int 8]), (2655, .list [.int 8]), (2487, .list [.int 11]), (2486, .list [.int 7]), (2479, .list [.int 2]), (2350, .list [.int 11]), (2349, .list [.int 6]), (2345, .list [.int 9]), (2235, .list [.int 11]), (2234, .list [.int 5]), (2227, .list [.int 3]), (2098, .list [.int 11]), (2097, .list [.int 4]), (2090, .list [.int 4]), (1961, .list [.int 11]), (1960, .list [.int 3]), (1956, .list [.int 6]), (1846, .list [.int 11]), (1845, .list [.int 2]), (1838, .list [.int 1]), (1768, .list [.int 11]), (1767, .list [.int 1]), (15, .code), (1, .list [.int 0, .int 0, .int 5, .int 0, .int 10, .int 7, .int 5, .int 2, .int 4, .int 0, .int 1, .int 0, .int 10, .int 10, .int 7, .int 7, .int 9, .int 3, .int 5, .int 8, .int 6, .int 2]), (0, .tab 0 (some 15))] := by kernel_rfl
theorem e9x11 : c_law (loc0 9 11) 1 [(0, .tab 0 none)] finK = true := law_chain e9x11a e9x11b e9x11c e9x11d e9x11e rfl
theorem e10x11a (K : KS) : l_law0 [.unb, .unb, .unb, .unb, .int 10, .int 11, .unb, .unb, .unb] 1 [(0, .tab 0 none)] K = K .nxt [.unb, .unb, .ref 1, .unb, .int 10, .int 11, .unb, .unb, .unb] 2 [(1, .list [.int 0]), (0, .tab 0 none)] := by kernel_rfl
theorem e10x11b_1 (K : KS) : l_turn1 [.unb, .unb, .ref 1, .int 1, .int 10, .int 11, .unb, .unb, .unb] 2 [(1, .list [.int 0]), (0, .tab 0 none)] K = K .nxt [.unb, .unb, .ref 1, .int 1, .int 10, .int 11, .unb, .unb, .unb] 71 [(15, .code), (1, .list [.int 0, .int 0]), (0, .tab 0 (some 15))] := by kernel_rfl
theorem e10x11b_2 (K : KS) : l_turn1 [.unb, .unb, .ref 1, .int 2, .int 10, .int 11, .unb, .unb, .unb] 71 [(15, .code), (1, .list [.int 0, .int 0]), (0, .tab 0 (some 15))] K = K .nxt [.unb, .unb, .ref 1, .int 2, .int 10, .int 11, .unb, .unb, .unb] 147 [(15, .code), (1, .list [.int 0, .int 0, .int 5]), (0, .tab 0 (some 15))] := by kernel_rfl
theorem e10x11b_3 (K : KS) : l_turn1 [.unb, .unb, .ref 1, .int 3, .int 10, .int 11, .unb, .unb, .unb] 147 [(15, .code), (1, .list [.int 0, .int 0, .int 5]), (0, .tab 0 (some 15))] K = K .nxt [.unb, .unb, .ref 1, .int 3, .int 10, .int 11, .unb, .unb, .unb] 219 [(15, .code), (1, .list [.int 0, .int 0, .int 5, .int 0]), (0, .tab 0 (some 15))] := by kernel_rfl
theorem e10x11b_4 (K : KS) : l_turn1 [.unb, .unb, .ref 1, .int 4, .int 10, .int 11, .unb, .unb, .unb] 219 [(15, .code), (1, .list [.int 0, .int 0, .int 5, .int 0]), (0, .tab 0 (some 15))] K = K .nxt [.unb, .unb, .ref 1, .int 4, .int 10, .int 11, .unb, .unb, .unb] 299 [(15, .code), (1, .list [.int 0, .int 0, .int 5, .int 0, .int 10]), (0, .tab 0 (some 15))] := by kernel_rfl
theorem e10x11b_5 (K : KS) : l_turn1 [.unb, .unb, .ref 1, .int 5, .int 10, .int 11, .unb, .unb, .unb] 299 [(15, .code), (1, .list [.int 0, .int 0, .int 5, .int 0, .int 10]), (0, .tab 0 (some 15))] K = K .nxt [.unb, .unb, .ref 1, .int 5, .int 10, .int 11, .unb, .unb, .unb] 383 [(15, .code), (1, .list [.int 0, .int 0, .int 5, .int 0, .int 10, .int 7]), (0, .tab 0 (some 15))] := by kernel_rfl
theorem e10x11b_6 (K : KS) : l_turn1 [.unb, .unb, .ref 1, .int 6, .int 10, .int 11, .unb, .unb, .unb] 383 [(15, .code), (1, .list [.int 0, .int 0, .int 5, .int 0, .int 10, .int 7]), (0, .tab 0 (some 15))] K = K .nxt [.unb, .unb, .ref 1, .int 6, .int 10, .int 11, .unb, .unb, .unb] 471 [(15, .code), (1, .list [.int 0, .int 0, .int 5, .int 0, .int 10, .int 7, .int 5]), (0, .tab 0 (some 15))] := by kernel_rfl
theorem e10x11b_7 (K : KS) : l_turn1 [.unb, .unb, .ref 1, .int 7, .int 10, .int 11, .unb, .unb, .unb] 471 [(15, .code), (1, .list [.int 0, .int 0, .int 5, .int 0, .int 10, .int 7, .int 5]), (0, .tab 0 (some 15))] K = K .nxt [.unb, .unb, .ref 1, .int 7, .int 10, .int 11, .unb, .unb, .unb] 559 [(15, .code), (1, .list [.int 0, .int 0, .int 5, .int 0, .int 10, .int 7, .int 5, .int 2]), (0, .tab 0 (some 15))] := by kernel_rfl
theorem e10x11b_8 (K : KS) : l_turn1 [.unb, .unb, .ref 1, .int 8, .int 10, .int 11, .unb, .unb, .unb] 559 [(15, .code), (1, .list [.int 0, .int 0, .int 5, .int 0, .int 10, .int 7, .int 5, .int 2]), (0, .tab 0 (some 15))] K = K .nxt [.unb, .unb, .ref 1, .int 8, .int 10, .int 11, .unb, .unb, .unb] 647 [(15, .code), (1, .list [.int 0, .int 0, .int 5, .int 0, .int 10, .int 7, .int 5, .int 2, .int 4]), (0, .tab 0 (some 15))] := by kernel_rfl
theorem e10x11b_9 (K : KS) : l_turn1 [.unb, .unb, .ref 1, .int 9, .int 10, .int 11, .unb, .unb, .unb] 647 [(15, .code), (1, .list [.int 0, .int 0, .int 5, .int 0, .int 10, .int 7, .int 5, .int 2, .int 4]), (0, .tab 0 (some 15))] K = K .nxt [.unb, .unb, .ref 1, .int 9, .int 10, .int 11, .unb, .unb, .unb] 727 [(15, .code), (1, .list [.int 0, .int 0, .int 5, .int 0, .int 10, .int 7, .int 5, .int 2, .int 4, .int 0]), (0, .tab 0 (some 15))] := by kernel_rfl
theorem e10x11b_10 (K : KS) : l_turn1 [.unb, .unb, .ref 1, .int 10, .int 10, .int 11, .unb, .unb, .unb] 727 [(15, .code), (1, .list [.int 0, .int 0, .int 5, .int 0, .int 10, .int 7, .int 5, .int 2, .int 4, .int 0]), (0, .tab 0 (some 15))] K = K .nxt [.unb, .unb, .ref 1, .int 10, .int 10, .int 11, .unb, .unb, .unb] 815 [(15, .code), (1, .list [.int 0, .int 0, .int 5, .int 0, .int 10, .int 7, .int 5, .int 2, .int 4, .int 0, .int 1]), (0, .tab 0 (some 15))] := by kernel_rfl
theorem e10x11b_11 (K : KS) : l_turn1 [.unb, .unb, .ref 1, .int 11, .int 10, .int 11, .unb, .unb, .unb] 815 [(15, .code), (1, .list [.int 0, .int 0, .int 5, .int 0, .int 10, .int 7, .int 5, .int 2, .int 4, .int 0, .int 1]), (0, .tab 0 (some 15))] K = K .nxt [.unb, .unb, .ref 1, .int 11, .int 10, .int 11, .unb, .unb, .unb] 815 [(15, .code), (1, .list [.int 0, .int 0, .int 5, .int 0, .int 10, .int 7, .int 5, .int 2, .int 4, .int 0, .int 1, .int 0]), (0, .tab 0 (some 15))] := by kernel_rfl
theorem e10x11b_12 (K : KS) : l_turn1 [.unb, .unb, .ref 1, .int 12, .int 10, .int 11, .unb, .unb, .unb] 815 [(15, .code), (1, .list [.int 0, .int 0, .int 5, .int 0, .int 10, .int 7, .int 5, .int 2, .int 4, .int 0, .int 1, .int 0]), (0, .tab 0 (some 15))] K = K .nxt [.unb, .unb, .ref 1, .int 12, .int 10, .int 11, .unb, .unb, .unb] 911 [(15, .code), (1, .list [.int 0, .int 0, .int 5, .int 0, .int 10, .int 7, .int 5, .int 2, .int 4, .int 0, .int 1, .int 0, .int 10]), (0, .tab 0 (some 15))] := by kernel_rfl
theorem e10x11b_13 (K : KS) : l_turn1 [.unb, .unb, .ref 1, .int 13, .int 10, .int 11, .unb, .unb, .unb] 911 [(15, .code), (1, .list [.int 0, .int 0, .int 5, .int 0, .int 10, .int 7, .int 5, .int 2, .int 4, .int 0, .int 1, .int 0, .int 10]), (0, .tab 0 (some 15))] K = K .nxt [.unb, .unb, .ref 1, .int 13, .int 10, .int 11, .unb, .unb, .unb] 1003 [(15, .code), (1, .list [.int 0, .int 0, .int 5, .int 0, .int 10, .int 7, .int 5, .int 2, .int 4, .int 0, .int 1, .int 0, .int 10, .int 10]), (0, .tab 0 (some 15))] := by kernel_rfl
theorem e10x11b_14 (K : KS) : l_turn1 [.unb, .unb, .ref 1, .int 14, .int 10, .int 11, .unb, .unb, .unb] 1003 [(15, .code), (1, .list [.int 0, .int 0, .int 5, .int 0, .int 10, .int 7, .int 5, .int 2, .int 4, .int 0, .int 1, .int 0, .int 10, .int 10]), (0, .tab 0 (some 15))] K = K .nxt [.unb, .unb, .ref 1, .int 14, .int 10, .int 11, .unb, .unb, .unb] 1099 [(15, .code), (1, .list [.int 0, .int 0, .int 5, .int 0, .int 10, .int 7, .int 5, .int 2, .int 4, .int 0, .int 1, .int 0, .int 10, .int 10, .int 7]), (0, .tab 0 (some 15))] := by kernel_rfl
theorem e10x11b_15 (K : KS) : l_turn1 [.unb, .unb, .ref 1, .int 15, .int 10, .int 11, .unb, .unb, .unb] 1099 [(15, .code), (1, .list [.int 0, .int 0, .int 5, .int 0, .int 10, .int 7, .int 5, .int 2, .int 4, .int 0, .int 1, .int 0, .int 10, .int 10, .int 7]), (0, .tab 0 (some 15))] K = K .nxt [.unb, .unb, .ref 1, .int 15, .int 10, .int 11, .unb, .unb, .unb] 1195 [(15, .code), (1, .list [.int 0, .int 0, .int 5, .int 0, .int 10, .int 7, .int 5, .int 2, .int 4, .int 0, .int 1, .int 0, .int 10, .int 10, .int 7, .int 7]), (0, .tab 0 (some 15))] := by kernel_rfl
theorem e10x11b_16 (K : KS) : l_turn1 [.unb, .unb, .ref 1, .int 16, .int 10, .int 11, .unb, .unb, .unb] 1195 [(15, .code), (1, .list [.int 0, .int 0, .int 5, .int 0, .int 10, .int 7, .int 5, .int 2, .int 4, .int 0, .int 1, .int 0, .int 10, .int 10, .int 7, .int 7]), (0, .tab 0 (some 15))] K = K .nxt [.unb, .unb, .ref 1, .int 16, .int 10, .int 11, .unb, .unb, .unb] 1291 [(15, .code), (1, .list [.int 0, .int 0, .int 5, .int 0, .int 10, .int 7, .int 5, .int 2, .int 4, .int 0, .int 1, .int 0, .int 10, .int 10, .int 7, .int 7, .int 9]), (0, .tab 0 (some 15))] := by kernel_rfl
theorem e10x11b_17 (K : KS) : l_turn1 [.unb, .unb, .ref 1, .int 17, .int 10, .int 11, .unb, .unb, .unb] 1291 [(15, .code), (1, .list [.int 0, .int 0, .int 5, .int 0, .int 10, .int 7, .int 5, .int 2, .int 4, .int 0, .int 1, .int 0, .int 10, .int 10, .int 7, .int 7, .int 9]), (0, .tab 0 (some 15))] K = K .nxt [.unb, .unb, .ref 1, .int 17, .int 10, .int 11, .unb, .unb, .unb] 1387 [(15, .code), (1, .list [.int 0, .int 0, .int 5, .int 0, .int 10, .int 7, .int 5, .int 2, .int 4, .int 0, .int 1, .int 0, .int 10, .int 10, .int 7, .int 7, .int 9, .int 3]), (0, .tab 0 (some 15))] := by kernel_rfl
theorem e10x11b_18 (K : KS) : l_turn1 [.unb, .unb, .ref 1, .int 18, .int 10, .int 11, .unb, .unb, .unb] 1387 [(15, .code), (1, .list [.int 0, .int 0, .int 5, .int 0, .int 10, .int 7, .int 5, .int 2, .int 4, .int 0, .int 1, .int 0, .int 10, .int 10, .int 7, .int 7, .int 9, .int 3]), (0, .tab 0 (some 15))] K = K .nxt [.unb, .unb, .ref 1, .int 18, .int 10, .int 11, .unb, .unb, .unb] 1483 [(15, .code), (1, .list [.int 0, .int 0, .int 5, .int 0, .int 10, .int 7, .int 5, .int 2, .int 4, .int 0, .int 1, .int 0, .int 10, .int 10, .int 7, .int 7, .int 9, .int 3, .int 5]), (0, .tab 0 (some 15))] := by kernel_rfl
theorem e10x11b_19 (K : KS) : l_turn1 [.unb, .unb, .ref 1, .int 19, .int 10, .int 11, .unb, .unb, .unb] 1483 [(15, .code), (1, .list [.int 0, .int 0, .int 5, .int 0, .int 10, .int 7, .int 5, .int 2, .int 4, .int 0, .int 1, .int 0, .int 10, .int 10, .int 7, .int 7, .int 9, .int 3, .int 5]), (0, .tab 0 (some 15))] K = K .nxt [.unb, .unb, .ref 1, .int 19, .int 10, .int 11, .unb, .unb, .unb] 1575 [(15, .code), (1, .list [.int 0, .int 0, .int 5, .int 0, .int 10, .int 7, .int 5, .int 2, .int 4, .int 0, .int 1, .int 0, .int 10, .int 10, .int 7, .int 7, .int 9, .int 3, .int 5, .int 8]), (0, .tab 0 (some 15))] := by kernel_rfl
theorem e10x11b_20 (K : KS) : l_turn1 [.unb, .unb, .ref 1, .int 20, .int 10, .int 11, .unb, .unb, .unb] 1575 [(15, .code), (1, .list [.int 0, .int 0, .int 5, .int 0, .int 10, .int 7, .int 5, .int 2, .int 4, .int 0, .int 1, .int 0, .int 10, .int 10, .int 7, .int 7, .int 9, .int 3, .int 5, .int 8]), (0, .tab 0 (some 15))] K = K .nxt [.unb, .unb, .ref 1, .int 20, .int 10, .int 11, .unb, .unb, .unb] 1671 [(15, .code), (1, .list [.int 0, .int 0, .int 5, .int 0, .int 10, .int 7, .int 5, .int 2, .int 4, .int 0, .int 1, .int 0, .int 10, .int 10, .int 7, .int 7, .int 9, .int 3, .int 5, .int 8, .int 6]), (0, .tab 0 (some 15))] := by kernel_rfl
theorem e10x11b_21 (K : KS) : l_turn1 [.unb, .unb, .ref 1, .int 21, .int 10, .int 11, .unb, .unb, .unb] 1671 [(15, .code), (1, .list [.int 0, .int 0, .int 5, .int 0, .int 10, .int 7, .int 5, .int 2, .int 4, .int 0, .int 1, .int 0, .int 10, .int 10, .int 7, .int 7, .int 9, .int 3, .int 5, .int 8, .int 6]), (0, .tab 0 (some 15))] K = K .nxt [.unb, .unb, .ref 1, .int 21, .int 10, .int 11, .unb, .unb, .unb] 1767 [(15, .code), (1, .list [.int 0, .int 0, .int 5, .int 0, .int 10, .int 7, .int 5, .int 2, .int 4, .int 0, .int 1, .int 0, .int 10, .int 10, .int 7, .int 7, .int 9, .int 3, .int 5, .int 8, .int 6, .int 2]), (0, .tab 0 (some 15))] := by kernel_rfl
theorem e10x11b (K : KS) : l_law1 [.unb, .unb, .ref 1, .unb, .int 10, .int 11, .unb, .unb, .unb] 2 [(1, .list [.int 0]), (0, .tab 0 none)] K = K .nxt [.unb, .unb, .ref 1, .int 21, .int 10, .int 11, .unb, .unb, .unb] 1767 [(15, .code), (1, .list [.int 0, .int 0, .int 5, .int 0, .int 10, .int 7, .int 5, .int 2, .int 4, .int 0, .int 1, .int 0, .int 10, .int 10, .int 7, .int 7, .int 9, .int 3, .int 5, .int 8, .int 6, .int 2]), (0, .tab 0 (some 15))] :=
  (for_start (hi := 22) (c := 21) (fun _ => by kernel_rfl) (by kernel_rfl) (by kernel_rfl)).trans ((loop_turn (f := 20) (fun _ => rfl) rfl e10x11b_1).trans ((loop_turn (f := 19) (fun _ => rfl) rfl e10x11b_2).trans ((loop_turn (f := 18) (fun _ => rfl) rfl e10x11b_3).trans ((loop_turn (f := 17) (fun _ => rfl) rfl e10x11b_4).trans ((loop_turn (f := 16) (fun _ => rfl) rfl e10x11b_5).trans ((loop_turn (f := 15) (fun _ => rfl) rfl e10x11b_6).trans ((loop_turn (f := 14) (fun _ => rfl) rfl e10x11b_7).trans ((loop_turn (f := 13) (fun _ => rfl) rfl e10x11b_8).trans ((loop_turn (f := 12) (fun _ => rfl) rfl e10x11b_9).trans ((loop_turn (f := 11) (fun _ => rfl) rfl e10x11b_10).trans ((loop_turn (f := 10) (fun _ => rfl) rfl e10x11b_11).trans ((loop_turn (f := 9) (fun _ => rfl) rfl e10x11b_12).trans ((loop_turn (f := 8) (fun _ => rfl) rfl e10x11b_13).trans ((loop_turn (f := 7) (fun _ => rfl) rfl e10x11b_14).trans ((loop_turn (f := 6) (fun _ => rfl) rfl e10x11b_15).trans ((loop_turn (f := 5) (fun _ => rfl) rfl e10x11b_16).trans ((loop_turn (f := 4) (fun _ => rfl) rfl e10x11b_17).trans ((loop_turn (f := 3) (fun _ => rfl) rfl e10x11b_18).trans ((loop_turn (f := 2) (fun _ => rfl) rfl e10x11b_19).trans ((loop_turn (f := 1) (fun _ => rfl) rfl e10x11b_20).trans ((loop_turn (f := 0) (fun _ => rfl) rfl e10x11b_21).trans rfl)))))))))))))))))))))
theorem e10x11c_1 (K : KS) : l_turn2 [.unb, .unb, .ref 1, .int 1, .int 10, .int 11, .unb, .unb, .unb] 1767 [(15, .code), (1, .list [.int 0, .int 0, .int 5, .int 0, .int 10, .int 7, .int 5, .int 2, .int 4, .int 0, .int 1, .int 0, .int 10, .int 10, .int 7, .int 7, .int 9, .int 3, .int 5, .int 8, .int 6, .int 2]), (0, .tab 0 (some 15))] K = K .nxt [.unb, .unb, .ref 1, .int 1, .int 10, .int 11, .int 1, .unb, .unb] 1845 [(1838, .list [.int 1]), (1768, .list [.int 11]), (1767, .list [.int 1]), (15, .code), (1, .list [.int 0, .int 0, .int 5, .int 0, .int 10, .int 7, .int 5, .int 2, .int 4, .int 0, .int 1, .int 0, .int 10, .int 10, .int 7, .int 7, .int 9, .int 3, .int 5, .int 8, .int 6, .int 2]), (0, .tab 0 (some 15))] := by kernel_rfl
theorem e10x11c_2 (K : KS) : l_turn2 [.unb, .unb, .ref 1, .int 2, .int 10, .int 11, .int 1, .unb, .unb] 1845 [(1838, .list [.int 1]), (1768, .list [.int 11]), (1767, .list [.int 1]), (15, .code), (1, .list [.int 0, .int 0, .int 5, .int 0, .int 10, .int 7, .int 5, .int 2, .int 4, .int 0, .int 1, .int 0, .int 10, .int 10, .int 7, .int 7, .int 9, .int 3, .int 5, .int 8, .int 6, .int 2]), (0, .tab 0 (some 15))] K = K .nxt [.unb, .unb, .ref 1, .int 2, .int 10, .int 11, .int 6, .unb, .unb] 1960 [(1956, .list [.int 6]), (1846, .list [.int 11]), (1845, .list [.int 2]), (1838, .list [.int 1]), (1768, .list [.int 11]), (1767, .list [.int 1]), (15, .code), (1, .list [.int 0, .int 0, .int 5, .int 0, .int 10, .int 7, .int 5, .int 2, .int 4, .int 0, .int 1, .int 0, .int 10, .int 10, .int 7, .int 7, .int 9, .int 3, .int 5, .int 8, .int 6, .int 2]), (0, .tab 0 (some 15))] := by kernel_rfl
theorem e10x11c_3 (K : KS) : l_turn2 [.unb, .unb, .ref 1, .int 3, .int 10, .int 11, .int 6, .unb, .unb] 1960 [(1956, .list [.int 6]), (1846, .list [.int 11]), (1845, .list [.int 2]), (1838, .list [.int 1]), (1768, .list [.int 11]), (1767, .list [.int 1]), (15, .code), (1, .list [.int 0, .int 0, .int 5, .int 0, .int 10, .int 7, .int 5, .int 2, .int 4, .int 0, .int 1, .int 0, .int 10, .int 10, .int 7, .int 7, .int 9, .int 3, .int 5, .int 8, .int 6, .int 2]), (0, .tab 0 (some 15))] K = K .nxt [.unb, .unb, .ref 1, .int 3, .int 10, .int 11, .int 4, .unb, .unb] 2097 [(2090, .list [.int 4]), (1961, .list [.int 11]), (1960, .list [.int 3]), (1956, .list [.int 6]), (1846, .list [.int 11]), (1845, .list [.int 2]), (1838, .list [.int 1]), (1768, .list [.int 11]), (1767, .list [.int 1]), (15, .code), (1, .list [.int 0, .int 0, .int 5, .int 0, .int 10, .int 7, .int 5, .int 2, .int 4, .int 0, .int 1, .int 0, .int 10, .int 10, .int 7, .int 7, .int 9, .int 3, .int 5, .int 8, .int 6, .int 2]), (0, .tab 0 (some 15))] := by kernel_rfl
theorem e10x11c_4 (K : KS) : l_turn2 [.unb, .unb, .ref 1, .int 4, .int 10, .int 11, .int 4, .unb, .unb] 2097 [(2090, .list [.int 4]), (1961, .list [.int 11]), (1960, .list [.int 3]), (1956, .list [.int 6]), (1846, .list [.int 11]), (1845, .list [.int 2]), (1838, .list [.int 1]), (1768, .list [.int 11]), (1767, .list [.int 1]), (15, .code), (1, .list [.int 0, .int 0, .int 5, .int 0, .int 10, .int 7, .int 5, .int 2, .int 4, .int 0, .int 1, .int 0, .int 10, .int 10, .int 7, .int 7, .int 9, .int 3, .int 5, .int 8, .int 6, .int 2]), (0, .tab 0 (some 15))] K = K .nxt [.unb, .unb, .ref 1, .int 4, .int 10, .int 11, .int 3, .unb, .unb] 2234 [(2227, .list [.int 3]), (2098, .list [.int 11]), (2097, .list [.int 4]), (2090, .list [.int 4]), (1961, .list [.int 11]), (1960, .list [.int 3]), (1956, .list [.int 6]), (1846, .list [.int 11]), (1845, .list [.int 2]), (1838, .list [.int 1]), (1768, .list [.int 11]), (1767, .list [.int 1]), (15, .code), (1, .list [.int 0, .int 0, .int 5, .int 0, .int 10, .int 7, .int 5, .int 2, .int 4, .int 0, .int 1, .int 0, .int 10, .int 10, .int 7, .int 7, .int 9, .int 3, .int 5, .int 8, .int 6, .int 2]), (0, .tab 0 (some 15))] := by kernel_rfl
theorem e10x11c_5 (K : KS) : l_turn2 [.unb, .unb, .ref 1, .int 5, .int 10, .int 11, .int 3, .unb, .unb] 2234 [(2227, .list [.int 3]), (2098, .list [.int 11]), (2097, .list [.int 4]), (2090, .list [.int 4]), (1961, .list [.int 11]), (1960, .list [.int 3]), (1956, .list [.int 6]), (1846, .list [.int 11]), (1845, .list [.int 2]), (1838, .list [.int 1]), (1768, .list [.int 11]), (1767, .list [.int 1]), (15, .code), (1, .list [.int 0, .int 0, .int 5, .int 0, .int 10, .int 7, .int 5, .int 2, .int 4, .int 0, .int 1, .int 0, .int 10, .int 10, .int 7, .int 7, .int 9, .int 3, .int 5, .int 8, .int 6, .int 2]), (0, .tab 0 (some 15))] K = K .nxt [.unb, .unb, .ref 1, .int 5, .int 10, .int 11, .int 9, .unb, .unb] 2349 [(2345, .list [.int 9]), (2235, .list [.int 11]), (2234, .list [.int 5]), (2227, .list [.int 3]), (2098, .list [.int 11]), (2097, .list [.int 4]), (2090, .list [.int 4]), (1961, .list [.int 11]), (1960, .list [.int 3]), (1956, .list [.int 6]), (1846, .list [.int 11]), (1845, .list [.int 2]), (1838, .list [.int 1]), (1768, .list [.int 11]), (1767, .list [.int 1]), (15, .code), (1, .list [.int 0, .int 0, .int 5, .int 0, .int 10, .int 7, .int 5, .int 2, .int 4, .int 0, .int 1, .int 0, .int 10, .int 10, .int 7, .int 7, .int 9, .int 3, .int 5, .int 8, .int 6, .int 2]), (0, .tab 0 (some 15))] := by kernel_rfl
theorem e10x11c_6 (K : KS) : l_turn2 [.unb, .unb, .ref 1, .int 6, .int 10, .int 11, .int 9, .unb, .unb] 2349 [(2345, .list [.int 9]), (2235, .list [.int 11]), (2234, .list [.int 5]), (2227, .list [.int 3]), (2098, .list [.int 11]), (2097, .list [.int 4]), (2090, .list [.int 4]), (1961, .list [.int 11]), (1960, .list [.int 3]), (1956, .list [.int 6]), (1846, .list [.int 11]), (1845, .list [.int 2]), (1838, .list [.int 1]), (1768, .list [.int 11]), (1767, .list [.int 1]), (15, .code), (1, .list [.int 0, .int 0, .int 5, .int 0, .int 10, .int 7, .int 5, .int 2, .int 4, .int 0, .int 1, .int 0, .int 10, .int 10, .int 7, .int 7, .int 9, .int 3, .int 5, .int 8, .int 6, .int 2]), (0, .tab 0 (some 15))] K = K .nxt [.unb, .unb, .ref 1, .int 6, .int 10, .int 11, .int 2, .unb, .unb] 2486 [(2479, .list [.int 2]), (2350, .list [.int 11]), (2349, .list [.int 6]), (2345, .list [.int 9]), (2235, .list [.int 11]), (2234, .list [.int 5]), (2227, .list [.int 3]), (2098, .list [.int 11]), (2097, .list [.int 4]), (2090, .list [.int 4]), (1961, .list [.int 11]), (1960, .list [.int 3]), (1956, .list [.int 6]), (1846, .list [.int 11]), (1845, .list [.int 2]), (1838, .list [.int 1]), (1768, .list [.int 11]), (1767, .list [.int 1]), (15, .code), (1, .list [.int 0, .int 0, .int 5, .int 0, .int 10, .int 7, .int 5, .int 2, .int 4, .int 0, .int 1, .int 0, .int 10, .int 10, .int 7, .int 7, .int 9, .int 3, .int 5, .int 8, .int 6, .int 2]), (0, .tab 0 (some 15))] := by kernel_rfl
theorem e10x11c_7 (K : KS) : l_turn2 [.unb, .unb, .ref 1, .int 7, .int 10, .int 11, .int 2, .unb, .unb] 2486 [(2479, .list [.int 2]), (2350, .list [.int 11]), (2349, .list [.int 6]), (2345, .list [.int 9]), (2235, .list [.int 11]), (2234, .list [.int 5]), (2227, .list [.int 3]), (2098, .list [.int 11]), (2097, .list [.int 4]), (2090, .list [.int 4]), (1961, .list [.int 11]), (1960, .list [.int 3]), (1956, .list [.int 6]), (1846, .list [.int 11]), (1845, .list [.int 2]), (1838, .list [.int 1]), (1768, .list [.int 11]), (1767, .list [.int 1]), (15, .code), (1, .list [.int 0, .int 0, .int 5, .int 0, .int 10, .int 7, .int 5, .int 2, .int 4, .int 0, .int 1, .int 0, .int 10, .int 10, .int 7, .int 7, .int 9, .int 3, .int 5, .int 8, .int 6, .int 2]), (0, .tab 0 (some 15))] K = K .nxt [.unb, .unb, .ref 1, .int 7, .int 10, .int 11, .int 8, .unb, .unb] 2659 [(2655, .list [.int 8]), (2487, .list [.int 11]), (2486, .list [.int 7]), (2479, .list [.int 2]), (2350, .list [.int 11]), (2349, .list [.int 6]), (2345, .list [.int 9]), (2235, .list [.int 11]), (2234, .list [.int 5]), (2227, .list [.int 3]), (2098, .list [.int 11]), (2097, .list [.int 4]), (2090, .list [.int 4]), (1961, .list [.int 11]), (1960, .list [.int 3]), (1956, .list [.int 6]), (1846, .list [.int 11]), (1845, .list [.int 2]), (1838, .list [.int 1]), (1768, .list [.int 11]), (1767, .list [.int 1]), (15, .code), (1, .list [.int 0, .int 0, .int 5, .int 0, .int 10, .int 7, .int 5, .int 2, .int 4, .int 0, .int 1, .int 0, .int 10, .int 10, .int 7, .int 7, .int 9, .int 3, .int 5, .int 8, .int 6, .int 2]), (0, .tab 0 (some 15))] := by kernel_rfl
theorem e10x11c_8 (K : KS) : l_turn2 [.unb, .unb, .ref 1, .int 8, .int 10, .int 11, .int 8, .unb, .unb] 2659 [(2655, .list [.int 8]), (2487, .list [.int 11]), (2486, .list [.int 7]), (2479, .list [.int 2]), (2350, .list [.int 11]), (2349, .list [.int 6]), (2345, .list [.int 9]), (2235, .list [.int 11]), (2234, .list [.int 5]), (2227, .list [.int 3]), (2098, .list [.int 11]), (2097, .list [.int 4]), (2090, .list [.int 4]), (1961, .list [.int 11]), (1960, .list [.int 3]), (1956, .list [.int 6]), (1846, .list [.int 11]), (1845, .list [.int 2]), (1838, .list [.int 1]), (1768, .list [.int 11]), (1767, .list [.int 1]), (15, .code), (1, .list [.int 0, .int 0, .int 5, .int 0, .int 10, .int 7, .int 5, .int 2, .int 4, .int 0, .int 1, .int 0, .int 10, .int 10, .int 7, .int 7, .int 9, .int 3, .int 5, .int 8, .int 6, .int 2]), (0, .tab 0 (some 15))] K = K .nxt [.unb, .unb, .ref 1, .int 8, .int 10, .int 11, .int 7, .unb, .unb] 2832 [(2828, .list [.int 7]), (2660, .list [.int 11]), (2659, .list [.int 8]), (2655, .list [.int 8]), (2487, .list [.int 11]), (2486, .list [.int 7]), (2479, .list [.int 2]), (2350, .list [.int 11]), (2349, .list [.int 6]), (2345, .list [.int 9]), (2235, .list [.int 11]), (2234, .list [.int 5]), (2227, .list [.int 3]), (2098, .list [.int 11]), (2097, .list [.int 4]), (2090, .list [.int 4]), (1961, .list [.int 11]), (1960, .list [.int 3]), (1956, .list [.int 6]), (1846, .list [.int 11]), (1845, .list [.int 2]), (1838, .list [.int 1]), (1768, .list [.int 11]), (1767, .list [.int 1]), (15, .code), (1, .list [.int 0, .int 0, .int 5, .int 0, .int 10, .int 7, .int 5, .int 2, .int 4, .int 0, .int 1, .int 0, .int 10, .int 10, .int 7, .int 7, .int 9, .int 3, .int 5, .int 8, .int 6, .int 2]), (0, .tab 0 (some 15))] := by kernel_rfl
theorem e10x11c_9 (K : KS) : l_turn2 [.unb, .unb, .ref 1, .int 9, .int 10, .int 11, .int 7, .unb, .unb] 2832 [(2828, .list [.int 7]), (2660, .list [.int 11]), (2659, .list [.int 8]), (2655, .list [.int 8]), (2487, .list [.int 11]), (2486, .list [.int 7]), (2479, .list [.int 2]), (2350, .list [.int 11]), (2349, .list [.int 6]), (2345, .list [.int 9]), (2235, .list [.int 11]), (2234, .list [.int 5]), (2227, .list [.int 3]), (2098, .list [.int 11]), (2097, .list [.int 4]), (2090, .list [.int 4]), (1961, .list [.int 11]), (1960, .list [.int 3]), (1956, .list [.int 6]), (1846, .list [.int 11]), (1845, .list [.int 2]), (1838, .list [.int 1]), (1768, .list [.int 11]), (1767, .list [.int 1]), (15, .code), (1, .list [.int 0, .int 0, .int 5, .int 0, .int 10, .int 7, .int 5, .int 2, .int 4, .int 0, .int 1, .int 0, .int 10, .int 10, .int 7, .int 7, .int 9, .int 3, .int 5, .int 8, .int 6, .int 2]), (0, .tab 0 (some 15))] K = K .nxt [.unb, .unb, .ref 1, .int 9, .int 10, .int 11, .int 5, .unb, .unb] 2969 [(2962, .list [.int 5]), (2833, .list [.int 11]), (2832, .list [.int 9]), (2828, .list [.int 7]), (2660, .list [.int 11]), (2659, .list [.int 8]), (2655, .list [.int 8]), (2487, .list [.int 11]), (2486, .list [.int 7]), (2479, .list [.int 2]), (2350, .list [.int 11]), (2349, .list [.int 6]), (2345, .list [.int 9]), (2235, .list [.int 11]), (2234, .list [.int 5]), (2227, .list [.int 3]), (2098, .list [.int 11]), (2097, .list [.int 4]), (2090, .list [.int 4]), (1961, .list [.int 11]), (1960, .list [.int 3]), (1956, .list [.int 6]), (1846, .list [.int 11]), (1845, .list [.int 2]), (1838, .list [.int 1]), (1768, .list [.int 11]), (1767, .list [.int 1]), (15, .code), (1, .list [.int 0, .int 0, .int 5, .int 0, .int 10, .int 7, .int 5, .int 2, .int 4, .int 0, .int 1, .int 0, .int 10, .int 10, .int 7, .int 7, .int 9, .int 3, .int 5, .int 8, .int 6, .int 2]), (0, .tab 0 (some 15))] := by kernel_rfl
theorem e10x11c_10 (K : KS) : l_turn2 [.unb, .unb, .ref 1, .int 10, .int 10, .int 11, .int 5, .unb, .unb] 2969 [(2962, .list [.int 5]), (2833, .list [.int 11]), (2832, .list [.int 9]), (2828, .list [.int 7]), (2660, .list [.int 11]), (2659, .list [.int 8]), (2655, .list [.int 8]), (2487, .list [.int 11]), (2486, .list [.int 7]), (2479, .list [.int 2]), (2350, .list [.int 11]), (2349, .list [.int 6]), (2345, .list [.int 9]), (2235, .list [.int 11]), (2234, .list [.int 5]), (2227, .list [.int 3]), (2098, .list [.int 11]), (2097, .list [.int 4]), (2090, .list [.int 4]), (1961, .list [.int 11]), (1960, .list [.int 3]), (1956, .list [.int 6]), (1846, .list [.int 11]), (1845, .list [.int 2]), (1838, .list [.int 1]), (1768, .list [.int 11]), (1767, .list [.int 1]), (15, .code), (1, .list [.int 0, .int 0, .int 5, .int 0, .int 10, .int 7, .int 5, .int 2, .int 4, .int 0, .int 1, .int 0, .int 10, .int 10, .int 7, .int 7, .int 9, .int 3, .int 5, .int 8, .int 6, .int 2]), (0, .tab 0 (some 15))] K = K .nxt [.unb, .unb, .ref 1, .int 10, .int 10, .int 11, .int 10, .unb, .unb] 3084 [(3080, .list [.int 10]), (2970, .list [.int 11]), (2969, .list [.int 10]), (2962, .list [.int 5]), (2833, .list [.int 11]), (2832, .list [.int 9]), (2828, .list [.int 7]), (2660, .list [.int 11]), (2659, .list [.int 8]), (2655, .list [.int 8]), (2487, .list [.int 11]), (2486, .list [.int 7]), (2479, .list [.int 2]), (2350, .list [.int 11]), (2349, .list [.int 6]), (2345, .list [.int 9]), (2235, .list [.int 11]), (2234, .list [.int 5]), (2227, .list [.int 3]), (2098, .list [.int 11]), (2097, .list [.int 4]), (2090, .list [.int 4]), (1961, .list [.int 11]), (1960, .list [.int 3]), (1956, .list [.int 6]), (1846, .list [.int 11]), (1845, .list [.int 2]), (1838, .list [.int 1]), (1768, .list [.int 11]), (1767, .list [.int 1]), (15, .code), (1, .list [.int 0, .int 0, .int 5, .int 0, .int 10, .int 7, .int 5, .int 2, .int 4, .int 0, .int 1, .int 0, .int 10, .int 10, .int 7, .int 7, .int 9, .int 3, .int 5, .int 8, .int 6, .int 2]), (0, .tab 0 (some 15))] := by kernel_rfl
theorem e10x11c (K : KS) : l_law2 [.unb, .unb, .ref 1, .int 21, .int 10, .int 11, .unb, .unb, .unb] 1767 [(15, .code), (1, .list [.int 0, .int 0, .int 5, .int 0, .int 10, .int 7, .int 5, .int 2, .int 4, .int 0, .int 1, .int 0, .int 10, .int 10, .int 7, .int 7, .int 9, .int 3, .int 5, .int 8, .int 6, .int 2]), (0, .tab 0 (some 15))] K = K .nxt [.unb, .unb, .ref 1, .int 10, .int 10, .int 11, .int 10, .unb, .unb] 3084 [(3080, .list [.int 10]), (2970, .list [.int 11]), (2969, .list [.int 10]), (2962, .list [.int 5]), (2833, .list [.int 11]), (2832, .list [.int 9]), (2828, .list [.int 7]), (2660, .list [.int 11]), (2659, .list [.int 8]), (2655, .list [.int 8]), (2487, .list [.int 11]), (2486, .list [.int 7]), (2479, .list [.int 2]), (2350, .list [.int 11]), (2349, .list [.int 6]), (2345, .list [.int 9]), (2235, .list [.int 11]), (2234, .list [.int 5]), (2227, .list [.int 3]), (2098, .list [.int 11]), (2097, .list [.int 4]), (2090, .list [.int 4]), (1961, .list [.int 11]), (1960, .list [.int 3]), (1956, .list [.int 6]), (1846, .list [.int 11]), (1845, .list [.int 2]), (1838, .list [.int 1]), (1768, .list [.int 11]), (1767, .list [.int 1]), (15, .code), (1, .list [.int 0, .int 0, .int 5, .int 0, .int 10, .int 7, .int 5, .int 2, .int 4, .int 0, .int 1, .int 0, .int 10, .int 10, .int 7, .int 7, .int 9, .int 3, .int 5, .int 8, .int 6, .int 2]), (0, .tab 0 (some 15))] :=
  (for_start (hi := 11) (c := 10) (fun _ => by kernel_rfl) (by kernel_rfl) (by kernel_rfl)).trans ((loop_turn (f := 9) (fun _ => rfl) rfl e10x11c_1).trans ((loop_turn (f := 8) (fun _ => rfl) rfl e10x11c_2).trans ((loop_turn (f := 7) (fun _ => rfl) rfl e10x11c_3).trans ((loop_turn (f := 6) (fun _ => rfl) rfl e10x11c_4).trans ((loop_turn (f := 5) (fun _ => rfl) rfl e10x11c_5).trans ((loop_turn (f := 4) (fun _ => rfl) rfl e10x11c_6).trans ((loop_turn (f := 3) (fun _ => rfl) rfl e10x11c_7).trans ((loop_turn (f := 2) (fun _ => rfl) rfl e10x11c_8).trans ((loop_turn (f := 1) (fun _ => rfl) rfl e10x11c_9).trans ((loop_turn (f := 0) (fun _ => rfl) rfl e10x11c_10).trans rfl))))))))))
theorem e10x11d (K : KS) : l_law3 [.unb, .unb, .ref 1, .int 10, .int 10, .int 11, .int 10, .unb, .unb] 3084 [(3080, .list [.int 10]), (2970, .list [.int 11]), (2969, .list [.int 10]), (2962, .list [.int 5]), (2833, .list [.int 11]), (2832, .list [.int 9]), (2828, .list [.int 7]), (2660, .list [.int 11]), (2659, .list [.int 8]), (2655, .list [.int 8]), (2487, .list [.int 11]), (2486, .list [.int 7]), (2479, .list [.int 2]), (2350, .list [.int 11]), (2349, .list [.int 6]), (2345, .list [.int 9]), (2235, .list [.int 11]), (2234, .list [.int 5]), (2227, .list [.int 3]), (2098, .list [.int 11]), (2097, .list [.int 4]), (2090, .list [.int 4]), (1961, .list [.int 11]), (1960, .list [.int 3]), (1956, .list [.int 6]), (1846, .list [.int 11]), (1845, .list [.int 2]), (1838, .list [.int 1]), (1768, .list [.int 11]), (1767, .list [.int 1]), (15, .code), (1, .list [.int 0, .int 0, .int 5, .int 0, .int 10, .int 7, .int 5, .int 2, .int 4, .int 0, .int 1, .int 0, .int 10, .int 10, .int 7, .int 7, .int 9, .int 3, .int 5, .int 8, .int 6, .int 2]), (0, .tab 0 (some 15))] K = K .nxt [.unb, .unb, .ref 1, .int 10, .int 10, .int 11, .int 10, .ref 3234, .ref 3236] 3238 [(3237, .tup [.ref 3234, .ref 3236]), (3236, .list []), (3234, .list [.int 163, .int 322]), (3230, .list [.int 11]), (3228, .list [.int 769, .int 471, .int 3]), (3227, .list [.int 768, .int 471, .int 3]), (3080, .list [.int 10]), (2970, .list [.int 11]), (2969, .list [.int 10]), (2962, .list [.int 5]), (2833, .list [.int 11]), (2832, .list [.int 9]), (2828, .list [.int 7]), (2660, .list [.int 11]), (2659, .list [.int 8]), (2655, .list [.int 8]), (2487, .list [.int 11]), (2486, .list [.int 7]), (2479, .list [.int 2]), (2350, .list [.int 11]), (2349, .list [.int 6]), (2345, .list [.int 9]), (2235, .list [.int 11]), (2234, .list [.int 5]), (2227, .list [.int 3]), (2098, .list [.int 11]), (2097, .list [.int 4]), (2090, .list [.int 4]), (1961, .list [.int 11]), (1960, .list [.int 3]), (1956, .list [.int 6]), (1846, .list [.int 11]), (1845, .list [.int 2]), (1838, .list [.int 1]), (1768, .list [.int 11]), (1767, .list [.int 1]), (15, .code), (1, .list [.int 0, .int 0, .int 5, .int 0, .int 10, .int 7, .int 5, .int 2, .int 4, .int 0, .int 1, .int 0, .int 10, .int 10, .int 7, .int 7, .int 9, .int 3, .int 5, .int 8, .int 6, .int 2]), (0, .tab 0 (some 15))] := by kernel_rfl
theorem e10x11e (K : KS) : l_law4 [.unb, .unb, .ref 1, .int 10, .int 10, .int 11, .int 10, .ref 3234, .ref 3236] 3238 [(3237, .tup [.ref 3234, .ref 3236]), (3236, .list []), (3234, .list [.int 163, .int 322]), (3230, .list [.int 11]), (3228, .list [.int 769, .int 471, .int 3]), (3227, .list [.int 768, .int 471, .int 3]), (3080, .list [.int 10]), (2970, .list [.int 11]), (2969, .list [.int 10]), (2962, .list [.int 5]), (2833, .list [.int 11]), (2832, .list [.int 9]), (2828, .list [.int 7]), (2660, .list [.int 11]), (2659, .list [.int 8]), (2655, .list [.int 8]), (2487, .list [.int 11]), (2486, .list [.int 7]), (2479, .list [.int 2]), (2350, .list [.int 11]), (2349, .list [.int 6]), (2345, .list [.int 9]), (2235, .list [.int 11]), (2234, .list [.int 5]), (2227, .list [.int 3]), (2098, .list [.int 11]), (2097, .list [.int 4]), (2090, .list [.int 4]), (1961, .list [.int 11]), (1960, .list [.int 3]), (1956, .list [.int 6]), (1846, .list [.int 11]), (1845, .list [.int 2]), (1838, .list [.int 1]), (1768, .list [.int 11]), (1767, .list [.int 1]), (15, .code), (1, .list [.int 0, .int 0, .int 5, .int 0, .int 10, .int 7, .int 5, .int 2, .int 4, .int 0, .int 1, .int 0, .int 10, .int 10, .int 7, .int 7, .int 9, .int 3, .int 5, .int 8, .int 6, .int 2]), (0, .tab 0 (some 15))] K = K (.ret (.bool true)) [.unb, .unb, .ref 1, .int 10, .int 10, .int 11, .int 10, .ref 3234, .ref 3236] 3241 [(3240, .list [.int 0, .int 0, .int 5, .int 0, .int 10, .int 7, .int 5, .int 2, .int 4, .int 0, .int 1]), (3238, .list []), (3237, .tup [.ref 3234, .ref 3236]), (3236, .list []), (3234, .list [.int 163, .int 322]), (3230, .list [.int 11]), (3228, .list [.int 769, .int 471, .int 3]), (3227, .list [.int 768, .int 471, .int 3]), (3080, .list [.int 10]), (2970, .list [.int 11]), (2969, .list [.int 10]), (2962, .list [.int 5]), (2833, .list [.int 11]), (2832, .list [.int 9]), (2828, .list [.int 7]), (2660, .list [.int 11]), (2659, .list [.int 8]), (2655, .list [.int 8]), (2487, .list [.int 11]), (2486, .list [.int 7]), (2479, .list [.int 2]), (2350, .list [.int 11]), (2349, .list [.int 6]), (2345, .list [.int 9]), (2235, .list [.int 11]), (2234, .list [.int 5]), (2227, .list [.int 3]), (2098, .list [.int 11]), (2097, .list [.int 4]), (2090, .list [.int 4]), (1961, .list [.int 11]), (1960, .list [.int 3]), (1956, .list [.int 6]), (1846, .list [.int 11]), (1845, .list [.int 2]), (1838, .list [.int 1]), (1768, .list [.int 11]), (1767, .list [.int 1]), (15, .code), (1, .list [.int 0, .int 0, .int 5, .int 0, .int 10, .int 7, .int 5, .int 2, .int 4, .int 0, .int 1, .int 0, .int 10, .int 10, .int 7, .int 7, .int 9, .int 3, .int 5, .int 8, .int 6, .int 2]), (0, .tab 0 (some 15))] := by kernel_rfl
theorem e10x11 : c_law (loc0 10 11) 1 [(0, .tab 0 none)] finK = true := law_chain e10x11a e10x11b e10x11c e10x11d e10x11e rfl
theorem e11x11a (K : KS) : l_law0 [.unb, .unb, .unb, .unb, .int 11, .int 11, .unb, .unb, .unb] 1 [(0, .tab 0 none)] K = K .nxt [.unb, .unb, .ref 1, .unb, .int 11, .int 11, .unb, .unb, .unb] 2 [(1, .list [.int 0]), (0, .tab 0 none)] := by kernel_rfl
theorem e11x11b_1 (K : KS) : l_turn1 [.unb, .unb, .ref 1, .int 1, .int 11, .int 11, .unb, .unb, .unb] 2 [(1, .list [.int 0]), (0, .tab 0 none)] K = K .nxt [.unb, .unb, .ref 1, .int 1, .int 11, .int 11, .unb, .unb, .unb] 71 [(15, .code), (1, .list [.int 0, .int 0]), (0, .tab 0 (some 15))] := by kernel_rfl
theorem e11x11b_2 (K : KS) : l_turn1 [.unb, .unb, .ref 1, .int 2, .int 11, .int 11, .unb, .unb, .unb] 71 [(15, .code), (1, .list [.int 0, .int 0]), (0, .tab 0 (some 15))] K = K .nxt [.unb, .unb, .ref 1, .int 2, .int 11, .int 11, .unb, .unb, .unb] 147 [(15, .code), (1, .list [.int 0, .int 0, .int 5]), (0, .tab 0 (some 15))] := by kernel_rfl
theorem e11x11b_3 (K : KS) : l_turn1 [.unb, .unb, .ref 1, .int 3, .int 11, .int 11, .unb, .unb, .unb] 147 [(15, .code), (1, .list [.int 0, .int 0, .int 5]), (0, .tab 0 (some 15))] K = K .nxt [.unb, .unb, .ref 1, .int 3, .int 11, .int 11, .unb, .unb, .unb] 219 [(15, .code), (1, .list [.int 0, .int 0, .int 5, .int 0]), (0, .tab 0 (some 15))] := by kernel_rfl
theorem e11x11b_4 (K : KS) : l_turn1 [.unb, .unb, .ref 1, .int 4, .int 11, .int 11, .unb, .unb, .unb] 219 [(15, .code), (1, .list [.int 0, .int 0, .int 5, .int 0]), (0, .tab 0 (some 15))] K = K .nxt [.unb, .unb, .ref 1, .int 4, .int 11, .int 11, .unb, .unb, .unb] 299 [(15, .code), (1, .list [.int 0, .int 0, .int 5, .int 0, .int 10]), (0, .tab 0 (some 15))] := by kernel_rfl
theorem e11x11b_5 (K : KS) : l_turn1 [.unb, .unb, .ref 1, .int 5, .int 11, .int 11, .unb, .unb, .unb] 299 [(15, .code), (1, .list [.int 0, .int 0, .int 5, .int 0, .int 10]), (0, .tab 0 (some 15))] K = K .nxt [.unb, .unb, .ref 1, .int 5, .int 11, .int 11, .unb, .unb, .unb] 383 [(15, .code), (1, .list [.int 0, .int 0, .int 5, .int 0, .int 10, .int 7]), (0, .tab 0 (some 15))] := by kernel_rfl
theorem e11x11b_6 (K : KS) : l_turn1 [.unb, .unb, .ref 1, .int 6, .int 11, .int 11, .unb, .unb, .unb] 383 [(15, .code), (1, .list [.int 0, .int 0, .int 5, .int 0, .int 10, .int 7]), (0, .tab 0 (some 15))] K = K .nxt [.unb, .unb, .ref 1, .int 6, .int 11, .int 11, .unb, .unb, .unb] 471 [(15, .code), (1, .list [.int 0, .int 0, .int 5, .int 0, .int 10, .int 7, .int 5]), (0, .tab 0 (some 15))] := by kernel_rfl
theorem e11x11b_7 (K : KS) : l_turn1 [.unb, .unb, .ref 1, .int 7, .int 11, .int 11, .unb, .unb, .unb] 471 [(15, .code), (1, .list [.int 0, .int 0, .int 5, .int 0, .int 10, .int 7, .int 5]), (0, .tab 0 (some 15))] K = K .nxt [.unb, .unb, .ref 1, .int 7, .int 11, .int 11, .unb, .unb, .unb] 559 [(15, .code), (1, .list [.int 0, .int 0, .int 5, .int 0, .int 10, .int 7, .int 5, .int 2]), (0, .tab 0 (some 15))] := by kernel_rfl
theorem e11x11b_8 (K : KS) : l_turn1 [.unb, .unb, .ref 1, .int 8, .int 11, .int 11, .unb, .unb, .unb] 559 [(15, .code), (1, .list [.int 0, .int 0, .int 5, .int 0, .int 10, .int 7, .int 5, .int 2]), (0, .tab 0 (some 15))] K = K .nxt [.unb, .unb, .ref 1, .int 8, .int 11, .int 11, .unb, .unb, .unb] 647 [(15, .code), (1, .list [.int 0, .int 0, .int 5, .int 0, .int 10, .int 7, .int 5, .int 2, .int 4]), (0, .tab 0 (some 15))] := by kernel_rfl
theorem e11x11b_9 (K : KS) : l_turn1 [.unb, .unb, .ref 1, .int 9, .int 11, .int 11, .unb, .unb, .unb] 647 [(15, .code), (1, .list [.int 0, .int 0, .int 5, .int 0, .int 10, .int 7, .int 5, .int 2, .int 4]), (0, .tab 0 (some 15))] K = K .nxt [.unb, .unb, .ref 1, .int 9, .int 11, .int 11, .unb, .unb, .unb] 727 [(15, .code), (1, .list [.int 0, .int 0, .int 5, .int 0, .int 10, .int 7, .int 5, .int 2, .int 4, .int 0]), (0, .tab 0 (some 15))] := by kernel_rfl
theorem e11x11b_10 (K : KS) : l_turn1 [.unb, .unb, .ref 1, .int 10, .int 11, .int 11, .unb, .unb, .unb] 727 [(15, .code), (1, .list [.int 0, .int 0, .int 5, .int 0, .int 10, .int 7, .int 5, .int 2, .int 4, .int 0]), (0, .tab 0 (some 15))] K = K .nxt [.unb, .unb, .ref 1, .int 10, .int 11, .int 11, .unb, .unb, .unb] 815 [(15, .code), (1, .list [.int 0, .int 0, .int 5, .int 0, .int 10, .int 7, .int 5, .int 2, .int 4, .int 0, .int 1]), (0, .tab 0 (some 15))] := by kernel_rfl
theorem e11x11b_11 (K : KS) : l_turn1 [.unb, .unb, .ref 1, .int 11, .int 11, .int 11, .unb, .unb, .unb] 815 [(15, .code), (1, .list [.int 0, .int 0, .int 5, .int 0, .int 10, .int 7, .int 5, .int 2, .int 4, .int 0, .int 1]), (0, .tab 0 (some 15))] K = K .nxt [.unb, .unb, .ref 1, .int 11, .int 11, .int 11, .unb, .unb, .unb] 815 [(15, .code), (1, .list [.int 0, .int 0, .int 5, .int 0, .int 10, .int 7, .int 5, .int 2, .int 4, .int 0, .int 1, .int 0]), (0, .tab 0 (some 15))] := by kernel_rfl
theorem e11x11b_12 (K : KS) : l_turn1 [.unb, .unb, .ref 1, .int 12, .int 11, .int 11, .unb, .unb, .unb] 815 [(15, .code), (1, .list [.int 0, .int 0, .int 5, .int 0, .int 10, .int 7, .int 5, .int 2, .int 4, .int 0, .int 1, .int 0]), (0, .tab 0 (some 15))] K = K .nxt [.unb, .unb, .ref 1, .int 12, .int 11, .int 11, .unb, .unb, .unb] 911 [(15, .code), (1, .list [.int 0, .int 0, .int 5, .int 0, .int 10, .int 7, .int 5, .int 2, .int 4, .int 0, .int 1, .int 0, .int 10]), (0, .tab 0 (some 15))] := by kernel_rfl
theorem e11x11b_13 (K : KS) : l_turn1 [.unb, .unb, .ref 1, .int 13, .int 11, .int 11, .unb, .unb, .unb] 911 [(15, .code), (1, .list [.int 0, .int 0, .int 5, .int 0, .int 10, .int 7, .int 5, .int 2, .int 4, .int 0, .int 1, .int 0, .int 10]), (0, .tab 0 (some 15))] K = K .nxt [.unb, .unb, .ref 1, .int 13, .int 11, .int 11, .unb, .unb, .unb] 1003 [(15, .code), (1, .list [.int 0, .int 0, .int 5, .int 0, .int 10, .int 7, .int 5, .int 2, .int 4, .int 0, .int 1, .int 0, .int 10, .int 10]), (0, .tab 0 (some 15))] := by kernel_rfl
theorem e11x11b_14 (K : KS) : l_turn1 [.unb, .unb, .ref 1, .int 14, .int 11, .int 11, .unb, .unb, .unb] 1003 [(15, .code), (1, .list [.int 0, .int 0, .int 5, .int 0, .int 10, .int 7, .int 5, .int 2, .int 4, .int 0, .int 1, .int 0, .int 10, .int 10]), (0, .tab 0 (some 15))] K = K .nxt [.unb, .unb, .ref 1, .int 14, .int 11, .int 11, .unb, .unb, .unb] 1099 [(15, .code), (1, .list [.int 0, .int 0, .int 5, .int 0, .int 10, .int 7, .int 5, .int 2, .int 4, .int 0, .int 1, .int 0, .int 10, .int 10, .int 7]), (0, .tab 0 (some 15))] := by kernel_rfl
theorem e11x11b_15 (K : KS) : l_turn1 [.unb, .unb, .ref 1, .int 15, .int 11, .int 11, .unb, .unb, .unb] 1099 [(15, .code), (1, .list [.int 0, .int 0, .int 5, .int 0, .int 10, .int 7, .int 5, .int 2, .int 4, .int 0, .int 1, .int 0, .int 10, .int 10, .int 7]), (0, .tab 0 (some 15))] K = K .nxt [.unb, .unb, .ref 1, .int 15, .int 11, .int 11, .unb, .unb, .unb] 1195 [(15, .code), (1, .list [.int 0, .int 0, .int 5, .int 0, .int 10, .int 7, .int 5, .int 2, .int 4, .int 0, .int 1, .int 0, .int 10, .int 10, .int 7, .int 7]), (0, .tab 0 (some 15))] := by kernel_rfl
theorem e11x11b_16 (K : KS) : l_turn1 [.unb, .unb, .ref 1, .int 16, .int 11, .int 11, .unb, .unb, .unb] 1195 [(15, .code), (1, .list [.int 0, .int 0, .int 5, .int 0, .int 10, .int 7, .int 5, .int 2, .int 4, .int 0, .int 1, .int 0, .int 10, .int 10, .int 7, .int 7]), (0, .tab 0 (some 15))] K = K .nxt [.unb, .unb, .ref 1, .int 16, .int 11, .int 11, .unb, .unb, .unb] 1291 [(15, .code), (1, .list [.int 0, .int 0, .int 5, .int 0, .int 10, .int 7, .int 5, .int 2, .int 4, .int 0, .int 1, .int 0, .int 10, .int 10, .int 7, .int 7, .int 9]), (0, .tab 0 (some 15))] := by kernel_rfl
theorem e11x11b_17 (K : KS) : l_turn1 [.unb, .unb, .ref 1, .int 17, .int 11, .int 11, .unb, .unb, .unb] 1291 [(15, .code), (1, .list [.int 0, .int 0, .int 5, .int 0, .int 10, .int 7, .int 5, .int 2, .int 4, .int 0, .int 1, .int 0, .int 10, .int 10, .int 7, .int 7, .int 9]), (0, .tab 0 (some 15))] K = K .nxt [.unb, .unb, .ref 1, .int 17, .int 11, .int 11, .unb, .unb, .unb] 1387 [(15, .code), (1, .list [.int 0, .int 0, .int 5, .int 0, .int 10, .int 7, .int 5, .int 2, .int 4, .int 0, .int 1, .int 0, .int 10, .int 10, .int 7, .int 7, .int 9, .int 3]), (0, .tab 0 (some 15))] := by kernel_rfl
theorem e11x11b_18 (K : KS) : l_turn1 [.unb, .unb, .ref 1, .int 18, .int 11, .int 11, .unb, .unb, .unb] 1387 [(15, .code), (1, .list [.int 0, .int 0, .int 5, .int 0, .int 10, .int 7, .int 5, .int 2, .int 4, .int 0, .int 1, .int 0, .int 10, .int 10, .int 7, .int 7, .int 9, .int 3]), (0, .tab 0 (some 15))] K = K .nxt [.unb, .unb, .ref 1, .int 18, .int 11, .int 11, .unb, .unb, .unb] 1483 [(15, .code), (1, .list [.int 0, .int 0, .int 5, .int 0, .int 10, .int 7, .int 5, .int 2, .int 4, .int 0, .int 1, .int 0, .int 10, .int 10, .int 7, .int 7, .int 9, .int 3, .int 5]), (0, .tab 0 (some 15))] := by kernel_rfl
theorem e11x11b_19 (K : KS) : l_turn1 [.unb, .unb, .ref 1, .int 19, .int 11, .int 11, .unb, .unb, .unb] 1483 [(15, .code), (1, .list [.int 0, .int 0, .int 5, .int 0, .int 10, .int 7, .int 5, .int 2, .int 4, .int 0, .int 1, .int 0, .int 10, .int 10, .int 7, .int 7, .int 9, .int 3, .int 5]), (0, .tab 0 (some 15))] K = K .nxt [.unb, .unb, .ref 1, .int 19, .int 11, .int 11, .unb, .unb, .unb] 1575 [(15, .code), (1, .list [.int 0, .int 0, .int 5, .int 0, .int 10, .int 7, .int 5, .int 2, .int 4, .int 0, .int 1, .int 0, .int 10, .int 10, .int 7, .int 7, .int 9, .int 3, .int 5, .int 8]), (0, .tab 0 (some 15))] := by kernel_rfl
theorem e11x11b_20 (K : KS) : l_turn1 [.unb, .unb, .ref 1, .int 20, .int 11, .int 11, .unb, .unb, .unb] 1575 [(15, .code), (1, .list [.int 0, .int 0, .int 5, .int 0, .int 10, .int 7, .int 5, .int 2, .int 4, .int 0, .int 1, .int 0, .int 10, .int 10, .int 7, .int 7, .int 9, .int 3, .int 5, .int 8]), (0, .tab 0 (some 15))] K = K .nxt [.unb, .unb, .ref 1, .int 20, .int 11, .int 11, .unb, .unb, .unb] 1671 [(15, .code), (1, .list [.int 0, .int 0, .int 5, .int 0, .int 10, .int 7, .int 5, .int 2, .int 4, .int 0, .int 1, .int 0, .int 10, .int 10, .int 7, .int 7, .int 9, .int 3, .int 5, .int 8, .int 6]), (0, .tab 0 (some 15))] := by kernel_rfl
theorem e11x11b_21 (K : KS) : l_turn1 [.unb, .unb, .ref 1, .int 21, .int 11, .int 11, .unb, .unb, .unb] 1671 [(15, .code), (1, .list [.int 0, .int 0, .int 5, .int 0, .int 10, .int 7, .int 5, .int 2, .int 4, .int 0, .int 1, .int 0, .int 10, .int 10, .int 7, .int 7, .int 9, .int 3, .int 5, .int 8, .int 6]), (0, .tab 0 (some 15))] K = K .nxt [.unb, .unb, .ref 1, .int 21, .int 11, .int 11, .unb, .unb, .unb] 1767 [(15, .code), (1, .list [.int 0, .int 0, .int 5, .int 0, .int 10, .int 7, .int 5, .int 2, .int 4, .int 0, .int 1, .int 0, .int 10, .int 10, .int 7, .int 7, .int 9, .int 3, .int 5, .int 8, .int 6, .int 2]), (0, .tab 0 (some 15))] := by kernel_rfl
theorem e11x11b (K : KS) : l_law1 [.unb, .unb, .ref 1, .unb, .int 11, .int 11, .unb, .unb, .unb] 2 [(1, .list [.int 0]), (0, .tab 0 none)] K = K .nxt [.unb, .unb, .ref 1, .int 21, .int 11, .int 11, .unb, .unb, .unb] 1767 [(15, .code), (1, .list [.int 0, .int 0, .int 5, .int 0, .int 10, .int 7, .int 5, .int 2, .int 4, .int 0, .int 1, .int 0, .int 10, .int 10, .int 7, .int 7, .int 9, .int 3, .int 5, .int 8, .int 6, .int 2]), (0, .tab 0 (some 15))] :=
  (for_start (hi := 22) (c := 21) (fun _ => by kernel_rfl) (by kernel_rfl) (by kernel_rfl)).trans ((loop_turn (f := 20) (fun _ => rfl) rfl e11x11b_1).trans ((loop_turn (f := 19) (fun _ => rfl) rfl e11x11b_2).trans ((loop_turn (f := 18) (fun _ => rfl) rfl e11x11b_3).trans ((loop_turn (f := 17) (fun _ => rfl) rfl e11x11b_4).trans ((loop_turn (f := 16) (fun _ => rfl) rfl e11x11b_5).trans ((loop_turn (f := 15) (fun _ => rfl) rfl e11x11b_6).trans ((loop_turn (f := 14) (fun _ => rfl) rfl e11x11b_7).trans ((loop_turn (f := 13) (fun _ => rfl) rfl e11x11b_8).trans ((loop_turn (f := 12) (fun _ => rfl) rfl e11x11b_9).trans ((loop_turn (f := 11) (fun _ => rfl) rfl e11x11b_10).trans ((loop_turn (f := 10) (fun _ => rfl) rfl e11x11b_11).trans ((loop_turn (f := 9) (fun _ => rfl) rfl e11x11b_12).trans ((loop_turn (f := 8) (fun _ => rfl) rfl e11x11b_13).trans ((loop_turn (f := 7) (fun _ => rfl) rfl e11x11b_14).trans ((loop_turn (f := 6) (fun _ => rfl) rfl e11x11b_15).trans ((loop_turn (f := 5) (fun _ => rfl) rfl e11x11b_16).trans ((loop_turn (f := 4) (fun _ => rfl) rfl e11x11b_17).trans ((loop_turn (f := 3) (fun _ => rfl) rfl e11x11b_18).trans ((loop_turn (f := 2) (fun _ => rfl) rfl e11x11b_19).trans ((loop_turn (f := 1) (fun _ => rfl) rfl e11x11b_20).trans ((loop_turn (f := 0) (fun _ => rfl) rfl e11x11b_21).trans rfl)))))))))))))))))))))
theorem e11x11c_1 (K : KS) : l_turn2 [.unb, .unb, .ref 1, .int 1, .int 11, .int 11, .unb, .unb, .unb] 1767 [(15, .code), (1, .list [.int 0, .int 0, .int 5, .int 0, .int 10, .int 7, .int 5, .int 2, .int 4, .int 0, .int 1, .int 0, .int 10, .int 10, .int 7, .int 7, .int 9, .int 3, .int 5, .int 8, .int 6, .int 2]), (0, .tab 0 (some 15))] K = K .nxt [.unb, .unb, .ref 1, .int 1, .int 11, .int 11, .int 1, .unb, .unb] 1845 [(1838, .list [.int 1]), (1768, .list [.int 11]), (1767, .list [.int 1]), (15, .code), (1, .list [.int 0, .int 0, .int 5, .int 0, .int 10, .int 7, .int 5, .int 2, .int 4, .int 0, .int 1, .int 0, .int 10, .int 10, .int 7, .int 7, .int 9, .int 3, .int 5, .int 8, .int 6, .int 2]), (0, .tab 0 (some 15))] := by kernel_rfl
theorem e11x11c_2 (K : KS) : l_turn2 [.unb, .unb, .ref 1, .int 2, .int 11, .int 11, .int 1, .unb, .unb] 1845 [(1838, .list [.int 1]), (1768, .list [.int 11]), (1767, .list [.int 1]), (15, .code), (1, .list [.int 0, .int 0, .int 5, .int 0, .int 10, .int 7, .int 5, .int 2, .int 4, .int 0, .int 1, .int 0, .int 10, .int 10, .int 7, .int 7, .int 9, .int 3, .int 5, .int 8, .int 6, .int 2]), (0, .tab 0 (some 15))] K = K .nxt [.unb, .unb, .ref 1, .int 2, .int 11, .int 11, .int 6, .unb, .unb] 1960 [(1956, .list [.int 6]), (1846, .list [.int 11]), (1845, .list [.int 2]), (1838, .list [.int 1]), (1768, .list [.int 11]), (1767, .list [.int 1]), (15, .code), (1, .list [.int 0, .int 0, .int 5, .int 0, .int 10, .int 7, .int 5, .int 2, .int 4, .int 0, .int 1, .int 0, .int 10, .int 10, .int 7, .int 7, .int 9, .int 3, .int 5, .int 8, .int 6, .int 2]), (0, .tab 0 (some 15))] := by kernel_rfl
theorem e11x11c_3 (K : KS) : l_turn2 [.unb, .unb, .ref 1, .int 3, .int 11, .int 11, .int 6, .unb, .unb] 1960 [(1956, .list [.int 6]), (1846, .list [.int 11]), (1845, .list [.int 2]), (1838, .list [.int 1]), (1768, .list [.int 11]), (1767, .list [.int 1]), (15, .code), (1, .list [.int 0, .int 0, .int 5, .int 0, .int 10, .int 7, .int 5, .int 2, .int 4, .int 0, .int 1, .int 0, .int 10, .int 10, .int 7, .int 7, .int 9, .int 3, .int 5, .int 8, .int 6, .int 2]), (0, .tab 0 (some 15))] K = K .nxt [.unb, .unb, .ref 1, .int 3, .int 11, .int 11, .int 4, .unb, .unb] 2097 [(2090, .list [.int 4]), (1961, .list [.int 11]), (1960, .list [.int 3]), (1956, .list [.int 6]), (1846, .list [.int 11]), (1845, .list [.int 2]), (1838, .list [.int 1]), (1768, .list [.int 11]), (1767, .list [.int 1]), (15, .code), (1, .list [.int 0, .int 0, .int 5, .int 0, .int 10, .int 7, .int 5, .int 2, .int 4, .int 0, .int 1, .int 0, .int 10, .int 10, .int 7, .int 7, .int 9, .int 3, .int 5, .int 8, .int 6, .int 2]), (0, .tab 0 (some 15))] := by kernel_rfl
theorem e11x11c_4 (K : KS) : l_turn2 [.unb, .unb, .ref 1, .int 4, .int 11, .int 11, .int 4, .unb, .unb] 2097 [(2090, .list [.int 4]), (1961, .list [.int 11]), (1960, .list [.int 3]), (1956, .list [.int 6]), (1846, .list [.int 11]), (1845, .list [.int 2]), (1838, .list [.int 1]), (1768, .list [.int 11]), (1767, .list [.int 1]), (15, .code), (1, .list [.int 0, .int 0, .int 5, .int 0, .int 10, .int 7, .int 5, .int 2, .int 4, .int 0, .int 1, .int 0, .int 10, .int 10, .int 7, .int 7, .int 9, .int 3, .int 5, .int 8, .int 6, .int 2]), (0, .tab 0 (some 15))] K = K .nxt [.unb, .unb, .ref 1, .int 4, .int 11, .int 11, .int 3, .unb, .unb] 2234 [(2227, .list [.int 3]), (2098, .list [.int 11]), (2097, .list [.int 4]), (2090, .list [.int 4]), (1961, .list [.int 11]), (1960, .list [.int 3]), (1956, .list [.int 6]), (1846, .list [.int 11]), (1845, .list [.int 2]), (1838, .list [.int 1]), (1768, .list [.int 11]), (1767, .list [.int 1]), (15, .code), (1, .list [.int 0, .int 0, .int 5, .int 0, .int 10, .int 7, .int 5, .int 2, .int 4, .int 0, .int 1, .int 0, .int 10, .int 10, .int 7, .int 7, .int 9, .int 3, .int 5, .int 8, .int 6, .int 2]), (0, .tab 0 (some 15))] := by kernel_rfl
theorem e11x11c_5 (K : KS) : l_turn2 [.unb, .unb, .ref 1, .int 5, .int 11, .int 11, .int 3, .unb, .unb] 2234 [(2227, .list [.int 3]), (2098, .list [.int 11]), (2097, .list [.int 4]), (2090, .list [.int 4]), (1961, .list [.int 11]), (1960, .list [.int 3]), (1956, .list [.int 6]), (1846, .list [.int 11]), (1845, .list [.int 2]), (1838, .list [.int 1]), (1768, .list [.int 11]), (1767, .list [.int 1]), (15, .code), (1, .list [.int 0, .int 0, .int 5, .int 0, .int 10, .int 7, .int 5, .int 2, .int 4, .int 0, .int 1, .int 0, .int 10, .int 10, .int 7, .int 7, .int 9, .int 3, .int 5, .int 8, .int 6, .int 2]), (0, .tab 0 (some 15))] K = K .nxt [.unb, .unb, .ref 1, .int 5, .int 11, .int 11, .int 9, .unb, .unb] 2349 [(2345, .list [.int 9]), (2235, .list [.int 11]), (2234, .list [.int 5]), (2227, .list [.int 3]), (2098, .list [.int 11]), (2097, .list [.int 4]), (2090, .list [.int 4]), (1961, .list [.int 11]), (1960, .list [.int 3]), (1956, .list [.int 6]), (1846, .list [.int 11]), (1845, .list [.int 2]), (1838, .list [.int 1]), (1768, .list [.int 11]), (1767, .list [.int 1]), (15, .code), (1, .list [.int 0, .int 0, .int 5, .int 0, .int 10, .int 7, .int 5, .int 2, .int 4, .int 0, .int 1, .int 0, .int 10, .int 10, .int 7, .int 7, .int 9, .int 3, .int 5, .int 8, .int 6, .int 2]), (0, .tab 0 (some 15))] := by kernel_rfl
theorem e11x11c_6 (K : KS) : l_turn2 [.unb, .unb, .ref 1, .int 6, .int 11, .int 11, .int 9, .unb, .unb] 2349 [(2345, .list [.int 9]), (2235, .list [.int 11]), (2234, .list [.int 5]), (2227, .list [.int 3]), (2098, .list [.int 11]), (2097, .list [.int 4]), (2090, .list [.int 4]), (1961, .list [.int 11]), (1960, .list [.int 3]), (1956, .list [.int 6]), (1846, .list [.int 11]), (1845, .list [.int 2]), (1838, .list [.int 1]), (1768, .list [.int 11]), (1767, .list [.int 1]), (15, .code), (1, .list [.int 0, .int 0, .int 5, .int 0, .int 10, .int 7, .int 5, .int 2, .int 4, .int 0, .int 1, .int 0, .int 10, .int 10, .int 7, .int 7, .int 9, .int 3, .int 5, .int 8, .int 6, .int 2]), (0, .tab 0 (some 15))] K = K .nxt [.unb, .unb, .ref 1, .int 6, .int 11, .int 11, .int 2, .unb, .unb] 2486 [(2479, .list [.int 2]), (2350, .list [.int 11]), (2349, .list [.int 6]), (2345, .list [.int 9]), (2235, .list [.int 11]), (2234, .list [.int 5]), (2227, .list [.int 3]), (2098, .list [.int 11]), (2097, .list [.int 4]), (2090, .list [.int 4]), (1961, .list [.int 11]), (1960, .list [.int 3]), (1956, .list [.int 6]), (1846, .list [.int 11]), (1845, .list [.int 2]), (1838, .list [.int 1]), (1768, .list [.int 11]), (1767, .list [.int 1]), (15, .code), (1, .list [.int 0, .int 0, .int 5, .int 0, .int 10, .int 7, .int 5, .int 2, .int 4, .int 0, .int 1, .int 0, .int 10, .int 10, .int 7, .int 7, .int 9, .int 3, .int 5, .int 8, .int 6, .int 2]), (0, .tab 0 (some 15))] := by kernel_rfl
theorem e11x11c_7 (K : KS) : l_turn2 [.unb, .unb, .ref 1, .int 7, .int 11, .int 11, .int 2, .unb, .unb] 2486 [(2479, .list [.int 2]), (2350, .list [.int 11]), (2349, .list [.int 6]), (2345, .list [.int 9]), (2235, .list [.int 11]), (2234, .list [.int 5]), (2227, .list [.int 3]), (2098, .list [.int 11]), (2097, .list [.int 4]), (2090, .list [.int 4]), (1961, .list [.int 11]), (1960, .list [.int 3]), (1956, .list [.int 6]), (1846, .list [.int 11]), (1845, .list [.int 2]), (1838, .list [.int 1]), (1768, .list [.int 11]), (1767, .list [.int 1]), (15, .code), (1, .list [.int 0, .int 0, .int 5, .int 0, .int 10, .int 7, .int 5, .int 2, .int 4, .int 0, .int 1, .int 0, .int 10, .int 10, .int 7, .int 7, .int 9, .int 3, .int 5, .int 8, .int 6, .int 2]), (0, .tab 0 (some 15))] K = K .nxt [.unb, .unb, .ref 1, .int 7, .int 11, .int 11, .int 8, .unb, .unb] 2659 [(2655, .list [.int 8]), (2487, .list [.int 11]), (2486, .list [.int 7]), (2479, .list [.int 2]), (2350, .list [.int 11]), (2349, .list [.int 6]), (2345, .list [.int 9]), (2235, .list [.int 11]), (2234, .list [.int 5]), (2227, .list [.int 3]), (2098, .list [.int 11]), (2097, .list [.int 4]), (2090, .list [.int 4]), (1961, .list [.int 11]), (1960, .list [.int 3]), (1956, .list [.int 6]), (1846, .list [.int 11]), (1845, .list [.int 2]), (1838, .list [.int 1]), (1768, .list [.int 11]), (1767, .list [.int 1]), (15, .code), (1, .list [.int 0, .int 0, .int 5, .int 0, .int 10, .int 7, .int 5, .int 2, .int 4, .int 0, .int 1, .int 0, .int 10, .int 10, .int 7, .int 7, .int 9, .int 3, .int 5, .int 8, .int 6, .int 2]), (0, .tab 0 (some 15))] := by kernel_rfl
theorem e11x11c_8 (K : KS) : l_turn2 [.unb, .unb, .ref 1, .int 8, .int 11, .int 11, .int 8, .unb, .unb] 2659 [(2655, .list [.int 8]), (2487, .list [.int 11]), (2486, .list [.int 7]), (2479, .list [.int 2]), (2350, .list [.int 11]), (2349, .list [.int 6]), (2345, .list [.int 9]), (2235, .list [.int 11]), (2234, .list [.int 5]), (2227, .list [.int 3]), (2098, .list [.int 11]), (2097, .list [.int 4]), (2090, .list [.int 4]), (1961, .list [.int 11]), (1960, .list [.int 3]), (1956, .list [.int 6]), (1846, .list [.int 11]), (1845, .list [.int 2]), (1838, .list [.int 1]), (1768, .list [.int 11]), (1767, .list [.int 1]), (15, .code), (1, .list [.int 0, .int 0, .int 5, .int 0, .int 10, .int 7, .int 5, .int 2, .int 4, .int 0, .int 1, .int 0, .int 10, .int 10, .int 7, .int 7, .int 9, .int 3, .int 5, .int 8, .int 6, .int 2]), (0, .tab 0 (some 15))] K = K .nxt [.unb, .unb, .ref 1, .int 8, .int 11, .int 11, .int 7, .unb, .unb] 2832 [(2828, .list [.int 7]), (2660, .list [.int 11]), (2659, .list [.int 8]), (2655, .list [.int 8]), (2487, .list [.int 11]), (2486, .list [.int 7]), (2479, .list [.int 2]), (2350, .list [.int 11]), (2349, .list [.int 6]), (2345, .list [.int 9]), (2235, .list [.int 11]), (2234, .list [.int 5]), (2227, .list [.int 3]), (2098, .list [.int 11]), (2097, .list [.int 4]), (2090, .list [.int 4]), (1961, .list [.int 11]), (1960, .list [.int 3]), (1956, .list [.int 6]), (1846, .list [.int 11]), (1845, .list [.int 2]), (1838, .list [.int 1]), (1768, .list [.int 11]), (1767, .list [.int 1]), (15, .code), (1, .list [.int 0, .int 0, .int 5, .int 0, .int 10, .int 7, .int 5, .int 2, .int 4, .int 0, .int 1, .int 0, .int 10, .int 10, .int 7, .int 7, .int 9, .int 3, .int 5, .int 8, .int 6, .int 2]), (0, .tab 0 (some 15))] := by kernel_rfl
theorem e11x11c_9 (K : KS) : l_turn2 [.unb, .unb, .ref 1, .int 9, .int 11, .int 11, .int 7, .unb, .unb] 2832 [(2828, .list [.int 7]), (2660, .list [.int 11]), (2659, .list [.int 8]), (2655, .list [.int 8]), (2487, .list [.int 11]), (2486, .list [.int 7]), (2479, .list [.int 2]), (2350, .list [.int 11]), (2349, .list [.int 6]), (2345, .list [.int 9]), (2235, .list [.int 11]), (2234, .list [.int 5]), (2227, .list [.int 3]), (2098, .list [.int 11]), (2097, .list [.int 4]), (2090, .list [.int 4]), (1961, .list [.int 11]), (1960, .list [.int 3]), (1956, .list [.int 6]), (1846, .list [.int 11]), (1845, .list [.int 2]), (1838, .list [.int 1]), (1768, .list [.int 11]), (1767, .list [.int 1]), (15, .code), (1, .list [.int 0, .int 0, .int 5, .int 0, .int 10, .int 7, .int 5, .int 2, .int 4, .int 0, .int 1, .int 0, .int 10, .int 10, .int 7, .int 7, .int 9, .int 3, .int 5, .int 8, .int 6, .int 2]), (0, .tab 0 (some 15))] K = K .nxt [.unb, .unb, .ref 1, .int 9, .int 11, .int 11, .int 5, .unb, .unb] 2969 [(2962, .list [.int 5]), (2833, .list [.int 11]), (2832, .list [.int 9]), (2828, .list [.int 7]), (2660, .list [.int 11]), (2659, .list [.int 8]), (2655, .list [.int 8]), (2487, .list [.int 11]), (2486, .list [.int 7]), (2479, .list [.int 2]), (2350, .list [.int 11]), (2349, .list [.int 6]), (2345, .list [.int 9]), (2235, .list [.int 11]), (2234, .list [.int 5]), (2227, .list [.int 3]), (2098, .list [.int 11]), (2097, .list [.int 4]), (2090, .list [.int 4]), (1961, .list [.int 11]), (1960, .list [.int 3]), (1956, .list [.int 6]), (1846, .list [.int 11]), (1845, .list [.int 2]), (1838, .list [.int 1]), (1768, .list [.int 11]), (1767, .list [.int 1]), (15, .code), (1, .list [.int 0, .int 0, .int 5, .int 0, .int 10, .int 7, .int 5, .int 2, .int 4, .int 0, .int 1, .int 0, .int 10, .int 10, .int 7, .int 7, .int 9, .int 3, .int 5, .int 8, .int 6, .int 2]), (0, .tab 0 (some 15))] := by kernel_rfl
theorem e11x11c_10 (K : KS) : l_turn2 [.unb, .unb, .ref 1, .int 10, .int 11, .int 11, .int 5, .unb, .unb] 2969 [(2962, .list [.int 5]), (2833, .list [.int 11]), (2832, .list [.int 9]), (2828, .list [.int 7]), (2660, .list [.int 11]), (2659, .list [.int 8]), (2655, .list [.int 8]), (2487, .list [.int 11]), (2486, .list [.int 7]), (2479, .list [.int 2]), (2350, .list [.int 11]), (2349, .list [.int 6]), (2345, .list [.int 9]), (2235, .list [.int 11]), (2234, .list [.int 5]), (2227, .list [.int 3]), (2098, .list [.int 11]), (2097, .list [.int 4]), (2090, .list [.int 4]), (1961, .list [.int 11]), (1960, .list [.int 3]), (1956, .list [.int 6]), (1846, .list [.int 11]), (1845, .list [.int 2]), (1838, .list [.int 1]), (1768, .list [.int 11]), (1767, .list [.int 1]), (15, .code), (1, .list [.int 0, .int 0, .int 5, .int 0, .int 10, .int 7, .int 5, .int 2, .int 4, .int 0, .int 1, .int 0, .int 10, .int 10, .int 7, .int 7, .int 9, .int 3, .int 5, .int 8, .int 6, .int 2]), (0, .tab 0 (some 15))] K = K .nxt [.unb, .unb, .ref 1, .int 10, .int 11, .int 11, .int 10, .unb, .unb] 3084 [(3080, .list [.int 10]), (2970, .list [.int 11]), (2969, .list [.int 10]), (2962, .list [.int 5]), (2833, .list [.int 11]), (2832, .list [.int 9]), (2828, .list [.int 7]), (2660, .list [.int 11]), (2659, .list [.int 8]), (2655, .list [.int 8]), (2487, .list [.int 11]), (2486, .list [.int 7]), (2479, .list [.int 2]), (2350, .list [.int 11]), (2349, .list [.int 6]), (2345, .list [.int 9]), (2235, .list [.int 11]), (2234, .list [.int 5]), (2227, .list [.int 3]), (2098, .list [.int 11]), (2097, .list [.int 4]), (2090, .list [.int 4]), (1961, .list [.int 11]), (1960, .list [.int 3]), (1956, .list [.int 6]), (1846, .list [.int 11]), (1845, .list [.int 2]), (1838, .list [.int 1]), (1768, .list [.int 11]), (1767, .list [.int 1]), (15, .code), (1, .list [.int 0, .int 0, .int 5, .int 0, .int 10, .int 7, .int 5, .int 2, .int 4, .int 0, .int 1, .int 0, .int 10, .int 10, .int 7, .int 7, .int 9, .int 3, .int 5, .int 8, .int 6, .int 2]), (0, .tab 0 (some 15))] := by kernel_rfl
theorem e11x11c (K : KS) : l_law2 [.unb, .unb, .ref 1, .int 21, .int 11, .int 11, .unb, .unb, .unb] 1767 [(15, .code), (1, .list [.int 0, .int 0, .int 5, .int 0, .int 10, .int 7, .int 5, .int 2, .int 4, .int 0, .int 1, .int 0, .int 10, .int 10, .int 7, .int 7, .int 9, .int 3, .int 5, .int 8, .int 6, .int 2]), (0, .tab 0 (some 15))] K = K .nxt [.unb, .unb, .ref 1, .int 10, .int 11, .int 11, .int 10, .unb, .unb] 3084 [(3080, .list [.int 10]), (2970, .list [.int 11]), (2969, .list [.int 10]), (2962, .list [.int 5]), (2833, .list [.int 11]), (2832, .list [.int 9]), (2828, .list [.int 7]), (2660, .list [.int 11]), (2659, .list [.int 8]), (2655, .list [.int 8]), (2487, .list [.int 11]), (2486, .list [.int 7]), (2479, .list [.int 2]), (2350, .list [.int 11]), (2349, .list [.int 6]), (2345, .list [.int 9]), (2235, .list [.int 11]), (2234, .list [.int 5]), (2227, .list [.int 3]), (2098, .list [.int 11]), (2097, .list [.int 4]), (2090, .list [.int 4]), (1961, .list [.int 11]), (1960, .list [.int 3]), (1956, .list [.int 6]), (1846, .list [.int 11]), (1845, .list [.int 2]), (1838, .list [.int 1]), (1768, .list [.int 11]), (1767, .list [.int 1]), (15, .code), (1, .list [.int 0, .int 0, .int 5, .int 0, .int 10, .int 7, .int 5, .int 2, .int 4, .int 0, .int 1, .int 0, .int 10, .int 10, .int 7, .int 7, .int 9, .int 3, .int 5, .int 8, .int 6, .int 2]), (0, .tab 0 (some 15))] :=
  (for_start (hi := 11) (c := 10) (fun _ => by kernel_rfl) (by kernel_rfl) (by kernel_rfl)).trans ((loop_turn (f := 9) (fun _ => rfl) rfl e11x11c_1).trans ((loop_turn (f := 8) (fun _ => rfl) rfl e11x11c_2).trans ((loop_turn (f := 7) (fun _ => rfl) rfl e11x11c_3).trans ((loop_turn (f := 6) (fun _ => rfl) rfl e11x11c_4).trans ((loop_turn (f := 5) (fun _ => rfl) rfl e11x11c_5).trans ((loop_turn (f := 4) (fun _ => rfl) rfl e11x11c_6).trans ((loop_turn (f := 3) (fun _ => rfl) rfl e11x11c_7).trans ((loop_turn (f := 2) (fun _ => rfl) rfl e11x11c_8).trans ((loop_turn (f := 1) (fun _ => rfl) rfl e11x11c_9).trans ((loop_turn (f := 0) (fun _ => rfl) rfl e11x11c_10).trans rfl))))))))))
theorem e11x11d (K : KS) : l_law3 [.unb, .unb, .ref 1, .int 10, .int 11, .int 11, .int 10, .unb, .unb] 3084 [(3080, .list [.int 10]), (2970, .list [.int 11]), (2969, .list [.int 10]), (2962, .list [.int 5]), (2833, .list [.int 11]), (2832, .list [.int 9]), (2828, .list [.int 7]), (2660, .list [.int 11]), (2659, .list [.int 8]), (2655, .list [.int 8]), (2487, .list [.int 11]), (2486, .list [.int 7]), (2479, .list [.int 2]), (2350, .list [.int 11]), (2349, .list [.int 6]), (2345, .list [.int 9]), (2235, .list [.int 11]), (2234, .list [.int 5]), (2227, .list [.int 3]), (2098, .list [.int 11]), (2097, .list [.int 4]), (2090, .list [.int 4]), (1961, .list [.int 11]), (1960, .list [.int 3]), (1956, .list [.int 6]), (1846, .list [.int 11]), (1845, .list [.int 2]), (1838, .list [.int 1]), (1768, .list [.int 11]), (1767, .list [.int 1]), (15, .code), (1, .list [.int 0, .int 0, .int 5, .int 0, .int 10, .int 7, .int 5, .int 2, .int 4, .int 0, .int 1, .int 0, .int 10, .int 10, .int 7, .int 7, .int 9, .int 3, .int 5, .int 8, .int 6, .int 2]), (0, .tab 0 (some 15))] K = K .nxt [.unb, .unb, .ref 1, .int 10, .int 11, .int 11, .int 10, .ref 3234, .ref 3236] 3238 [(3237, .tup [.ref 3234, .ref 3236]), (3236, .list []), (3234, .list [.int 163, .int 161]), (3230, .list [.int 11]), (3228, .list [.int 1793, .int 1771]), (3227, .list [.int 1792, .int 1771]), (3080, .list [.int 10]), (2970, .list [.int 11]), (2969, .list [.int 10]), (2962, .list [.int 5]), (2833, .list [.int 11]), (2832, .list [.int 9]), (2828, .list [.int 7]), (2660, .list [.int 11]), (2659, .list [.int 8]), (2655, .list [.int 8]), (2487, .list [.int 11]), (2486, .list [.int 7]), (2479, .list [.int 2]), (2350, .list [.int 11]), (2349, .list [.int 6]), (2345, .list [.int 9]), (2235, .list [.int 11]), (2234, .list [.int 5]), (2227, .list [.int 3]), (2098, .list [.int 11]), (2097, .list [.int 4]), (2090, .list [.int 4]), (1961, .list [.int 11]), (1960, .list [.int 3]), (1956, .list [.int 6]), (1846, .list [.int 11]), (1845, .list [.int 2]), (1838, .list [.int 1]), (1768, .list [.int 11]), (1767, .list [.int 1]), (15, .code), (1, .list [.int 0, .int 0, .int 5, .int 0, .int 10, .int 7, .int 5, .int 2, .int 4, .int 0, .int 1, .int 0, .int 10, .int 10, .int 7, .int 7, .int 9, .int 3, .int 5, .int 8, .int 6, .int 2]), (0, .tab 0 (some 15))] := by kernel_rfl
theorem e11x11e (K : KS) : l_law4 [.unb, .unb, .ref 1, .int 10, .int 11, .int 11, .int 10, .ref 3234, .ref 3236] 3238 [(3237, .tup [.ref 3234, .ref 3236]), (3236, .list []), (3234, .list [.int 163, .int 161]), (3230, .list [.int 11]), (3228, .list [.int 1793, .int 1771]), (3227, .list [.int 1792, .int 1771]), (3080, .list [.int 10]), (2970, .list [.int 11]), (2969, .list [.int 10]), (2962, .list [.int 5]), (2833, .list [.int 11]), (2832, .list [.int 9]), (2828, .list [.int 7]), (2660, .list [.int 11]), (2659, .list [.int 8]), (2655, .list [.int 8]), (2487, .list [.int 11]), (2486, .list [.int 7]), (2479, .list [.int 2]), (2350, .list [.int 11]), (2349, .list [.int 6]), (2345, .list [.int 9]), (2235, .list [.int 11]), (2234, .list [.int 5]), (2227, .list [.int 3]), (2098, .list [.int 11]), (2097, .list [.int 4]), (2090, .list [.int 4]), (1961, .list [.int 11]), (1960, .list [.int 3]), (1956, .list [.int 6]), (1846, .list [.int 11]), (1845, .list [.int 2]), (1838, .list [.int 1]), (1768, .list [.int 11]), (1767, .list [.int 1]), (15, .code), (1, .list [.int 0, .int 0, .int 5, .int 0, .int 10, .int 7, .int 5, .int 2, .int 4, .int 0, .int 1, .int 0, .int 10, .int 10, .int 7, .int 7, .int 9, .int 3, .int 5, .int 8, .int 6, .int 2]), (0, .tab 0 (some 15))] K = K (.ret (.bool true)) [.unb, .unb, .ref 1, .int 10, .int 11, .int 11, .int 10, .ref 3234, .ref 3236] 3241 [(3240, .list [.int 0, .int 0, .int 5, .int 0, .int 10, .int 7, .int 5, .int 2, .int 4, .int 0, .int 1]), (3238, .list []), (3237, .tup [.ref 3234, .ref 3236]), (3236, .list []), (3234, .list [.int 163, .int 161]), (3230, .list [.int 11]), (3228, .list [.int 1793, .int 1771]), (3227, .list [.int 1792, .int 1771]), (3080, .list [.int 10]), (2970, .list [.int 11]), (2969, .list [.int 10]), (2962, .list [.int 5]), (2833, .list [.int 11]), (2832, .list [.int 9]), (2828, .list [.int 7]), (2660, .list [.int 11]), (2659, .list [.int 8]), (2655, .list [.int 8]), (2487, .list [.int 11]), (2486, .list [.int 7]), (2479, .list [.int 2]), (2350, .list [.int 11]), (2349, .list [.int 6]), (2345, .list [.int 9]), (2235, .list [.int 11]), (2234, .list [.int 5]), (2227, .list [.int 3]), (2098, .list [.int 11]), (2097, .list [.int 4]), (2090, .list [.int 4]), (1961, .list [.int 11]), (1960, .list [.int 3]), (1956, .list [.int 6]), (1846, .list [.int 11]), (1845, .list [.int 2]), (1838, .list [.int 1]), (1768, .list [.int 11]), (1767, .list [.int 1]), (15, .code), (1, .list [.int 0, .int 0, .int 5, .int 0, .int 10, .int 7, .int 5, .int 2, .int 4, .int 0, .int 1, .int 0, .int 10, .int 10, .int 7, .int 7, .int 9, .int 3, .int 5, .int 8, .int 6, .int 2]), (0, .tab 0 (some 15))] := by kernel_rfl
theorem e11x11 : c_law (loc0 11 11) 1 [(0, .tab 0 none)] finK = true := law_chain e11x11a e11x11b e11x11c e11x11d e11x11e rfl
theorem e12x11a (K : KS) : l_law0 [.unb, .unb, .unb, .unb, .int 12, .int 11, .unb, .unb, .unb] 1 [(0, .tab 0 none)] K = K .nxt [.unb, .unb, .ref 1, .unb, .int 12, .int 11, .unb, .unb, .unb] 2 [(1, .list [.int 0]), (0, .tab 0 none)] := by kernel_rfl
theorem e12x11b_1 (K : KS) : l_turn1 [.unb, .unb, .ref 1, .int 1, .int 12, .int 11, .unb, .unb, .unb] 2 [(1, .list [.int 0]), (0, .tab 0 none)] K = K .nxt [.unb, .unb, .ref 1, .int 1, .int 12, .int 11, .unb, .unb, .unb] 71 [(15, .code), (1, .list [.int 0, .int 0]), (0, .tab 0 (some 15))] := by kernel_rfl
theorem e12x11b_2 (K : KS) : l_turn1 [.unb, .unb, .ref 1, .int 2, .int 12, .int 11, .unb, .unb, .unb] 71 [(15, .code), (1, .list [.int 0, .int 0]), (0, .tab 0 (some 15))] K = K .nxt [.unb, .unb, .ref 1, .int 2, .int 12, .int 11, .unb, .unb, .unb] 147 [(15, .code), (1, .list [.int 0, .int 0, .int 5]), (0, .tab 0 (some 15))] := by kernel_rfl
theorem e12x11b_3 (K : KS) : l_turn1 [.unb, .unb, .ref 1, .int 3, .int 12, .int 11, .unb, .unb, .unb] 147 [(15, .code), (1, .list [.int 0, .int 0, .int 5]), (0, .tab 0 (some 15))] K = K .nxt [.unb, .unb, .ref 1, .int 3, .int 12, .int 11, .unb, .unb, .unb] 219 [(15, .code), (1, .list [.int 0, .int 0, .int 5, .int 0]), (0, .tab 0 (some 15))] := by kernel_rfl
theorem e12x11b_4 (K : KS) : l_turn1 [.unb, .unb, .ref 1, .int 4, .int 12, .int 11, .unb, .unb, .unb] 219 [(15, .code), (1, .list [.int 0, .int 0, .int 5, .int 0]), (0, .tab 0 (some 15))] K = K .nxt [.unb, .unb, .ref 1, .int 4, .int 12, .int 11, .unb, .unb, .unb] 299 [(15, .code), (1, .list [.int 0, .int 0, .int 5, .int 0, .int 10]), (0, .tab 0 (some 15))] := by kernel_rfl
theorem e12x11b_5 (K : KS) : l_turn1 [.unb, .unb, .ref 1, .int 5, .int 12, .int 11, .unb, .unb, .unb] 299 [(15, .code), (1, .list [.int 0, .int 0, .int 5, .int 0, .int 10]), (0, .tab 0 (some 15))] K = K .nxt [.unb, .unb, .ref 1, .int 5, .int 12, .int 11, .unb, .unb, .unb] 383 [(15, .code), (1, .list [.int 0, .int 0, .int 5, .int 0, .int 10, .int 7]), (0, .tab 0 (some 15))] := by kernel_rfl
theorem e12x11b_6 (K : KS) : l_turn1 [.unb, .unb, .ref 1, .int 6, .int 12, .int 11, .unb, .unb, .unb] 383 [(15, .code), (1, .list [.int 0, .int 0, .int 5, .int 0, .int 10, .int 7]), (0, .tab 0 (some 15))] K = K .nxt [.unb, .unb, .ref 1, .int 6, .int 12, .int 11, .unb, .unb, .unb] 471 [(15, .code), (1, .list [.int 0, .int 0, .int 5, .int 0, .int 10, .int 7, .int 5]), (0, .tab 0 (some 15))] := by kernel_rfl
theorem e12x11b_7 (K : KS) : l_turn1 [.unb, .unb, .ref 1, .int 7, .int 12, .int 11, .unb, .unb, .unb] 471 [(15, .code), (1, .list [.int 0, .int 0, .int 5, .int 0, .int 10, .int 7, .int 5]), (0, .tab 0 (some 15))] K = K .nxt [.unb, .unb, .ref 1, .int 7, .int 12, .int 11, .unb, .unb, .unb] 559 [(15, .code), (1, .list [.int 0, .int 0, .int 5, .int 0, .int 10, .int 7, .int 5, .int 2]), (0, .tab 0 (some 15))] := by kernel_rfl
theorem e12x11b_8 (K : KS) : l_turn1 [.unb, .unb, .ref 1, .int 8, .int 12, .int 11, .unb, .unb, .unb] 559 [(15, .code), (1, .list [.int 0, .int 0, .int 5, .int 0, .int 10, .int 7, .int 5, .int 2]), (0, .tab 0 (some 15))] K = K .nxt [.unb, .unb, .ref 1, .int 8, .int 12, .int 11, .unb, .unb, .unb] 647 [(15, .code), (1, .list [.int 0, .int 0, .int 5, .int 0, .int 10, .int 7, .int 5, .int 2, .int 4]), (0, .tab 0 (some 15))] := by kernel_rfl
theorem e12x11b_9 (K : KS) : l_turn1 [.unb, .unb, .ref 1, .int 9, .int 12, .int 11, .unb, .unb, .unb] 647 [(15, .code), (1, .list [.int 0, .int 0, .int 5, .int 0, .int 10, .int 7, .int 5, .int 2, .int 4]), (0, .tab 0 (some 15))] K = K .nxt [.unb, .unb, .ref 1, .int 9, .int 12, .int 11, .unb, .unb, .unb] 727 [(15, .code), (1, .list [.int 0, .int 0, .int 5, .int 0, .int 10, .int 7, .int 5, .int 2, .int 4, .int 0]), (0, .tab 0 (some 15))] := by kernel_rfl
theorem e12x11b_10 (K : KS) : l_turn1 [.unb, .unb, .ref 1, .int 10, .int 12, .int 11, .unb, .unb, .unb] 727 [(15, .code), (1, .list [.int 0, .int 0, .int 5, .int 0, .int 10, .int 7, .int 5, .int 2, .int 4, .int 0]), (0, .tab 0 (some 15))] K = K .nxt [.unb, .unb, .ref 1, .int 10, .int 12, .int 11, .unb, .unb, .unb] 815 [(15, .code), (1, .list [.int 0, .int 0, .int 5, .int 0, .int 10, .int 7, .int 5, .int 2, .int 4, .int 0, .int 1]), (0, .tab 0 (some 15))] := by kernel_rfl
theorem e12x11b_11 (K : KS) : l_turn1 [.unb, .unb, .ref 1, .int 11, .int 12, .int 11, .unb, .unb, .unb] 815 [(15, .code), (1, .list [.int 0, .int 0, .int 5, .int 0, .int 10, .int 7, .int 5, .int 2, .int 4, .int 0, .int 1]), (0, .tab 0 (some 15))] K = K .nxt [.unb, .unb, .ref 1, .int 11, .int 12, .int 11, .unb, .unb, .unb] 815 [(15, .code), (1, .list [.int 0, .int 0, .int 5, .int 0, .int 10, .int 7, .int 5, .int 2, .int 4, .int 0, .int 1, .int 0]), (0, .tab 0 (some 15))] := by kernel_rfl
theorem e12x11b_12 (K : KS) : l_turn1 [.unb, .unb, .ref 1, .int 12, .int 12, .int 11, .unb, .unb, .unb] 815 [(15, .code), (1, .list [.int 0, .int 0, .int 5, .int 0, .int 10, .int 7, .int 5, .int 2, .int 4, .int 0, .int 1, .int 0]), (0, .tab 0 (some 15))] K = K .nxt [.unb, .unb, .ref 1, .int 12, .int 12, .int 11, .unb, .unb, .unb] 911 [(15, .code), (1, .list [.int 0, .int 0, .int 5, .int 0, .int 10, .int 7, .int 5, .int 2, .int 4, .int 0, .int 1, .int 0, .int 10]), (0, .tab 0 (some 15))] := by kernel_rfl
theorem e12x11b_13 (K : KS) : l_turn1 [.unb, .unb, .ref 1, .int 13, .int 12, .int 11, .unb, .unb, .unb] 911 [(15, .code), (1, .list [.int 0, .int 0, .int 5, .int 0, .int 10, .int 7, .int 5, .int 2, .int 4, .int 0, .int 1, .int 0, .int 10]), (0, .tab 0 (some 15))] K = K .nxt [.unb, .unb, .ref 1, .int 13, .int 12, .int 11, .unb, .unb, .unb] 1003 [(15, .code), (1, .list [.int 0, .int 0, .int 5, .int 0, .int 10, .int 7, .int 5, .int 2, .int 4, .int 0, .int 1, .int 0, .int 10, .int 10]), (0, .tab 0 (some 15))] := by kernel_rfl
theorem e12x11b_14 (K : KS) : l_turn1 [.unb, .unb, .ref 1, .int 14, .int 12, .int 11, .unb, .unb, .unb] 1003 [(15, .code), (1, .list [.int 0, .int 0, .int 5, .int 0, .int 10, .int 7, .int 5, .int 2, .int 4, .int 0, .int 1, .int 0, .int 10, .int 10]), (0, .tab 0 (some 15))] K = K .nxt [.unb, .unb, .ref 1, .int 14, .int 12, .int 11, .unb, .unb, .unb] 1099 [(15, .code), (1, .list [.int 0, .int 0, .int 5, .int 0, .int 10, .int 7, .int 5, .int 2, .int 4, .int 0, .int 1, .int 0, .int 10, .int 10, .int 7]), (0, .tab 0 (some 15))] := by kernel_rfl
theorem e12x11b_15 (K : KS) : l_turn1 [.unb, .unb, .ref 1, .int 15, .int 12, .int 11, .unb, .unb, .unb] 1099 [(15, .code), (1, .list [.int 0, .int 0, .int 5, .int 0, .int 10, .int 7, .int 5, .int 2, .int 4, .int 0, .int 1, .int 0, .int 10, .int 10, .int 7]), (0, .tab 0 (some 15))] K = K .nxt [.unb, .unb, .ref 1, .int 15, .int 12, .int 11, .unb, .unb, .unb] 1195 [(15, .code), (1, .list [.int 0, .int 0, .int 5, .int 0, .int 10, .int 7, .int 5, .int 2, .int 4, .int 0, .int 1, .int 0, .int 10, .int 10, .int 7, .int 7]), (0, .tab 0 (some 15))] := by kernel_rfl
theorem e12x11b_16 (K : KS) : l_turn1 [.unb, .unb, .ref 1, .int 16, .int 12, .int 11, .unb, .unb, .unb] 1195 [(15, .code), (1, .list [.int 0, .int 0, .int 5, .int 0, .int 10, .int 7, .int 5, .int 2, .int 4, .int 0, .int 1, .int 0, .int 10, .int 10, .int 7, .int 7]), (0, .tab 0 (some 15))] K = K .nxt [.unb, .unb, .ref 1, .int 16, .int 12, .int 11, .unb, .unb, .unb] 1291 [(15, .code), (1, .list [.int 0, .int 0, .int 5, .int 0, .int 10, .int 7, .int 5, .int 2, .int 4, .int 0, .int 1, .int 0, .int 10, .int 10, .int 7, .int 7, .int 9]), (0, .tab 0 (some 15))] := by kernel_rfl
theorem e12x11b_17 (K : KS) : l_turn1 [.unb, .unb, .ref 1, .int 17, .int 12, .int 11, .unb, .unb, .unb] 1291 [(15, .code), (1, .list [.int 0, .int 0, .int 5, .int 0, .int 10, .int 7, .int 5, .int 2, .int 4, .int 0, .int 1, .int 0, .int 10, .int 10, .int 7, .int 7, .int 9]), (0, .tab 0 (some 15))] K = K .nxt [.unb, .unb, .ref 1, .int 17, .int 12, .int 11, .unb, .unb, .unb] 1387 [(15, .code), (1, .list [.int 0, .int 0, .int 5, .int 0, .int 10, .int 7, .int 5, .int 2, .int 4, .int 0, .int 1, .int 0, .int 10, .int 10, .int 7, .int 7, .int 9, .int 3]), (0, .tab 0 (some 15))] := by kernel_rfl
theorem e12x11b_18 (K : KS) : l_turn1 [.unb, .unb, .ref 1, .int 18, .int 12, .int 11, .unb, .unb, .unb] 1387 [(15, .code), (1, .list [.int 0, .int 0, .int 5, .int 0, .int 10, .int 7, .int 5, .int 2, .int 4, .int 0, .int 1, .int 0, .int 10, .int 10, .int 7, .int 7, .int 9, .int 3]), (0, .tab 0 (some 15))] K = K .nxt [.unb, .unb, .ref 1, .int 18, .int 12, .int 11, .unb, .unb, .unb] 1483 [(15, .code), (1, .list [.int 0, .int 0, .int 5, .int 0, .int 10, .int 7, .int 5, .int 2, .int 4, .int 0, .int 1, .int 0, .int 10, .int 10, .int 7, .int 7, .int 9, .int 3, .int 5]), (0, .tab 0 (some 15))] := by kernel_rfl
theorem e12x11b_19 (K : KS) : l_turn1 [.unb, .unb, .ref 1, .int 19, .int 12, .int 11, .unb, .unb, .unb] 1483 [(15, .code), (1, .list [.int 0, .int 0, .int 5, .int 0, .int 10, .int 7, .int 5, .int 2, .int 4, .int 0, .int 1, .int 0, .int 10, .int 10, .int 7, .int 7, .int 9, .int 3, .int 5]), (0, .tab 0 (some 15))] K = K .nxt [.unb, .unb, .ref 1, .int 19, .int 12, .int 11, .unb, .unb, .unb] 1575 [(15, .code), (1, .list [.int 0, .int 0, .int 5, .int 0, .int 10, .int 7, .int 5, .int 2, .int 4, .int 0, .int 1, .int 0, .int 10, .int 10, .int 7, .int 7, .int 9, .int 3, .int 5, .int 8]), (0, .tab 0 (some 15))] := by kernel_rfl
theorem e12x11b_20 (K : KS) : l_turn1 [.unb, .unb, .ref 1, .int 20, .int 12, .int 11, .unb, .unb, .unb] 1575 [(15, .code), (1, .list [.int 0, .int 0, .int 5, .int 0, .int 10, .int 7, .int 5, .int 2, .int 4, .int 0, .int 1, .int 0, .int 10, .int 10, .int 7, .int 7, .int 9, .int 3, .int 5, .int 8]), (0, .tab 0 (some 15))] K = K .nxt [.unb, .unb, .ref 1, .int 20, .int 12, .int 11, .unb, .unb, .unb] 1671 [(15, .code), (1, .list [.int 0, .int 0, .int 5, .int 0, .int 10, .int 7, .int 5, .int 2, .int 4, .int 0, .int 1, .int 0, .int 10, .int 10, .int 7, .int 7, .int 9, .int 3, .int 5, .int 8, .int 6]), (0, .tab 0 (some 15))] := by kernel_rfl
theorem e12x11b_21 (K : KS) : l_turn1 [.unb, .unb, .ref 1, .int 21, .int 12, .int 11, .unb, .unb, .unb] 1671 [(15, .code), (1, .list [.int 0, .int 0, .int 5, .int 0, .int 10, .int 7, .int 5, .int 2, .int 4, .int 0, .int 1, .int 0, .int 10, .int 10, .int 7, .int 7, .int 9, .int 3, .int 5, .int 8, .int 6]), (0, .tab 0 (some 15))] K = K .nxt [.unb, .unb, .ref 1, .int 21, .int 12, .int 11, .unb, .unb, .unb] 1767 [(15, .code), (1, .list [.int 0, .int 0, .int 5, .int 0, .int 10, .int 7, .int 5, .int 2, .int 4, .int 0, .int 1, .int 0, .int 10, .int 10, .int 7, .int 7, .int 9, .int 3, .int 5, .int 8, .int 6, .int 2]), (0, .tab 0 (some 15))] := by kernel_rfl
theorem e12x11b (K : KS) : l_law1 [.unb, .unb, .ref 1, .unb, .int 12, .int 11, .unb, .unb, .unb] 2 [(1, .list [.int 0]), (0, .tab 0 none)] K = K .nxt [.unb, .unb, .ref 1, .int 21, .int 12, .int 11, .unb, .unb, .unb] 1767 [(15, .code), (1, .list [.int 0, .int 0, .int 5, .int 0, .int 10, .int 7, .int 5, .int 2, .int 4, .int 0, .int 1, .int 0, .int 10, .int 10, .int 7, .int 7, .int 9, .int 3, .int 5, .int 8, .int 6, .int 2]), (0, .tab 0 (some 15))] :=
  (for_start (hi := 22) (c := 21) (fun _ => by kernel_rfl) (by kernel_rfl) (by kernel_rfl)).trans ((loop_turn (f := 20) (fun _ => rfl) rfl e12x11b_1).trans ((loop_turn (f := 19) (fun _ => rfl) rfl e12x11b_2).trans ((loop_turn (f := 18) (fun _ => rfl) rfl e12x11b_3).trans ((loop_turn (f := 17) (fun _ => rfl) rfl e12x11b_4).trans ((loop_turn (f := 16) (fun _ => rfl) rfl e12x11b_5).trans ((loop_turn (f := 15) (fun _ => rfl) rfl e12x11b_6).trans ((loop_turn (f := 14) (fun _ => rfl) rfl e12x11b_7).trans ((loop_turn (f := 13) (fun _ => rfl) rfl e12x11b_8).trans ((loop_turn (f := 12) (fun _ => rfl) rfl e12x11b_9).trans ((loop_turn (f := 11) (fun _ => rfl) rfl e12x11b_10).trans ((loop_turn (f := 10) (fun _ => rfl) rfl e12x11b_11).trans ((loop_turn (f := 9) (fun _ => rfl) rfl e12x11b_12).trans ((loop_turn (f := 8) (fun _ => rfl) rfl e12x11b_13).trans ((loop_turn (f := 7) (fun _ => rfl) rfl e12x11b_14).trans ((loop_turn (f := 6) (fun _ => rfl) rfl e12x11b_15).trans ((loop_turn (f := 5) (fun _ => rfl) rfl e12x11b_16).trans ((loop_turn (f := 4) (fun _ => rfl) rfl e12x11b_17).trans ((loop_turn (f := 3) (fun _ => rfl) rfl e12x11b_18).trans ((loop_turn (f := 2) (fun _ => rfl) rfl e12x11b_19).trans ((loop_turn (f := 1) (fun _ => rfl) rfl e12x11b_20).trans ((loop_turn (f := 0) (fun _ => rfl) rfl e12x11b_21).trans rfl)))))))))))))))))))))
theorem e12x11c_1 (K : KS) : l_turn2 [.unb, .unb, .ref 1, .int 1, .int 12, .int 11, .unb, .unb, .unb] 1767 [(15, .code), (1, .list [.int 0, .int 0, .int 5, .int 0, .int 10, .int 7, .int 5, .int 2, .int 4, .int 0, .int 1, .int 0, .int 10, .int 10, .int 7, .int 7, .int 9, .int 3, .int 5, .int 8, .int 6, .int 2]), (0, .tab 0 (some 15))] K = K .nxt [.unb, .unb, .ref 1, .int 1, .int 12, .int 11, .int 1, .unb, .unb] 1845 [(1838, .list [.int 1]), (1768, .list [.int 11]), (1767, .list [.int 1]), (15, .code), (1, .list [.int 0, .int 0, .int 5, .int 0, .int 10, .int 7, .int 5, .int 2, .int 4, .int 0, .int 1, .int 0, .int 10, .int 10, .int 7, .int 7, .int 9, .int 3, .int 5, .int 8, .int 6, .int 2]), (0, .tab 0 (some 15))] := by kernel_rfl
theorem e12x11c_2 (K : KS) : l_turn2 [.unb, .unb, .ref 1, .int 2, .int 12, .int 11, .int 1, .unb, .unb] 1845 [(1838, .list [.int 1]), (1768, .list [.int 11]), (1767, .list [.int 1]), (15, .code), (1, .list [.int 0, .int 0, .int 5, .int 0, .int 10, .int 7, .int 5, .int 2, .int 4, .int 0, .int 1, .int 0, .int 10, .int 10, .int 7, .int 7, .int 9, .int 3, .int 5, .int 8, .int 6, .int 2]), (0, .tab 0 (some 15))] K = K .nxt [.unb, .unb, .ref 1, .int 2, .int 12, .int 11, .int 6, .unb, .unb] 1960 [(1956, .list [.int 6]), (1846, .list [.int 11]), (1845, .list [.int 2]), (1838, .list [.int 1]), (1768, .list [.int 11]), (1767, .list [.int 1]), (15, .code), (1, .list [.int 0, .int 0, .int 5, .int 0, .int 10, .int 7, .int 5, .int 2, .int 4, .int 0, .int 1, .int 0, .int 10, .int 10, .int 7, .int 7, .int 9, .int 3, .int 5, .int 8, .int 6, .int 2]), (0, .tab 0 (some 15))] := by kernel_rfl
theorem e12x11c_3 (K : KS) : l_turn2 [.unb, .unb, .ref 1, .int 3, .int 12, .int 11, .int 6, .unb, .unb] 1960 [(1956, .list [.int 6]), (1846, .list [.int 11]), (1845, .list [.int 2]), (1838, .list [.int 1]), (1768, .list [.int 11]), (1767, .list [.int 1]), (15, .code), (1, .list [.int 0, .int 0, .int 5, .int 0, .int 10, .int 7, .int 5, .int 2, .int 4, .int 0, .int 1, .int 0, .int 10, .int 10, .int 7, .int 7, .int 9, .int 3, .int 5, .int 8, .int 6, .int 2]), (0, .tab 0 (some 15))] K = K .nxt [.unb, .unb, .ref 1, .int 3, .int 12, .int 11, .int 4, .unb, .unb] 2097 [(2090, .list [.int 4]), (1961, .list [.int 11]), (1960, .list [.int 3]), (1956, .list [.int 6]), (1846, .list [.int 11]), (1845, .list [.int 2]), (1838, .list [.int 1]), (1768, .list [.int 11]), (1767, .list [.int 1]), (15, .code), (1, .list [.int 0, .int 0, .int 5, .int 0, .int 10, .int 7, .int 5, .int 2, .int 4, .int 0, .int 1, .int 0, .int 10, .int 10, .int 7, .int 7, .int 9, .int 3, .int 5, .int 8, .int 6, .int 2]), (0, .tab 0 (some 15))] := by kernel_rfl
theorem e12x11c_4 (K : KS) : l_turn2 [.unb, .unb, .ref 1, .int 4, .int 12, .int 11, .int 4, .unb, .unb] 2097 [(2090, .list [.int 4]), (1961, .list [.int 11]), (1960, .list [.int 3]), (1956, .list [.int 6]), (1846, .list [.int 11]), (1845, .list [.int 2]), (1838, .list [.int 1]), (1768, .list [.int 11]), (1767, .list [.int 1]), (15, .code), (1, .list [.int 0, .int 0, .int 5, .int 0, .int 10, .int 7, .int 5, .int 2, .int 4, .int 0, .int 1, .int 0, .int 10, .int 10, .int 7, .int 7, .int 9, .int 3, .int 5, .int 8, .int 6, .int 2]), (0, .tab 0 (some 15))] K = K .nxt [.unb, .unb, .ref 1, .int 4, .int 12, .int 11, .int 3, .unb, .unb] 2234 [(2227, .list [.int 3]), (2098, .list [.int 11]), (2097, .list [.int 4]), (2090, .list [.int 4]), (1961, .list [.int 11]), (1960, .list [.int 3]), (1956, .list [.int 6]), (1846, .list [.int 11]), (1845, .list [.int 2]), (1838, .list [.int 1]), (1768, .list [.int 11]), (1767, .list [.int 1]), (15, .code), (1, .list [.int 0, .int 0, .int 5, .int 0, .int 10, .int 7, .int 5, .int 2, .int 4, .int 0, .int 1, .int 0, .int 10, .int 10, .int 7, .int 7, .int 9, .int 3, .int 5, .int 8, .int 6, .int 2]), (0, .tab 0 (some 15))] := by kernel_rfl
theorem e12x11c_5 (K : KS) : l_turn2 [.unb, .unb, .ref 1, .int 5, .int 12, .int 11, .int 3, .unb, .unb] 2234 [(2227, .list [.int 3]), (2098, .list [.int 11]), (2097, .list [.int 4]), (2090, .list [.int 4]), (1961, .list [.int 11]), (1960, .list [.int 3]), (1956, .list [.int 6]), (1846, .list [.int 11]), (1845, .list [.int 2]), (1838, .list [.int 1]), (1768, .list [.int 11]), (1767, .list [.int 1]), (15, .code), (1, .list [.int 0, .int 0, .int 5, .int 0, .int 10, .int 7, .int 5, .int 2, .int 4, .int 0, .int 1, .int 0, .int 10, .int 10, .int 7, .int 7, .int 9, .int 3, .int 5, .int 8, .int 6, .int 2]), (0, .tab 0 (some 15))] K = K .nxt [.unb, .unb, .ref 1, .int 5, .int 12, .int 11, .int 9, .unb, .unb] 2349 [(2345, .list [.int 9]), (2235, .list [.int 11]), (2234, .list [.int 5]), (2227, .list [.int 3]), (2098, .list [.int 11]), (2097, .list [.int 4]), (2090, .list [.int 4]), (1961, .list [.int 11]), (1960, .list [.int 3]), (1956, .list [.int 6]), (1846, .list [.int 11]), (1845, .list [.int 2]), (1838, .list [.int 1]), (1768, .list [.int 11]), (1767, .list [.int 1]), (15, .code), (1, .list [.int 0, .int 0, .int 5, .int 0, .int 10, .int 7, .int 5, .int 2, .int 4, .int 0, .int 1, .int 0, .int 10, .int 10, .int 7, .int 7, .int 9, .int 3, .int 5, .int 8, .int 6, .int 2]), (0, .tab 0 (some 15))] := by kernel_rfl
theorem e12x11c_6 (K : KS) : l_turn2 [.unb, .unb, .ref 1, .int 6, .int 12, .int 11, .int 9, .unb, .unb] 2349 [(2345, .list [.int 9]), (2235, .list [.int 11]), (2234, .list [.int 5]), (2227, .list [.int 3]), (2098, .list [.int 11]), (2097, .list [.int 4]), (2090, .list [.int 4]), (1961, .list [.int 11]), (1960, .list [.int 3]), (1956, .list [.int 6]), (1846, .list [.int 11]), (1845, .list [.int 2]), (1838, .list [.int 1]), (1768, .list [.int 11]), (1767, .list [.int 1]), (15, .code), (1, .list [.int 0, .int 0, .int 5, .int 0, .int 10, .int 7, .int 5, .int 2, .int 4, .int 0, .int 1, .int 0, .int 10, .int 10, .int 7, .int 7, .int 9, .int 3, .int 5, .int 8, .int 6, .int 2]), (0, .tab 0 (some 15))] K = K .nxt [.unb, .unb, .ref 1, .int 6, .int 12, .int 11, .int 2, .unb, .unb] 2486 [(2479, .list [.int 2]), (2350, .list [.int 11]), (2349, .list [.int 6]), (2345, .list [.int 9]), (2235, .list [.int 11]), (2234, .list [.int 5]), (2227, .list [.int 3]), (2098, .list [.int 11]), (2097, .list [.int 4]), (2090, .list [.int 4]), (1961, .list [.int 11]), (1960, .list [.int 3]), (1956, .list [.int 6]), (1846, .list [.int 11]), (1845, .list [.int 2]), (1838, .list [.int 1]), (1768, .list [.int 11]), (1767, .list [.int 1]), (15, .code), (1, .list [.int 0, .int 0, .int 5, .int 0, .int 10, .int 7, .int 5, .int 2, .int 4, .int 0, .int 1, .int 0, .int 10, .int 10, .int 7, .int 7, .int 9, .int 3, .int 5, .int 8, .int 6, .int 2]), (0, .tab 0 (some 15))] := by kernel_rfl
theorem e12x11c_7 (K : KS) : l_turn2 [.unb, .unb, .ref 1, .int 7, .int 12, .int 11, .int 2, .unb, .unb] 2486 [(2479, .list [.int 2]), (2350, .list [.int 11]), (2349, .list [.int 6]), (2345, .list [.int 9]), (2235, .list [.int 11]), (2234, .list [.int 5]), (2227, .list [.int 3]), (2098, .list [.int 11]), (2097, .list [.int 4]), (2090, .list [.int 4]), (1961, .list [.int 11]), (1960, .list [.int 3]), (1956, .list [.int 6]), (1846, .list [.int 11]), (1845, .list [.int 2]), (1838, .list [.int 1]), (1768, .list [.int 11]), (1767, .list [.int 1]), (15, .code), (1, .list [.int 0, .int 0, .int 5, .int 0, .int 10, .int 7, .int 5, .int 2, .int 4, .int 0, .int 1, .int 0, .int 10, .int 10, .int 7, .int 7, .int 9, .int 3, .int 5, .int 8, .int 6, .int 2]), (0, .tab 0 (some 15))] K = K .nxt [.unb, .unb, .ref 1, .int 7, .int 12, .int 11, .int 8, .unb, .unb] 2659 [(2655, .list [.int 8]), (2487, .list [.int 11]), (2486, .list [.int 7]), (2479, .list [.int 2]), (2350, .list [.int 11]), (2349, .list [.int 6]), (2345, .list [.int 9]), (2235, .list [.int 11]), (2234, .list [.int 5]), (2227, .list [.int 3]), (2098, .list [.int 11]), (2097, .list [.int 4]), (2090, .list [.int 4]), (1961, .list [.int 11]), (1960, .list [.int 3]), (1956, .list [.int 6]), (1846, .list [.int 11]), (1845, .list [.int 2]), (1838, .list [.int 1]), (1768, .list [.int 11]), (1767, .list [.int 1]), (15, .code), (1, .list [.int 0, .int 0, .int 5, .int 0, .int 10, .int 7, .int 5, .int 2, .int 4, .int 0, .int 1, .int 0, .int 10, .int 10, .int 7, .int 7, .int 9, .int 3, .int 5, .int 8, .int 6, .int 2]), (0, .tab 0 (some 15))] := by kernel_rfl
theorem e12x11c_8 (K : KS) : l_turn2 [.unb, .unb, .ref 1, .int 8, .int 12, .int 11, .int 8, .unb, .unb] 2659 [(2655, .list [.int 8]), (2487, .list [.int 11]), (2486, .list [.int 7]), (2479, .list [.int 2]), (2350, .list [.int 11]), (2349, .list [.int 6]), (2345, .list [.int 9]), (2235, .list [.int 11]), (2234, .list [.int 5]), (2227, .list [.int 3]), (2098, .list [.int 11]), (2097, .list [.int 4]), (2090, .list [.int 4]), (1961, .list [.int 11]), (1960, .list [.int 3]), (1956, .list [.int 6]), (1846, .list [.int 11]), (1845, .list [.int 2]), (1838, .list [.int 1]), (1768, .list [.int 11]), (1767, .list [.int 1]), (15, .code), (1, .list [.int 0, .int 0, .int 5, .int 0, .int 10, .int 7, .int 5, .int 2, .int 4, .int 0, .int 1, .int 0, .int 10, .int 10, .int 7, .int 7, .int 9, .int 3, .int 5, .int 8, .int 6, .int 2]), (0, .tab 0 (some 15))] K = K .nxt [.unb, .unb, .ref 1, .int 8, .int 12, .int 11, .int 7, .unb, .unb] 2832 [(2828, .list [.int 7]), (2660, .list [.int 11]), (2659, .list [.int 8]), (2655, .list [.int 8]), (2487, .list [.int 11]), (2486, .list [.int 7]), (2479, .list [.int 2]), (2350, .list [.int 11]), (2349, .list [.int 6]), (2345, .list [.int 9]), (2235, .list [.int 11]), (2234, .list [.int 5]), (2227, .list [.int 3]), (2098, .list [.int 11]), (2097, .list [.int 4]), (2090, .list [.int 4]), (1961, .list [.int 11]), (1960, .list [.int 3]), (1956, .list [.int 6]), (1846, .list [.int 11]), (1845, .list [.int 2]), (1838, .list [.int 1]), (1768, .list [.int 11]), (1767, .list [.int 1]), (15, .code), (1, .list [.int 0, .int 0, .int 5, .int 0, .int 10, .int 7, .int 5, .int 2, .int 4, .int 0, .int 1, .int 0, .int 10, .int 10, .int 7, .int 7, .int 9, .int 3, .int 5, .int 8, .int 6, .int 2]), (0, .tab 0 (some 15))] := by kernel_rfl
theorem e12x11c_9 (K : KS) : l_turn2 [.unb, .unb, .ref 1, .int 9, .int 12, .int 11, .int 7, .unb, .unb] 2832 [(2828, .list [.int 7]), (2660, .list [.int 11]), (2659, .list [.int 8]), (2655, .list [.int 8]), (2487, .list [.int 11]), (2486, .list [.int 7]), (2479, .list [.int 2]), (2350, .list [.int 11]), (2349, .list [.int 6]), (2345, .list [.int 9]), (2235, .list [.int 11]), (2234, .list [.int 5]), (2227, .list [.int 3]), (2098, .list [.int 11]), (2097, .list [.int 4]), (2090, .list [.int 4]), (1961, .list [.int 11]), (1960, .list [.int 3]), (1956, .list [.int 6]), (1846, .list [.int 11]), (1845, .list [.int 2]), (1838, .list [.int 1]), (1768, .list [.int 11]), (1767, .list [.int 1]), (15, .code), (1, .list [.int 0, .int 0, .int 5, .int 0, .int 10, .int 7, .int 5, .int 2, .int 4, .int 0, .int 1, .int 0, .int 10, .int 10, .int 7, .int 7, .int 9, .int 3, .int 5, .int 8, .int 6, .int 2]), (0, .tab 0 (some 15))] K = K .nxt [.unb, .unb, .ref 1, .int 9, .int 12, .int 11, .int 5, .unb, .unb] 2969 [(2962, .list [.int 5]), (2833, .list [.int 11]), (2832, .list [.int 9]), (2828, .list [.int 7]), (2660, .list [.int 11]), (2659, .list [.int 8]), (2655, .list [.int 8]), (2487, .list [.int 11]), (2486, .list [.int 7]), (2479, .list [.int 2]), (2350, .list [.int 11]), (2349, .list [.int 6]), (2345, .list [.int 9]), (2235, .list [.int 11]), (2234, .list [.int 5]), (2227, .list [.int 3]), (2098, .list [.int 11]), (2097, .list [.int 4]), (2090, .list [.int 4]), (1961, .list [.int 11]), (1960, .list [.int 3]), (1956, .list [.int 6]), (1846, .list [.int 11]), (1845, .list [.int 2]), (1838, .list [.int 1]), (1768, .list [.int 11]), (1767, .list [.int 1]), (15, .code), (1, .list [.int 0, .int 0, .int 5, .int 0, .int 10, .int 7, .int 5, .int 2, .int 4, .int 0, .int 1, .int 0, .int 10, .int 10, .int 7, .int 7, .int 9, .int 3, .int 5, .int 8, .int 6, .int 2]), (0, .tab 0 (some 15))] := by kernel_rfl
theorem e12x11c_10 (K : KS) : l_turn2 [.unb, .unb, .ref 1, .int 10, .int 12, .int 11, .int 5, .unb, .unb] 2969 [(2962, .list [.int 5]), (2833, .list [.int 11]), (2832, .list [.int 9]), (2828, .list [.int 7]), (2660, .list [.int 11]), (2659, .list [.int 8]), (2655, .list [.int 8]), (2487, .list [.int 11]), (2486, .list [.int 7]), (2479, .list [.int 2]), (2350, .list [.int 11]), (2349, .list [.int 6]), (2345, .list [.int 9]), (2235, .list [.int 11]), (2234, .list [.int 5]), (2227, .list [.int 3]), (2098, .list [.int 11]), (2097, .list [.int 4]), (2090, .list [.int 4]), (1961, .list [.int 11]), (1960, .list [.int 3]), (1956, .list [.int 6]), (1846, .list [.int 11]), (1845, .list [.int 2]), (1838, .list [.int 1]), (1768, .list [.int 11]), (1767, .list [.int 1]), (15, .code), (1, .list [.int 0, .int 0, .int 5, .int 0, .int 10, .int 7, .int 5, .int 2, .int 4, .int 0, .int 1, .int 0, .int 10, .int 10, .int 7, .int 7, .int 9, .int 3, .int 5, .int 8, .int 6, .int 2]), (0, .tab 0 (some 15))] K = K .nxt [.unb, .unb, .ref 1, .int 10, .int 12, .int 11, .int 10, .unb, .unb] 3084 [(3080, .list [.int 10]), (2970, .list [.int 11]), (2969, .list [.int 10]), (2962, .list [.int 5]), (2833, .list [.int 11]), (2832, .list [.int 9]), (2828, .list [.int 7]), (2660, .list [.int 11]), (2659, .list [.int 8]), (2655, .list [.int 8]), (2487, .list [.int 11]), (2486, .list [.int 7]), (2479, .list [.int 2]), (2350, .list [.int 11]), (2349, .list [.int 6]), (2345, .list [.int 9]), (2235, .list [.int 11]), (2234, .list [.int 5]), (2227, .list [.int 3]), (2098, .list [.int 11]), (2097, .list [.int 4]), (2090, .list [.int 4]), (1961, .list [.int 11]), (1960, .list [.int 3]), (1956, .list [.int 6]), (1846, .list [.int 11]), (1845, .list [.int 2]), (1838, .list [.int 1]), (1768, .list [.int 11]), (1767, .list [.int 1]), (15, .code), (1, .list [.int 0, .int 0, .int 5, .int 0, .int 10, .int 7, .int 5, .int 2, .int 4, .int 0, .int 1, .int 0, .int 10, .int 10, .int 7, .int 7, .int 9, .int 3, .int 5, .int 8, .int 6, .int 2]), (0, .tab 0 (some 15))] := by kernel_rfl
theorem e12x11c (K : KS) : l_law2 [.unb, .unb, .ref 1, .int 21, .int 12, .int 11, .unb, .unb, .unb] 1767 [(15, .code), (1, .list [.int 0, .int 0, .int 5, .int 0, .int 10, .int 7, .int 5, .int 2, .int 4, .int 0, .int 1, .int 0, .int 10, .int 10, .int 7, .int 7, .int 9, .int 3, .int 5, .int 8, .int 6, .int 2]), (0, .tab 0 (some 15))] K = K .nxt [.unb, .unb, .ref 1, .int 10, .int 12, .int 11, .int 10, .unb, .unb] 3084 [(3080, .list [.int 10]), (2970, .list [.int 11]), (2969, .list [.int 10]), (2962, .list [.int 5]), (2833, .list [.int 11]), (2832, .list [.int 9]), (2828, .list [.int 7]), (2660, .list [.int 11]), (2659, .list [.int 8]), (2655, .list [.int 8]), (2487, .list [.int 11]), (2486, .list [.int 7]), (2479, .list [.int 2]), (2350, .list [.int 11]), (2349, .list [.int 6]), (2345, .list [.int 9]), (2235, .list [.int 11]), (2234, .list [.int 5]), (2227, .list [.int 3]), (2098, .list [.int 11]), (2097, .list [.int 4]), (2090, .list [.int 4]), (1961, .list [.int 11]), (1960, .list [.int 3]), (1956, .list [.int 6]), (1846, .list [.int 11]), (1845, .list [.int 2]), (1838, .list [.int 1]), (1768, .list [.int 11]), (1767, .list [.int 1]), (15, .code), (1, .list [.int 0, .int 0, .int 5, .int 0, .int 10, .int 7, .int 5, .int 2, .int 4, .int 0, .int 1, .int 0, .int 10, .int 10, .int 7, .int 7, .int 9, .int 3, .int 5, .int 8, .int 6, .int 2]), (0, .tab 0 (some 15))] :=
  (for_start (hi := 11) (c := 10) (fun _ => by kernel_rfl) (by kernel_rfl) (by kernel_rfl)).trans ((loop_turn (f := 9) (fun _ => rfl) rfl e12x11c_1).trans ((loop_turn (f := 8) (fun _ => rfl) rfl e12x11c_2).trans ((loop_turn (f := 7) (fun _ => rfl) rfl e12x11c_3).trans ((loop_turn (f := 6) (fun _ => rfl) rfl e12x11c_4).trans ((loop_turn (f := 5) (fun _ => rfl) rfl e12x11c_5).trans ((loop_turn (f := 4) (fun _ => rfl) rfl e12x11c_6).trans ((loop_turn (f := 3) (fun _ => rfl) rfl e12x11c_7).trans ((loop_turn (f := 2) (fun _ => rfl) rfl e12x11c_8).trans ((loop_turn (f := 1) (fun _ => rfl) rfl e12x11c_9).trans ((loop_turn (f := 0) (fun _ => rfl) rfl e12x11c_10).trans rfl))))))))))
theorem e12x11d (K : KS) : l_law3 [.unb, .unb, .ref 1, .int 10, .int 12, .int 11, .int 10, .unb, .unb] 3084 [(3080, .list [.int 10]), (2970, .list [.int 11]), (2969, .list [.int 10]), (2962, .list [.int 5]), (2833, .list [.int 11]), (2832, .list [.int 9]), (2828, .list [.int 7]), (2660, .list [.int 11]), (2659, .list [.int 8]), (2655, .list [.int 8]), (2487, .list [.int 11]), (2486, .list [.int 7]), (2479, .list [.int 2]), (2350, .list [.int 11]), (2349, .list [.int 6]), (2345, .list [.int 9]), (2235, .list [.int 11]), (2234, .list [.int 5]), (2227, .list [.int 3]), (2098, .list [.int 11]), (2097, .list [.int 4]), (2090, .list [.int 4]), (1961, .list [.int 11]), (1960, .list [.int 3]), (1956, .list [.int 6]), (1846, .list [.int 11]), (1845, .list [.int 2]), (1838, .list [.int 1]), (1768, .list [.int 11]), (1767, .list [.int 1]), (15, .code), (1, .list [.int 0, .int 0, .int 5, .int 0, .int 10, .int 7, .int 5, .int 2, .int 4, .int 0, .int 1, .int 0, .int 10, .int 10, .int 7, .int 7, .int 9, .int 3, .int 5, .int 8, .int 6, .int 2]), (0, .tab 0 (some 15))] K = K .nxt [.unb, .unb, .ref 1, .int 10, .int 12, .int 11, .int 10, .ref 3234, .ref 3236] 3238 [(3237, .tup [.ref 3234, .ref 3236]), (3236, .list []), (3234, .list [.int 2211, .int 80]), (3230, .list [.int 11]), (3228, .list [.int 3841, .int 885]), (3227, .list [.int 3840, .int 885]), (3080, .list [.int 10]), (2970, .list [.int 11]), (2969, .list [.int 10]), (2962, .list [.int 5]), (2833, .list [.int 11]), (2832, .list [.int 9]), (2828, .list [.int 7]), (2660, .list [.int 11]), (2659, .list [.int 8]), (2655, .list [.int 8]), (2487, .list [.int 11]), (2486, .list [.int 7]), (2479, .list [.int 2]), (2350, .list [.int 11]), (2349, .list [.int 6]), (2345, .list [.int 9]), (2235, .list [.int 11]), (2234, .list [.int 5]), (2227, .list [.int 3]), (2098, .list [.int 11]), (2097, .list [.int 4]), (2090, .list [.int 4]), (1961, .list [.int 11]), (1960, .list [.int 3]), (1956, .list [.int 6]), (1846, .list [.int 11]), (1845, .list [.int 2]), (1838, .list [.int 1]), (1768, .list [.int 11]), (1767, .list [.int 1]), (15, .code), (1, .list [.int 0, .int 0, .int 5, .int 0, .int 10, .int 7, .int 5, .int 2, .int 4, .int 0, .int 1, .int 0, .int 10, .int 10, .int 7, .int 7, .int 9, .int 3, .int 5, .int 8, .int 6, .int 2]), (0, .tab 0 (some 15))] := by kernel_rfl
theorem e12x11e (K : KS) : l_law4 [.unb, .unb, .ref 1, .int 10, .int 12, .int 11, .int 10, .ref 3234, .ref 3236] 3238 [(3237, .tup [.ref 3234, .ref 3236]), (3236, .list []), (3234, .list [.int 2211, .int 80]), (3230, .list [.int 11]), (3228, .list [.int 3841, .int 885]), (3227, .list [.int 3840, .int 885]), (3080, .list [.int 10]), (2970, .list [.int 11]), (2969, .list [.int 10]), (2962, .list [.int 5]), (2833, .list [.int 11]), (2832, .list [.int 9]), (2828, .list [.int 7]), (2660, .list [.int 11]), (2659, .list [.int 8]), (2655, .list [.int 8]), (2487, .list [.int 11]), (2486, .list [.int 7]), (2479, .list [.int 2]), (2350, .list [.int 11]), (2349, .list [.int 6]), (2345, .list [.int 9]), (2235, .list [.int 11]), (2234, .list [.int 5]), (2227, .list [.int 3]), (2098, .list [.int 11]), (2097, .list [.int 4]), (2090, .list [.int 4]), (1961, .list [.int 11]), (1960, .list [.int 3]), (1956, .list [.int 6]), (1846, .list [.int 11]), (1845, .list [.int 2]), (1838, .list [.int 1]), (1768, .list [.int 11]), (1767, .list [.int 1]), (15, .code), (1, .list [.int 0, .int 0, .int 5, .int 0, .int 10, .int 7, .int 5, .int 2, .int 4, .int 0, .int 1, .int 0, .int 10, .int 10, .int 7, .int 7, .int 9, .int 3, .int 5, .int 8, .int 6, .int 2]), (0, .tab 0 (some 15))] K = K (.ret (.bool true)) [.unb, .unb, .ref 1, .int 10, .int 12, .int 11, .int 10, .ref 3234, .ref 3236] 3241 [(3240, .list [.int 0, .int 0, .int 5, .int 0, .int 10, .int 7, .int 5, .int 2, .int 4, .int 0, .int 1]), (3238, .list []), (3237, .tup [.ref 3234, .ref 3236]), (3236, .list []), (3234, .list [.int 2211, .int 80]), (3230, .list [.int 11]), (3228, .list [.int 3841, .int 885]), (3227, .list [.int 3840, .int 885]), (3080, .list [.int 10]), (2970, .list [.int 11]), (2969, .list [.int 10]), (2962, .list [.int 5]), (2833, .list [.int 11]), (2832, .list [.int 9]), (2828, .list [.int 7]), (2660, .list [.int 11]), (2659, .list [.int 8]), (2655, .list [.int 8]), (2487, .list [.int 11]), (2486, .list [.int 7]), (2479, .list [.int 2]), (2350, .list [.int 11]), (2349, .list [.int 6]), (2345, .list [.int 9]), (2235, .list [.int 11]), (2234, .list [.int 5]), (2227, .list [.int 3]), (2098, .list [.int 11]), (2097, .list [.int 4]), (2090, .list [.int 4]), (1961, .list [.int 11]), (1960, .list [.int 3]), (1956, .list [.int 6]), (1846, .list [.int 11]), (1845, .list [.int 2]), (1838, .list [.int 1]), (1768, .list [.int 11]), (1767, .list [.int 1]), (15, .code), (1, .list [.int 0, .int 0, .int 5, .int 0, .int 10, .int 7, .int 5, .int 2, .int 4, .int 0, .int 1, .int 0, .int 10, .int 10, .int 7, .int 7, .int 9, .int 3, .int 5, .int 8, .int 6, .int 2]), (0, .tab 0 (some 15))] := by kernel_rfl
theorem e12x11 : c_law (loc0 12 11) 1 [(0, .tab 0 none)] finK = true := law_chain e12x11a e12x11b e12x11c e12x11d e12x11e rfl
end Mine
end
-- part M24
section
set_option maxHeartbeats 0
namespace Mine
open PySem PySem.W PySem.Spec PySem.Calls PyProof.Rows
theorem stop2 {M : Model} {A : Around} {env : Env} {s1 s2 : Stmt} {rest : List Stmt} {Q : Flow → Shared → Prop} {E : Value → Shared → Prop} {s : Shared}
    (h : ∀ R, R = rest → wpAny M A (execs (s1 :: s2 :: R) env) Q E s) : wpAny M A (execs (s1 :: s2 :: rest) env) Q E s := h rest rfl
theorem ev_all {wv pv : Int} (h1 : 8 ≤ wv ∧ wv ≤ 12) (hp : pv = 5 ∨ pv = 7 ∨ pv = 11) : c_law (loc0 wv pv) 1 [(0, .tab 0 none)] finK = true := by
  have hw : wv = 8 ∨ wv = 9 ∨ wv = 10 ∨ wv = 11 ∨ wv = 12 := by omega
  rcases hw with rfl | rfl | rfl | rfl | rfl
  · rcases hp with rfl | rfl | rfl
    · exact e8x5
    · exact e8x7
    · exact e8x11
  · rcases hp with rfl | rfl | rfl
    · exact e9x5
    · exact e9x7
    · exact e9x11
  · rcases hp with rfl | rfl | rfl
    · exact e10x5
    · exact e10x7
    · exact e10x11
  · rcases hp with rfl | rfl | rfl
    · exact e11x5
    · exact e11x7
    · exact e11x11
  · rcases hp with rfl | rfl | rfl
    · exact e12x5
    · exact e12x7
    · exact e12x11
theorem prime_ne : ¬ (Str.ofString "prime" = Str.ofString "w") := by decide
theorem draw_w (x : Int) : 8 ≤ 8 + x.fmod 5 ∧ 8 + x.fmod 5 ≤ 12 := by
  have h1 := Int.fmod_nonneg_of_pos x (b := 5) (by decide)
  have h2 := Int.fmod_lt_of_pos x (b := 5) (by decide)
  omega
theorem law_fin2 {prog p : Program} {loose : List Str} {w : World} {mean : ExcName → Option Value} {mg mb : Str → Option Value} {h₀ : Heap} {L fa : Addr} {cd : Value} {m : Str → Option Value} {news : List (Addr × Obj)} {sc : Scope} {R : List Stmt} {s : Shared} {Q : Flow → Shared → Prop} {E : Value → Shared → Prop} {wv pv : Int} {tw tp : Tok} {o : Obj}
    (h402 : List.lookup 402 (KK w.params) = some o) (hR : R = lawOf (some o)) (hsc : sc = lawScope (some o)) (hk : sc.kind = .function)
    (F : Fr h₀ L s.heap m) (N : News h₀ L s.heap news) (hmem : (177, tabObj #[]) ∈ news) (B : Below callerA h₀ [] h₀) (X : (KK w.params).In h₀) (T : Top p loose mean mg mb h₀)
    (hw : m (Str.ofString "w") = some (.int wv tw)) (hp : m (Str.ofString "prime") = some (.int pv tp)) (h1 : 8 ≤ wv ∧ wv ≤ 12) (h2 : pv = 5 ∨ pv = 7 ∨ pv = 11)
    (hQ : ∀ h' tk m' ps, Fr h₀ L h' m' → News h₀ L h' [(177, tabObj ps)] → Q (.ret (.bool true)) { s with heap := h', toks := tk }) :
    wpAny (model prog w) (callerA.deeper (envOf (Str.ofString "law") sc L fa cd)) (execs R (envOf (Str.ofString "law") sc L fa cd)) Q E s :=
  law_fin F N hmem B X T hw hp (by rw [h402]; exact hR) (by rw [h402]; exact hsc) hk (ev_all h1 h2) hQ
noncomputable def KA : List Addr := [nat_lit 3, nat_lit 69, nat_lit 70, nat_lit 76, nat_lit 77, nat_lit 83, nat_lit 84, nat_lit 90, nat_lit 91, nat_lit 97, nat_lit 98, nat_lit 104, nat_lit 105, nat_lit 111, nat_lit 112, nat_lit 118, nat_lit 119, nat_lit 125, nat_lit 126, nat_lit 132, nat_lit 133, nat_lit 139, nat_lit 140, nat_lit 146, nat_lit 147, nat_lit 153, nat_lit 154, nat_lit 160, nat_lit 161, nat_lit 167, nat_lit 168, nat_lit 174, nat_lit 175, nat_lit 181, nat_lit 182, nat_lit 188, nat_lit 189, nat_lit 195, nat_lit 196, nat_lit 202, nat_lit 203, nat_lit 209, nat_lit 210, nat_lit 216, nat_lit 217, nat_lit 223, nat_lit 224, nat_lit 230, nat_lit 231, nat_lit 237, nat_lit 238, nat_lit 244, nat_lit 245, nat_lit 251, nat_lit 252, nat_lit 258, nat_lit 259, nat_lit 265, nat_lit 266, nat_lit 272, nat_lit 273, nat_lit 279, nat_lit 280, nat_lit 286, nat_lit 287, nat_lit 293, nat_lit 294, nat_lit 300, nat_lit 301, nat_lit 305, nat_lit 306, nat_lit 312, nat_lit 313, nat_lit 319, nat_lit 320, nat_lit 326, nat_lit 327, nat_lit 333, nat_lit 334, nat_lit 340, nat_lit 341, nat_lit 347, nat_lit 348, nat_lit 354, nat_lit 355, nat_lit 361, nat_lit 362, nat_lit 368, nat_lit 369, nat_lit 375, nat_lit 376, nat_lit 382, nat_lit 383, nat_lit 389, nat_lit 390, nat_lit 396, nat_lit 397, nat_lit 401, nat_lit 402]
end Mine
end
open PySem PySem.W PyProof.Rows Mine
-- names taken ahead, so that the head lays no rewritten twin of its own written-out parts (their proofs are quadratic in size); nothing leans on them
theorem Mine.main.tw3895269109785688166 : True := trivial
theorem Mine.main.tw9291868230625655718 : True := trivial
theorem Mine.main.tw4232100256623113705 : True := trivial
theorem Mine.main.tw9658885295015712986 : True := trivial
theorem Mine.main.tw11310523087047096543 : True := trivial
theorem Mine.main.tw7013714540914765366 : True := trivial
theorem Mine.main.tw2109297985684337612 : True := trivial
theorem Mine.main.tw12250065609599589825 : True := trivial
theorem Mine.main.tw9385303126178720230 : True := trivial
theorem Mine.main.tw17279677193060897631 : True := trivial
theorem Mine.main.tw6655696309031964122 : True := trivial
theorem Mine.main.tw5776527724694133167 : True := trivial
theorem Mine.main.tw14027531716089632829 : True := trivial
theorem Mine.main.tw11529684132196025223 : True := trivial
theorem Mine.main.tw11812620880713246772 : True := trivial
theorem Mine.main.tw10140136200207757160 : True := trivial
theorem Mine.main.tw12885673836220544336 : True := trivial
theorem Mine.main.tw13676971244355772609 : True := trivial
theorem Mine.main.tw6785657489111691699 : True := trivial
theorem Mine.main.tw17715262827843222689 : True := trivial
theorem Mine.main.tw5649967823195072380 : True := trivial
theorem Mine.main.tw8475525182357872103 : True := trivial
theorem Mine.main.tw10363585996791799541 : True := trivial
theorem Mine.main.tw14161005256144132680 : True := trivial
theorem Mine.main.tw10896356407431480244 : True := trivial
theorem Mine.main.tw12939479104171293914 : True := trivial
theorem Mine.main.tw16950194794029067938 : True := trivial
theorem Mine.main.tw6912675738884088206 : True := trivial
theorem Mine.main.tw3905226178654972811 : True := trivial
theorem Mine.main.tw7113585516715319716 : True := trivial
theorem Mine.main.tw9272984997812220495 : True := trivial
theorem Mine.main.tw16008252555379753968 : True := trivial
theorem Mine.main.tw12915833801598196605 : True := trivial
theorem Mine.main.tw5418533224930618480 : True := trivial
theorem Mine.main.tw9190990891756207365 : True := trivial
theorem Mine.main.tw15465920861327815835 : True := trivial
theorem Mine.main.tw1504049600530537962 : True := trivial
theorem Mine.main.tw2906824675625879941 : True := trivial
theorem Mine.main.tw8466321980469482115 : True := trivial
theorem Mine.main.tw5571399437266216444 : True := trivial
theorem Mine.main.tw2496676261509829067 : True := trivial
theorem Mine.main.tw18315214858253571532 : True := trivial
theorem Mine.main.tw9976160756891316704 : True := trivial
theorem Mine.main.tw7235775444256392728 : True := trivial
theorem Mine.main.tw15984706205718930553 : True := trivial
theorem Mine.main.tw18280085339978019747 : True := trivial
theorem Mine.main.tw12431561837914552411 : True := trivial
theorem Mine.main.tw14907226015203709474 : True := trivial
theorem Mine.main.tw979501456738626862 : True := trivial
theorem Mine.main.tw2406621943657119228 : True := trivial
theorem Mine.main.tw15737690656516749961 : True := trivial
theorem Mine.main.tw3491332818749588091 : True := trivial
theorem Mine.main.tw9069182735580402390 : True := trivial
theorem Mine.main.tw4458048076830672230 : True := trivial
theorem Mine.main.tw10159738436595150677 : True := trivial
theorem Mine.main.tw6044114016751833949 : True := trivial
theorem Mine.main.tw11544348965984651327 : True := trivial
theorem Mine.main.tw7761410557224570781 : True := trivial
theorem Mine.main.tw4297412468100583042 : True := trivial
theorem Mine.main.tw18325589031809861271 : True := trivial
theorem Mine.main.tw7173623326730630234 : True := trivial
theorem Mine.main.tw13355152605343272895 : True := trivial
theorem Mine.main.tw5585478044538960755 : True := trivial
theorem Mine.main.tw9274054859765456524 : True := trivial
theorem Mine.main.tw5240536507193477226 : True := trivial
theorem Mine.main.tw14061640607465278742 : True := trivial
theorem Mine.main.tw2702614204127132176 : True := trivial
theorem Mine.main.tw4475767826048309731 : True := trivial
theorem Mine.main.tw302440914744352476 : True := trivial
theorem Mine.main.tw15079240505294077160 : True := trivial
theorem Mine.main.tw8729708805864041840 : True := trivial
theorem Mine.main.tw15643365686152983790 : True := trivial
theorem Mine.main.tw12361340156312767134 : True := trivial
theorem Mine.main.tw15467891735981029475 : True := trivial
theorem Mine.main.tw17725498274588495791 : True := trivial
theorem Mine.main.tw11982392923317675503 : True := trivial
theorem Mine.main.tw8440099810896429113 : True := trivial
theorem Mine.main.tw17236958762192778904 : True := trivial
theorem Mine.main.tw14771111431291430275 : True := trivial
theorem Mine.main.tw11101190512080308003 : True := trivial
theorem Mine.main.tw16049902774474827687 : True := trivial
theorem Mine.main.tw2007339730380871907 : True := trivial
theorem Mine.main.tw16629339528299215175 : True := trivial
theorem Mine.main.tw10821422270917381399 : True := trivial
theorem Mine.main.tw13110577991587790113 : True := trivial
theorem Mine.main.tw9155575984036265788 : True := trivial
theorem Mine.main.tw18284262389922463811 : True := trivial
theorem Mine.main.tw4637267157515435788 : True := trivial
theorem Mine.main.tw14356970164483606383 : True := trivial
theorem Mine.main.tw3299218664060906527 : True := trivial
theorem Mine.main.tw4333880214566435006 : True := trivial
theorem Mine.main.tw5203219222101121401 : True := trivial
theorem Mine.main.tw10625486282989778954 : True := trivial
theorem Mine.main.tw14439473939278146460 : True := trivial
theorem Mine.main.tw6418098437765475518 : True := trivial
theorem Mine.main.tw962032349192862916 : True := trivial
theorem Mine.main.tw7439787175107056256 : True := trivial
theorem Mine.main.tw2759098988195820126 : True := trivial
theorem Mine.main.tw17679725944135375923 : True := trivial
theorem Mine.main.tw13876859957761632879 : True := trivial
theorem Mine.main.tw11785714552879321826 : True := trivial
theorem Mine.main.tw2433702464844828792 : True := trivial
theorem Mine.main.tw3027586509356016917 : True := trivial
theorem Mine.main.tw18063282731904131703 : True := trivial
theorem Mine.main.tw12298629886278197574 : True := trivial
theorem Mine.main.tw2195194259037543316 : True := trivial
theorem Mine.main.tw4038153913678941442 : True := trivial
theorem Mine.main.tw73751810991705359 : True := trivial
theorem Mine.main.tw15365013842991253249 : True := trivial
theorem Mine.main.tw14106445559736802775 : True := trivial
theorem Mine.main.tw6161133996638707016 : True := trivial
theorem Mine.main.tw8652556701797213591 : True := trivial
theorem Mine.main.tw1714950047550659301 : True := trivial
theorem Mine.main.tw9268297945177815525 : True := trivial
theorem Mine.main.tw4189750870438640210 : True := trivial
theorem Mine.main.tw14539993770535171780 : True := trivial
theorem Mine.main.tw12839114828313443825 : True := trivial
theorem Mine.main.tw7875838824674609581 : True := trivial
theorem Mine.main.tw1678875084529416142 : True := trivial
theorem Mine.main.tw13590572293223372214 : True := trivial
theorem Mine.main.tw10094358506670053839 : True := trivial
theorem Mine.main.tw6162249291895867263 : True := trivial
theorem Mine.main.tw6801380410627298636 : True := trivial
theorem Mine.main.tw12590340796369385619 : True := trivial
theorem Mine.main.tw17402982504261768225 : True := trivial
theorem Mine.main.tw14218914174604095658 : True := trivial
theorem Mine.main.tw1178595665728414349 : True := trivial
theorem Mine.main.tw7268301785047649679 : True := trivial
theorem Mine.main.tw2538046985915079169 : True := trivial
theorem Mine.main.tw4775608329324902142 : True := trivial
theorem Mine.main.tw1099256609624015869 : True := trivial
theorem Mine.main.tw4324958949535026087 : True := trivial
theorem Mine.main.tw9508770018378322450 : True := trivial
theorem Mine.main.tw2524017781993486291 : True := trivial
theorem Mine.main.tw1270039299266317192 : True := trivial
theorem Mine.main.tw6696893160125735727 : True := trivial
theorem Mine.main.tw7186131708394509389 : True := trivial
theorem Mine.main.tw9498315638749924794 : True := trivial
theorem Mine.main.tw12205347405646519318 : True := trivial
theorem Mine.main.tw17695171507069755227 : True := trivial
theorem Mine.main.tw16819838333489098493 : True := trivial
theorem Mine.main.tw3234112476842188716 : True := trivial
theorem Mine.main.tw14662554035588321541 : True := trivial
theorem Mine.main.tw6541472054586571296 : True := trivial
theorem Mine.main.tw4026956272090484662 : True := trivial
theorem Mine.main.tw5061512775090418087 : True := trivial
theorem Mine.main.tw4573282807186111410 : True := trivial
theorem Mine.main.tw3454311308915712629 : True := trivial
theorem Mine.main.tw10298723112805639129 : True := trivial
theorem Mine.main.tw33456957511925785 : True := trivial
theorem Mine.main.tw15342904991969174519 : True := trivial
theorem Mine.main.tw9670510015898674028 : True := trivial
theorem Mine.main.tw17561526911342447988 : True := trivial
theorem Mine.main.tw8930851030842425676 : True := trivial
theorem Mine.main.tw1409966394225722968 : True := trivial
theorem Mine.main.tw5372645768047454471 : True := trivial
theorem Mine.main.tw5518243967957118194 : True := trivial
theorem Mine.main.tw7074144079889050967 : True := trivial
theorem Mine.main.tw7083192437325867461 : True := trivial
theorem Mine.main.tw221909299271738847 : True := trivial
theorem Mine.main.tw14635473669698735251 : True := trivial
theorem Mine.main.tw15135354766812531094 : True := trivial
theorem Mine.main.tw13224007501803129859 : True := trivial
theorem Mine.main.tw1777545030009416734 : True := trivial
theorem Mine.main.tw15514936471743626214 : True := trivial
theorem Mine.main.tw5243159528196176124 : True := trivial
theorem Mine.main.tw9682133043923132273 : True := trivial
theorem Mine.main.tw12922898485456448571 : True := trivial
theorem Mine.main.tw6075091234017535682 : True := trivial
theorem Mine.main.tw12872379398031375081 : True := trivial
theorem Mine.main.tw11261727412033496967 : True := trivial
theorem Mine.main.tw16922381011570985944 : True := trivial
theorem Mine.main.tw6660377722381337597 : True := trivial
theorem Mine.main.tw16952715711813285254 : True := trivial
theorem Mine.main.tw17665120845849184447 : True := trivial
theorem Mine.main.tw17146568849442343683 : True := trivial
set_option maxHeartbeats 0 in
set_option Elab.async true in
theorem Mine.main : PySem.Challenge.rw_xw0116_01.Holds := by
  w_on
  o_law
  o_head (kHook KK KA (fun _ => by kernel_rfl))
  (case hw => w_witness2)
  k_go0
  all_goals (try k_fold)
  refine stop2 ?_
  intro R hR
  k_steps
  all_goals (
    refine' law_fin2 ?_ ?_ ?_ ?_ (by assumption) (by assumption) (by k_mem) (by assumption) (by assumption) (by assumption) (if_pos rfl) ((if_neg prime_ne).trans (if_pos rfl)) ?_ ?_ ?_
    rotate_left
    k_is
    · exact hR
    · rfl
    · rfl
    · first | exact draw_w _ | decide
    · decide
    · intro h' tk' m' ps' F' N'
      refine ⟨?_, ⟨GrownAt.of N' (.head _), trivial⟩⟩
      (try dsimp only)
      k_steps)
theorem PySem.Challenge.cw_xw0116_01_holds : PySem.Challenge.rw_xw0116_01.Holds := by
  exact Mine.main
