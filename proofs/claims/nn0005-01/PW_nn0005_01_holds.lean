import PyProof.Rows.All
import Wide.All
import OpenK.AllK
import Wide.FinOn
import PySem.Challenge.RW_nn0005_01
set_option Elab.async false

section
namespace Mine
theorem c20 {n : Nat} (h : n ≤ 1000) : n ≤ 2 ^ 20 := Nat.le_trans h (by decide)
theorem c20b {n : Nat} (h : n ≤ 500) : n ≤ 2 ^ 20 := Nat.le_trans h (by decide)
theorem c10 {n : Nat} (h : n ≤ 500) : n ≤ 1000 := Nat.le_trans h (by decide)
theorem cw {w : Nat} (h : w ≤ 9) : (w : Int) ≤ 1000 := Int.ofNat_le.mpr (Nat.le_trans h (by decide))
theorem cp1 {B : Int} (h : 2 ≤ B) : 1 < B := h
theorem cp0 {B : Int} (h : 2 ≤ B) : 0 < B := Int.lt_of_lt_of_le (by decide) h
theorem cpn {B : Int} (h : 2 ≤ B) : 0 ≤ B := Int.le_trans (by decide) h
theorem cpm {B : Int} (h : 2 ≤ B) : 1 ≤ B := Int.le_trans (by decide) h
theorem cpz {B : Int} (h : 0 < B) : B ≠ 0 := Int.ne_of_gt h
theorem c62 {x B : Int} (h : x < B) (h' : B ≤ 512) : x ≤ 2 ^ 62 := Int.le_of_lt (Int.lt_of_lt_of_le h (Int.le_trans h' (by decide)))
theorem c62' {B : Int} (h' : B ≤ 512) : B ≤ 2 ^ 62 := (Int.le_trans h' (by decide))
theorem cm62 {x : Int} (h : 0 ≤ x) : -2 ^ 62 ≤ x := Int.le_trans (by decide) h
theorem cm62' {x : Int} (h : 0 < x) : -2 ^ 62 ≤ x := cm62 (Int.le_of_lt h)
theorem cpos {w : Nat} : (0 : Int) < 2 ^ w := Int.pow_pos (by decide)
theorem cposn {w : Nat} : (0 : Int) ≤ 2 ^ w := Int.le_of_lt cpos
theorem cpos1 {w : Nat} : (1 : Int) ≤ 2 ^ w := cpos
theorem cn62 {n : Nat} (h : n ≤ 1000) : (n : Int) ≤ 2 ^ 62 := Int.ofNat_le.mpr (Nat.le_trans h (by decide))
theorem clt {k n : Nat} (h : k < n) : (k : Int) < n := Int.ofNat_lt.mpr h
theorem cge2 {n : Nat} (h : 2 ≤ n) : 1 ≤ n := Nat.le_of_succ_le h
end Mine
end

section
open PySem PySem.W PyProof.Rows
set_option linter.unusedVariables false
namespace Mine

/-! abstract values, objects, heaps -/
inductive V where
  | nil | bool (b : Bool) | int (i : Int) | ref (a : Nat) | bad

noncomputable def er : Value → V
  | .none => .nil
  | .bool b => .bool b
  | .int i _ => .int i
  | .ref a => .ref a
  | _ => .bad

inductive O where
  | list (vs : List V)
  | tup (vs : List V)
  | ro (vs : List V)

abbrev Hp := Nat → Option O
abbrev Ev := Nat → Option V
noncomputable def updH (H : Hp) (a : Nat) (o : O) : Hp := fun b => if b = a then some o else H b
noncomputable def updE (m : Ev) (i : Nat) (v : V) : Ev := fun j => if j = i then some v else m j

theorem updH_same (H : Hp) (a : Nat) (o : O) : updH H a o a = some o := by simp [updH]
theorem updH_ne (H : Hp) {a b : Nat} (o : O) (h : b ≠ a) : updH H a o b = H b := by simp [updH, h]

noncomputable def tupObj (items : List Value) (n : Nat) : Obj := { cls := .type "tuple", data := .seq items.toArray n }

noncomputable def Rep (h : Heap) (a : Nat) : O → Prop
  | .list vs => ∃ items n, h.get? a = some (listOf (List.toArray items) n) ∧ items.map er = vs
  | .ro vs => ∃ items, h.IsList a (List.toArray items) ∧ items.map er = vs
  | .tup vs => ∃ items n, h.get? a = some (tupObj items n) ∧ items.map er = vs

noncomputable def O.isRo : O → Bool
  | .ro _ => true
  | _ => false

theorem Rep.there {h : Heap} {a : Nat} {o : O} (r : Rep h a o) : ∃ ob, h.get? a = some ob := by
  cases o with
  | ro vs => obtain ⟨items, ⟨ob, e, _⟩, _⟩ := r; exact ⟨_, e⟩
  | list vs => obtain ⟨items, n, e, _⟩ := r; exact ⟨_, e⟩
  | tup vs => obtain ⟨items, n, e, _⟩ := r; exact ⟨_, e⟩
theorem Rep.at {h h' : Heap} {a : Nat} {o : O} (r : Rep h a o) (hk : ∀ ob, h.get? a = some ob → h'.get? a = some ob) : Rep h' a o := by
  cases o with
  | ro vs => obtain ⟨items, ⟨ob, e, q'⟩, q⟩ := r; exact ⟨items, ⟨ob, hk _ e, q'⟩, q⟩
  | list vs => obtain ⟨items, n, e, q⟩ := r; exact ⟨items, n, hk _ e, q⟩
  | tup vs => obtain ⟨items, n, e, q⟩ := r; exact ⟨items, n, hk _ e, q⟩

structure Cfg where
  w : World
  K : Frag
  p : Program
  prog : Program
  loose : List Str
  mean : ExcName → Option Value
  mg : Str → Option Value
  mb : Str → Option Value
  hR : Heap
  base : Heap

structure Fx where
  A₀ : Around
  A : Around
  outer : List Env
  h₀ : Heap
  qual : Str
  sc : Scope
  L : Addr
  fa : Addr
  cd : Value
  X : List (Addr × Obj)

abbrev Fx.env (F : Fx) : Env := envOf F.qual F.sc F.L F.fa F.cd

structure Ok (c : Cfg) (l : Nat) (F : Fx) : Prop where
  X : c.K.In F.h₀
  T : Top c.p c.loose c.mean c.mg c.mb F.h₀
  B : Below F.A₀ c.base F.outer F.h₀
  ro : ∀ b o, c.hR.get? b = some o → F.h₀.get? b = some o
  fr : F.A.frames = some (F.env :: F.outer)
  hh : F.A.handled = none
  dp : F.A.depth + l < recursionLimit
  un : F.A.units + 10 * l + 100 < cLine
  kd : F.sc.kind = .function
  nd : (F.sc.names.map (·.1)).Nodup
  top : 6 ≤ l → l = 6 ∧ F.A.depth = 302 ∧ F.h₀ = c.base

structure St (c : Cfg) (F : Fx) (m : Ev) (H : Hp) (h : Heap) : Prop where
  fr : ∃ mC, Fr F.h₀ F.L h mC ∧ ∀ i x, F.sc.names[i]? = some (x, .local) → m i = (mC x).map er
  nx : News F.h₀ F.L h F.X
  vis : ∀ a o, H a = some o → Rep h a o ∧ a ≠ F.L ∧ (∀ p ∈ F.X, p.1 ≠ a) ∧ (if o.isRo then (c.hR.get? a).isSome = true else F.h₀.get? a = none)

noncomputable def Same (s s' : Shared) : Prop := ∃ h' tk', s' = { s with heap := h', toks := tk' }
theorem Same.refl (s : Shared) : Same s s := ⟨s.heap, s.toks, rfl⟩
theorem Same.trans {s s' s'' : Shared} (a : Same s s') (b : Same s' s'') : Same s s'' := by
  obtain ⟨h1, t1, rfl⟩ := a
  obtain ⟨h2, t2, rfl⟩ := b
  exact ⟨h2, t2, rfl⟩
theorem Same.mk {s : Shared} {h' : Heap} {tk' : Nat} : Same s { s with heap := h', toks := tk' } := ⟨h', tk', rfl⟩
theorem Same.heap {s : Shared} {h' : Heap} : Same s { s with heap := h' } := ⟨h', s.toks, rfl⟩
theorem Same.toks {s : Shared} {tk' : Nat} : Same s { s with toks := tk' } := ⟨s.heap, tk', rfl⟩

section
variable {c : Cfg} {F : Fx} {m : Ev} {H : Hp} {h h' : Heap}

theorem St.keeps (S : St c F m H h) (hk : ∀ b o, h.get? b = some o → h'.get? b = some o) : St c F m H h' := by
  obtain ⟨⟨mC, f, e⟩, n, v⟩ := S
  refine ⟨⟨mC, f.keeps hk, e⟩, fun p hp => ⟨hk _ _ (n p hp).1, (n p hp).2⟩, fun a o ho => ?_⟩
  obtain ⟨r, q⟩ := v a o ho
  exact ⟨r.at fun ob e => hk _ _ e, q⟩

theorem St.none_at (S : St c F m H h) {r : Nat} (hr : h.objs.size ≤ r) : H r = none := by
  cases e : H r with
  | none => rfl
  | some o =>
    obtain ⟨⟨ob, ho⟩, _⟩ := (S.vis r o e).imp Rep.there id
    exact absurd (Heap.lt_size ho) (Nat.not_lt.mpr hr)

/-- a new object of the call's own becomes visible -/
theorem St.alloc (S : St c F m H h) {r : Nat} {o : O} (hk : ∀ b o, h.get? b = some o → h'.get? b = some o) (hr : h.objs.size ≤ r) (R : Rep h' r o) (hn : o.isRo = false) :
    St c F m (updH H r o) h' := by
  have S' := S.keeps hk
  refine ⟨S'.fr, S'.nx, fun a o' ho => ?_⟩
  by_cases ha : a = r
  · subst ha
    rw [updH_same] at ho
    cases ho
    obtain ⟨mC, f, _⟩ := S.fr
    refine ⟨R, fun e => ?_, fun p hp e => ?_, ?_⟩
    · exact absurd f.ns.lt (Nat.not_lt.mpr (e ▸ hr))
    · exact absurd (Heap.lt_size (S.nx p hp).1) (Nat.not_lt.mpr (e ▸ hr))
    · rw [hn, if_neg Bool.false_ne_true]
      cases q : F.h₀.get? a with
      | none => rfl
      | some ob => exact absurd (Heap.lt_size (f.keep _ _ q)) (Nat.not_lt.mpr hr)
  · rw [updH_ne _ _ ha] at ho
    exact S'.vis a o' ho

theorem St.push (S : St c F m H h) {o : O} {ob : Obj} (R : Rep (h.push ob) h.objs.size o) (hn : o.isRo = false) : St c F m (updH H h.objs.size o) (h.push ob) :=
  S.alloc (fun _ _ e => Heap.get?_push_of_some _ e) (Nat.le_refl _) R hn

/-- an own object changes -/
theorem St.change (S : St c F m H h) {a : Nat} {o o' : O} (ho : H a = some o) (hn : o.isRo = false) (hn' : o'.isRo = false) (hs : Heap.SameBut a h h') (R : Rep h' a o') : St c F m (updH H a o') h' := by
  obtain ⟨⟨mC, f, e⟩, n, v⟩ := S
  obtain ⟨r, hL, hX, hw⟩ := v a o ho
  rw [hn, if_neg Bool.false_ne_true] at hw
  refine ⟨⟨mC, f.change hs hL hw, e⟩, fun p hp => ⟨(hs.2 _ (hX p hp)).trans (n p hp).1, (n p hp).2⟩, fun b o₁ hb => ?_⟩
  by_cases hab : b = a
  · subst hab
    rw [updH_same] at hb
    cases hb
    exact ⟨R, hL, hX, by rw [hn', if_neg Bool.false_ne_true]; exact hw⟩
  · rw [updH_ne _ _ hab] at hb
    obtain ⟨r₁, q⟩ := v b o₁ hb
    exact ⟨r₁.at fun ob e => (hs.2 b hab).trans e, q⟩

theorem nodup_at {α β : Type} : ∀ {l : List (α × β)}, (l.map (·.1)).Nodup → ∀ {i j : Nat} {x : α} {k k' : β}, l[i]? = some (x, k) → l[j]? = some (x, k') → i = j := by
  intro l hn i j x k k' hi hj
  have hi' : (l.map (·.1))[i]? = some x := by simp [hi]
  have hj' : (l.map (·.1))[j]? = some x := by simp [hj]
  have hlt : i < (l.map (·.1)).length := (List.getElem?_eq_some_iff.mp hi').1
  exact (List.getElem?_inj hlt hn).mp (hi'.trans hj'.symm)

theorem lookup_at {β : Type} : ∀ {l : List (Str × β)}, (l.map (·.1)).Nodup → ∀ {i : Nat} {x : Str} {k : β}, l[i]? = some (x, k) → l.lookup x = some k
  | [], _, i, x, k, h => by simp at h
  | (y, k') :: r, hn, 0, x, k, h => by simp at h; obtain ⟨rfl, rfl⟩ := h; simp
  | (y, k') :: r, hn, i + 1, x, k, h => by
    rw [List.getElem?_cons_succ] at h
    have hx : x ∈ r.map (·.1) := List.mem_map.mpr ⟨(x, k), List.mem_of_getElem? h, rfl⟩
    rw [List.map_cons, List.nodup_cons] at hn
    have hne : x ≠ y := fun e => hn.1 (e ▸ hx)
    rw [List.lookup_cons]
    have : (x == y) = false := beq_eq_false_iff_ne.mpr hne
    rw [this]
    exact lookup_at hn.2 h

/-- a name of the frame is stored -/
theorem St.store (S : St c F m H h) (nd : (F.sc.names.map (·.1)).Nodup) {i : Nat} {x : Str} {v : Value} (hi : F.sc.names[i]? = some (x, .local)) {mC : Str → Option Value}
    (f : Fr F.h₀ F.L h mC) (e : ∀ i x, F.sc.names[i]? = some (x, .local) → m i = (mC x).map er) (hn : h'.Ns F.L (fun y => if y = x then some v else mC y)) (hs : Heap.SameBut F.L h h') : St c F (updE m i (er v)) H h' := by
  refine ⟨⟨_, f.set hn hs, fun j y hj => ?_⟩, S.nx.set hs, fun a o ho => ?_⟩
  · unfold updE
    by_cases hji : j = i
    · subst hji
      rw [hi] at hj
      cases hj
      simp
    · rw [if_neg hji]
      have : y ≠ x := fun exy => hji (nodup_at nd (exy ▸ hj) hi)
      rw [if_neg this]
      exact e j y hj
  · obtain ⟨r, hL, q⟩ := S.vis a o ho
    exact ⟨r.at fun ob eo => (hs.2 a hL).trans eo, hL, q⟩
end


/-! every object of the call's own -/
noncomputable def led (F : Fx) (h : Heap) : List (Addr × Obj) :=
  (List.range h.objs.size).filterMap fun a => match h.get? a, F.h₀.get? a with
    | some o, none => if a = F.L then none else some (a, o)
    | _, _ => none

theorem mem_led {F : Fx} {h : Heap} {a : Addr} {o : Obj} : (a, o) ∈ led F h ↔ h.get? a = some o ∧ a ≠ F.L ∧ F.h₀.get? a = none := by
  unfold led
  rw [List.mem_filterMap]
  constructor
  · rintro ⟨b, _, hb⟩
    split at hb
    · rename_i o' e1 e2
      split at hb
      · cases hb
      · rename_i hne
        simp only [Option.some.injEq, Prod.mk.injEq] at hb
        obtain ⟨rfl, rfl⟩ := hb
        exact ⟨e1, hne, e2⟩
    · cases hb
  · rintro ⟨e1, hne, e2⟩
    exact ⟨a, List.mem_range.mpr (Heap.lt_size e1), by rw [e1, e2]; simp [hne]⟩

theorem led_news {F : Fx} {h : Heap} : News F.h₀ F.L h (led F h) := fun p hp => by
  obtain ⟨a, o⟩ := p
  exact mem_led.mp hp

section
variable {c : Cfg} {F : Fx} {m : Ev} {H : Hp} {h h' : Heap} {mC : Str → Option Value}
theorem St.rebuild (S : St c F m H h) (ok : ∀ b o, c.hR.get? b = some o → F.h₀.get? b = some o) (e : ∀ i x, F.sc.names[i]? = some (x, .local) → m i = (mC x).map er) (f' : Fr F.h₀ F.L h' mC) (n' : News F.h₀ F.L h' (led F h)) : St c F m H h' := by
  refine ⟨⟨mC, f', e⟩, fun p hp => ?_, fun a o ho => ?_⟩
  · exact n' p (mem_led.mpr (S.nx p hp))
  · obtain ⟨r, hL, hX, hw⟩ := S.vis a o ho
    refine ⟨?_, hL, hX, hw⟩
    by_cases hr : o.isRo = true
    · rw [if_pos hr] at hw
      obtain ⟨ob, hob⟩ := Option.isSome_iff_exists.mp hw
      obtain ⟨mC', f, _⟩ := S.fr
      refine r.at fun ob' e' => ?_
      have := f.keep _ _ (ok _ _ hob)
      rw [this] at e'
      cases e'
      exact f'.keep _ _ (ok _ _ hob)
    · rw [if_neg hr] at hw
      exact r.at fun ob e' => (n' (a, ob) (mem_led.mpr ⟨e', hL, hw⟩)).1

theorem St.rebuildNew (S : St c F m H h) (ok : ∀ b o, c.hR.get? b = some o → F.h₀.get? b = some o) (e : ∀ i x, F.sc.names[i]? = some (x, .local) → m i = (mC x).map er) (f' : Fr F.h₀ F.L h' mC) {r : Nat} {ob : Obj} {o : O}
    (n' : News F.h₀ F.L h' ((r, ob) :: led F h)) (hr : h.objs.size ≤ r) (R : Rep h' r o) (hn : o.isRo = false) : St c F m (updH H r o) h' := by
  have S' := S.rebuild ok e f' fun p hp => n' p (List.mem_cons_of_mem _ hp)
  refine ⟨S'.fr, S'.nx, fun a o' ho => ?_⟩
  by_cases ha : a = r
  · subst ha
    rw [updH_same] at ho
    cases ho
    have q := n' (a, ob) (List.mem_cons_self ..)
    refine ⟨R, q.2.1, fun p hp e => ?_, ?_⟩
    · exact absurd (Heap.lt_size (S.nx p hp).1) (Nat.not_lt.mpr (e ▸ hr))
    · rw [hn, if_neg Bool.false_ne_true]; exact q.2.2
  · rw [updH_ne _ _ ha] at ho
    exact S'.vis a o' ho
end

/-! simulations -/
abbrev PE := Ev → Hp → (V → Hp → Prop) → Prop
inductive Fl where
  | next | ret (v : V) | off
noncomputable def erF : Flow → Fl
  | .next => .next
  | .ret v => .ret (er v)
  | _ => .off
abbrev PS := Ev → Hp → (Fl → Ev → Hp → Prop) → Prop

abbrev NoE : Value → Shared → Prop := fun _ _ => False
abbrev PostE (c : Cfg) (F : Fx) (m : Ev) (s : Shared) (Q : V → Hp → Prop) : Value → Shared → Prop := fun v s' => ∃ H', St c F m H' s'.heap ∧ Same s s' ∧ Q (er v) H'
abbrev PostS (c : Cfg) (F : Fx) (s : Shared) (Q : Fl → Ev → Hp → Prop) : Flow → Shared → Prop := fun fl s' => ∃ m' H', St c F m' H' s'.heap ∧ Same s s' ∧ Q (erF fl) m' H'

noncomputable def SimE (c : Cfg) (l : Nat) (sc : Scope) (e : Expr) (f : PE) : Prop :=
  ∀ (F : Fx) (m : Ev) (H : Hp) (s : Shared) (Q : V → Hp → Prop), F.sc = sc → Ok c l F → St c F m H s.heap → f m H Q →
    wpAny (model c.prog c.w) F.A (eval e F.env) (PostE c F m s Q) NoE s
/-- a tree of values: an operation behind its operands -/
noncomputable def SimV (c : Cfg) (l : Nat) (t : Sem Value) (f : Hp → (V → Hp → Prop) → Prop) : Prop :=
  ∀ (F : Fx) (m : Ev) (H : Hp) (s : Shared) (Q : V → Hp → Prop), Ok c l F → St c F m H s.heap → f H Q →
    wpAny (model c.prog c.w) F.A t (PostE c F m s Q) NoE s
noncomputable def SimS (c : Cfg) (l : Nat) (sc : Scope) (st : Stmt) (f : PS) : Prop :=
  ∀ (F : Fx) (m : Ev) (H : Hp) (s : Shared) (Q : Fl → Ev → Hp → Prop), F.sc = sc → Ok c l F → St c F m H s.heap → f m H Q →
    wpAny (model c.prog c.w) F.A (exec st F.env) (PostS c F s Q) NoE s
noncomputable def SimB (c : Cfg) (l : Nat) (sc : Scope) (sts : List Stmt) (f : PS) : Prop :=
  ∀ (F : Fx) (m : Ev) (H : Hp) (s : Shared) (Q : Fl → Ev → Hp → Prop), F.sc = sc → Ok c l F → St c F m H s.heap → f m H Q →
    wpAny (model c.prog c.w) F.A (execs sts F.env) (PostS c F s Q) NoE s

theorem PostE.then {c : Cfg} {F : Fx} {m : Ev} {s s₁ : Shared} {Q : V → Hp → Prop} (a : Same s s₁) {v : Value} {s' : Shared} (h : PostE c F m s₁ Q v s') : PostE c F m s Q v s' := by
  obtain ⟨H', x, y, z⟩ := h
  exact ⟨H', x, a.trans y, z⟩
theorem wp_then {c : Cfg} {F : Fx} {m : Ev} {s s₁ : Shared} {Q : V → Hp → Prop} {M : Model} {t : Sem Value} (a : Same s s₁) (h : wpAny M F.A t (PostE c F m s₁ Q) NoE s₁) : wpAny M F.A t (PostE c F m s Q) NoE s₁ :=
  wpAny_mono h (fun _ _ x => PostE.then a x) fun _ _ x => x
theorem wpS_then {c : Cfg} {F : Fx} {s s₁ : Shared} {Q : Fl → Ev → Hp → Prop} {M : Model} {t : Sem Flow} (a : Same s s₁) (h : wpAny M F.A t (PostS c F s₁ Q) NoE s₁) : wpAny M F.A t (PostS c F s Q) NoE s₁ :=
  wpAny_mono h (fun _ _ ⟨m', H', x, y, z⟩ => ⟨m', H', x, a.trans y, z⟩) fun _ _ x => x

section
variable {c : Cfg} {l : Nat} {sc : Scope}

/-! literals, names, operators -/
noncomputable def cInt (i : Int) : PE := fun _ H Q => Q (.int i) H
theorem simE_int {i : Int} {k : Nat} {pos : Pos} : SimE c l sc (.Constant (.int i) k pos) (cInt i) := fun F m H s Q _ ok S h =>
  wpAny_Constant_int ⟨H, S, .toks, h⟩

noncomputable def cBool (b : Bool) : PE := fun _ H Q => Q (.bool b) H
theorem simE_bool {b : Bool} {k : Nat} {pos : Pos} : SimE c l sc (.Constant (.bool b) k pos) (cBool b) := fun F m H s Q _ ok S h =>
  wpAny_pure ⟨H, S, .refl s, h⟩

noncomputable def cVar (i : Nat) : PE := fun m H Q => match m i with
  | some v => Q v H
  | none => False
theorem cVar_at {i : Nat} {m : Ev} {v : V} (h : m i = some v) (H : Hp) (Q : V → Hp → Prop) : cVar i m H Q = Q v H := by unfold cVar; rw [h]
theorem cVar_inv {i : Nat} {m : Ev} {H : Hp} {Q : V → Hp → Prop} (h : cVar i m H Q) : ∃ v, m i = some v ∧ Q v H := by
  unfold cVar at h
  split at h
  · rename_i v e; exact ⟨v, e, h⟩
  · exact h.elim
theorem simE_var {i : Nat} {x : Str} {pos : Pos} (hi : sc.names[i]? = some (x, .local)) (hd : (x == ("__debug__" : Str)) = false) : SimE c l sc (.Name x pos) (cVar i) := by
  rintro F m H s Q rfl ok S h0
  obtain ⟨v, hv, h⟩ := cVar_inv h0
  obtain ⟨mC, f, e⟩ := S.fr
  have e1 := (e i x hi).symm.trans hv
  obtain ⟨v', hv', rfl⟩ := Option.map_eq_some_iff.mp e1
  exact ld f hv' ⟨H, S, .refl s, h⟩ ok.kd (lookup_at ok.nd hi) hd

noncomputable def cBin (op : V → V → Hp → (V → Hp → Prop) → Prop) (a b : PE) : PE := fun m H Q => a m H fun x H1 => b m H1 fun y H2 => op x y H2 Q
noncomputable def SimOp (c : Cfg) (l : Nat) (op : Operator) (f : V → V → Hp → (V → Hp → Prop) → Prop) : Prop :=
  ∀ (x y : Value), SimV c l (binaryOp op x y) (f (er x) (er y))
noncomputable def SimIOp (c : Cfg) (l : Nat) (op : Operator) (f : V → V → Hp → (V → Hp → Prop) → Prop) : Prop :=
  ∀ (x y : Value), SimV c l (inplaceOp op x y) (f (er x) (er y))

theorem simE_bin {op : Operator} {f : V → V → Hp → (V → Hp → Prop) → Prop} {a b : Expr} {ca cb : PE} {pos : Pos} (ha : SimE c l sc a ca) (hb : SimE c l sc b cb) (hop : SimOp c l op f) : SimE c l sc (.BinOp a op b pos) (cBin f ca cb) := by
  intro F m H s Q e ok S h
  refine wpAny_BinOp (wpAny_mono (ha F m H s _ e ok S h) ?_ fun _ _ x => x)
  rintro x s₁ ⟨H1, S1, e1, h1⟩
  refine wpAny_mono (hb F m H1 s₁ _ e ok S1 h1) ?_ fun _ _ x => x
  rintro y s₂ ⟨H2, S2, e2, h2⟩
  exact wp_then (e1.trans e2) (hop x y F m H2 s₂ Q ok S2 h2)

noncomputable def Small (x : Int) : Prop := x.natAbs < 2 ^ 200
theorem Small.bits {x : Int} (h : Small x) : Builtin.Int.intBits x ≤ 200 := by
  unfold Builtin.Int.intBits
  split
  · lia
  · rename_i hx
    have : x.natAbs ≠ 0 := by simpa using hx
    have := (Nat.log2_lt this).mpr h
    lia
theorem Small.mul {a b : Int} (ha : Small a) (hb : Small b) : IntMulOk a b :=
  .of_bits (Nat.le_trans ha.bits (by decide)) (Nat.le_trans hb.bits (by decide))
theorem Small.pylong {a b : Int} (hb : Small b) : Builtin.divisionGoesByPylong a b = false := by
  refine PyProof.noPylong_of_log2 ?_
  have := hb.bits
  unfold Builtin.Int.intBits at this
  split at this
  · rename_i h
    have : b = 0 := by simpa using h
    subst this
    decide
  · lia

abbrev OP := V → V → Hp → (V → Hp → Prop) → Prop
noncomputable def oAdd : OP
  | .int a, .int b, H, Q => Q (.int (a + b)) H
  | .ref a, .ref b, H, Q => ∃ xs ys, H a = some (.list xs) ∧ H b = some (.list ys) ∧ xs.length + ys.length ≤ 2 ^ 20 ∧ ∀ r, H r = none → Q (.ref r) (updH H r (.list (xs ++ ys)))
  | _, _, _, _ => False
noncomputable def oSub : OP
  | .int a, .int b, H, Q => Q (.int (a - b)) H
  | _, _, _, _ => False
noncomputable def oMul : OP
  | .int a, .int b, H, Q => Small a ∧ Small b ∧ Q (.int (a * b)) H
  | .ref a, .int n, H, Q => ∃ x, H a = some (.list [x]) ∧ 0 ≤ n ∧ n ≤ 2 ^ 20 ∧ ∀ r, H r = none → Q (.ref r) (updH H r (.list (List.replicate n.toNat x)))
  | _, _, _, _ => False
noncomputable def oFdiv : OP
  | .int a, .int b, H, Q => b ≠ 0 ∧ Small b ∧ Q (.int (a.fdiv b)) H
  | _, _, _, _ => False
noncomputable def oMod : OP
  | .int a, .int b, H, Q => b ≠ 0 ∧ Q (.int (a.fmod b)) H
  | _, _, _, _ => False
noncomputable def oShl : OP
  | .int a, .int n, H, Q => 0 ≤ n ∧ n ≤ 1000 ∧ a.natAbs < 2 ^ 64 ∧ Q (.int (a * 2 ^ n.toNat)) H
  | _, _, _, _ => False
noncomputable def oShr : OP
  | .int a, .int n, H, Q => 0 ≤ n ∧ Q (.int (a.fdiv (2 ^ n.toNat))) H
  | _, _, _, _ => False
noncomputable def oAnd : OP
  | .int a, .int b, H, Q => Q (.int (Builtin.bitAnd a b)) H
  | _, _, _, _ => False
noncomputable def oOr : OP
  | .int a, .int b, H, Q => Q (.int (Builtin.bitOr a b)) H
  | _, _, _, _ => False
noncomputable def oPow : OP
  | .int a, .int n, H, Q => 0 ≤ n ∧ n ≤ 1000 ∧ a.natAbs < 2 ^ 64 ∧ Q (.int (a ^ n.toNat)) H
  | _, _, _, _ => False

theorem rep_list {h : Heap} {a : Nat} {vs : List V} (r : Rep h a (.list vs)) : ∃ items n, h.get? a = some (listOf (List.toArray items) n) ∧ items.map er = vs := r
theorem rep_isList {h : Heap} {a : Nat} {vs : List V} (r : Rep h a (.list vs)) : ∃ items, h.IsList a (List.toArray items) ∧ items.map er = vs := by
  obtain ⟨items, n, e, q⟩ := r
  exact ⟨items, ⟨_, e, rfl, n, rfl⟩, q⟩

theorem op_add : SimOp c l .Add oAdd := by
  intro x y F m H s Q ok S h
  cases x <;> first | exact h.elim | (cases y <;> first | exact h.elim | skip)
  · exact add_int ⟨H, S, .toks, h⟩
  · obtain ⟨xs, ys, ha, hb, hl, h⟩ := h
    obtain ⟨ia, ea, ra⟩ := rep_isList (S.vis _ _ ha).1
    obtain ⟨ib, eb, rb⟩ := rep_isList (S.vis _ _ hb).1
    obtain ⟨mC, f, e⟩ := S.fr
    have l1 : ia.length = xs.length := by rw [← ra, List.length_map]
    have l2 : ib.length = ys.length := by rw [← rb, List.length_map]
    refine add_arrays f led_news ea eb (fun h' f' n' => ⟨_, S.rebuildNew ok.ro e f' n' (Nat.le_refl _) (o := .list (xs ++ ys)) ⟨ia ++ ib, _, (n' _ (List.mem_cons_self ..)).1, by rw [List.map_append, ra, rb]⟩ rfl, .heap, h _ (S.none_at (Nat.le_refl _))⟩) ?_
    rw [sizeLine_eq]
    simp only [List.size_toArray]
    lia
theorem op_sub : SimOp c l .Sub oSub := by
  intro x y F m H s Q ok S h
  cases x <;> first | exact h.elim | (cases y <;> first | exact h.elim | skip)
  exact sub_int ⟨H, S, .toks, h⟩
theorem foldl_single (x : Value) : ∀ (n : Nat) (acc : Array Value), List.foldl (fun x1 x2 => x1 ++ x2) acc (List.replicate n #[x]) = (acc.toList ++ List.replicate n x).toArray
  | 0, acc => by simp
  | n + 1, acc => by
    rw [List.replicate_succ, List.foldl_cons, foldl_single x n]
    simp [List.replicate_succ]
theorem op_mul : SimOp c l .Mult oMul := by
  intro x y F m H s Q ok S h
  cases x <;> first | exact h.elim | (cases y <;> first | exact h.elim | skip)
  · exact mul_int ⟨H, S, .toks, h.2.2⟩ (h.1.mul h.2.1)
  · rename_i a n u
    obtain ⟨v, ha, hn, hl, h⟩ := h
    obtain ⟨ia, k, ea, ra⟩ := rep_list (S.vis _ _ ha).1
    obtain ⟨mC, f, e⟩ := S.fr
    obtain ⟨x, rfl⟩ : ∃ x, ia = [x] := by
      have := congrArg List.length ra
      simp at this
      exact List.length_eq_one_iff.mp this
    simp only [List.map_cons, List.map_nil, List.cons.injEq, and_true] at ra
    refine mul_list f led_news ea (by (clear hl h e; lia)) (by (clear hn h e; lia)) (by simp only [List.size_toArray, List.length_cons, List.length_nil]; (clear hn h e; lia)) fun h' f' n' => ?_
    have q := (n' _ (List.mem_cons_self ..)).1
    simp only [List.isEmpty_toArray, List.isEmpty_cons, Bool.false_eq_true, if_false, foldl_single] at q
    refine ⟨_, S.rebuildNew ok.ro e f' n' (Nat.le_refl _) (o := .list (List.replicate n.toNat v)) ⟨_, _, q, ?_⟩ rfl, .heap, h _ (S.none_at (Nat.le_refl _))⟩
    simp [ra]
theorem op_fdiv : SimOp c l .FloorDiv oFdiv := by
  intro x y F m H s Q ok S h
  cases x <;> first | exact h.elim | (cases y <;> first | exact h.elim | skip)
  exact floordiv_int h.1 ⟨H, S, .toks, h.2.2⟩ (.inl h.2.1.pylong)
theorem op_mod : SimOp c l .Mod oMod := by
  intro x y F m H s Q ok S h
  cases x <;> first | exact h.elim | (cases y <;> first | exact h.elim | skip)
  exact mod_int' h.1 ⟨H, S, .toks, h.2⟩
theorem op_shl : SimOp c l .LShift oShl := by
  intro x y F m H s Q ok S h
  cases x <;> first | exact h.elim | (cases y <;> first | exact h.elim | skip)
  exact lshift_int_small h.1 (Int.le_trans h.2.1 (by decide)) h.2.2.1 ⟨H, S, .toks, h.2.2.2⟩
theorem op_shr : SimOp c l .RShift oShr := by
  intro x y F m H s Q ok S h
  cases x <;> first | exact h.elim | (cases y <;> first | exact h.elim | skip)
  exact rshift_int h.1 ⟨H, S, .toks, h.2⟩
theorem op_and : SimOp c l .BitAnd oAnd := by
  intro x y F m H s Q ok S h
  cases x <;> first | exact h.elim | (cases y <;> first | exact h.elim | skip)
  exact and_int ⟨H, S, .toks, h⟩
theorem op_or : SimOp c l .BitOr oOr := by
  intro x y F m H s Q ok S h
  cases x <;> first | exact h.elim | (cases y <;> first | exact h.elim | skip)
  exact or_int ⟨H, S, .toks, h⟩
theorem op_pow : SimOp c l .Pow oPow := by
  intro x y F m H s Q ok S h
  cases x <;> first | exact h.elim | (cases y <;> first | exact h.elim | skip)
  exact pow_int_small h.1 (Int.le_trans h.2.1 (by decide)) h.2.2.1 ⟨H, S, .toks, h.2.2.2⟩

noncomputable def oIAdd : OP
  | .int a, .int b, H, Q => Q (.int (a + b)) H
  | _, _, _, _ => False
theorem iop_add : SimIOp c l .Add oIAdd := by
  intro x y F m H s Q ok S h
  cases x <;> first | exact h.elim | (cases y <;> first | exact h.elim | skip)
  exact iadd_int ⟨H, S, .toks, h⟩
theorem iop_sub : SimIOp c l .Sub oSub := by
  intro x y F m H s Q ok S h
  cases x <;> first | exact h.elim | (cases y <;> first | exact h.elim | skip)
  exact isub_int ⟨H, S, .toks, h⟩
theorem iop_or : SimIOp c l .BitOr oOr := by
  intro x y F m H s Q ok S h
  cases x <;> first | exact h.elim | (cases y <;> first | exact h.elim | skip)
  exact ior_int ⟨H, S, .toks, h⟩
theorem iop_shr : SimIOp c l .RShift oShr := by
  intro x y F m H s Q ok S h
  cases x <;> first | exact h.elim | (cases y <;> first | exact h.elim | skip)
  exact irshift_int h.1 ⟨H, S, .toks, h.2⟩
theorem iop_mod : SimIOp c l .Mod oMod := by
  intro x y F m H s Q ok S h
  cases x <;> first | exact h.elim | (cases y <;> first | exact h.elim | skip)
  exact imod_int h.1 ⟨H, S, .toks, h.2⟩
end
end Mine
end

section
open PySem PySem.W PyProof.Rows PySem.Spec
set_option linter.unusedVariables false
namespace Mine
section
variable {c : Cfg} {l : Nat} {sc : Scope}

noncomputable def vBool (v : V) (k : Bool → Prop) : Prop := match v with
  | .bool b => k b
  | _ => False
noncomputable def vInt (v : V) (k : Int → Prop) : Prop := match v with
  | .int i => k i
  | _ => False
noncomputable def vRef (v : V) (k : Nat → Prop) : Prop := match v with
  | .ref a => k a
  | _ => False
theorem vBool_inv {v : V} {k : Bool → Prop} (h : vBool v k) : ∃ b, v = .bool b ∧ k b := by
  cases v <;> first | exact h.elim | exact ⟨_, rfl, h⟩
theorem vInt_inv {v : V} {k : Int → Prop} (h : vInt v k) : ∃ i, v = .int i ∧ k i := by
  cases v <;> first | exact h.elim | exact ⟨_, rfl, h⟩
theorem vRef_inv {v : V} {k : Nat → Prop} (h : vRef v k) : ∃ a, v = .ref a ∧ k a := by
  cases v <;> first | exact h.elim | exact ⟨_, rfl, h⟩

/-! comparisons and tests -/
abbrev CP := V → V → Hp → (Bool → Hp → Prop) → Prop
abbrev PostB (c : Cfg) (F : Fx) (m : Ev) (s : Shared) (Q : Bool → Hp → Prop) : Bool → Shared → Prop := fun b s' => ∃ H', St c F m H' s'.heap ∧ Same s s' ∧ Q b H'
noncomputable def SimC (c : Cfg) (l : Nat) (op : CmpOp) (f : CP) : Prop :=
  ∀ (x y : Value) (F : Fx) (m : Ev) (H : Hp) (s : Shared) (Q : Bool → Hp → Prop), Ok c l F → St c F m H s.heap → f (er x) (er y) H Q →
    wpAny (model c.prog c.w) F.A (compareOp op x y) (fun v s' => ∃ b, v = .bool b ∧ PostB c F m s Q b s') NoE s

noncomputable def kLt : CP
  | .int a, .int b, H, Q => Q (decide (a < b)) H
  | _, _, _, _ => False
noncomputable def kGt : CP
  | .int a, .int b, H, Q => Q (decide (b < a)) H
  | _, _, _, _ => False
noncomputable def iv (ns : List Int) : List V := ns.map .int
noncomputable def kEq : CP
  | .int a, .int b, H, Q => Q (decide (a = b)) H
  | .ref a, .ref b, H, Q => ∃ xs ys, H a = some (.list (iv xs)) ∧ H b = some (.list (iv ys)) ∧ Q (decide (xs = ys)) H
  | _, _, _, _ => False
noncomputable def kNe : CP
  | .int a, .int b, H, Q => Q (decide (a ≠ b)) H
  | .ref a, .ref b, H, Q => ∃ p q r t xs ys zs ws, H a = some (.tup [.ref p, .ref q]) ∧ H b = some (.tup [.ref r, .ref t]) ∧
      H p = some (.list (iv xs)) ∧ H q = some (.list (iv ys)) ∧ H r = some (.list (iv zs)) ∧ H t = some (.list (iv ws)) ∧ Q (!decide (xs = zs ∧ ys = ws)) H
  | _, _, _, _ => False

theorem er_int {x : Value} {a : Int} (h : er x = .int a) : ∃ t, x = .int a t := by
  cases x <;> simp [er] at h
  exact ⟨_, by rw [h]⟩
theorem er_ref {x : Value} {a : Nat} (h : er x = .ref a) : x = .ref a := by
  cases x <;> simp [er] at h
  rw [h]
theorem er_bool {x : Value} {b : Bool} (h : er x = .bool b) : x = .bool b := by
  cases x <;> simp [er] at h
  rw [h]
theorem intsAre_of : ∀ {vs : List Value} {ns : List Int}, vs.map er = iv ns → IntsAre vs ns
  | [], [], _ => .nil
  | [], _ :: _, h => by simp [iv] at h
  | _ :: _, [], h => by simp [iv] at h
  | v :: r, n :: q, h => by
    simp only [iv, List.map_cons, List.cons.injEq] at h
    obtain ⟨t, rfl⟩ := er_int h.1
    exact .cons n t (intsAre_of h.2)

theorem cmp_lt : SimC c l .Lt kLt := by
  intro x y F m H s Q ok S h
  cases x <;> first | exact h.elim | (cases y <;> first | exact h.elim | skip)
  exact lt_int ⟨_, rfl, H, S, .refl s, h⟩
theorem cmp_gt : SimC c l .Gt kGt := by
  intro x y F m H s Q ok S h
  cases x <;> first | exact h.elim | (cases y <;> first | exact h.elim | skip)
  exact gt_int ⟨_, rfl, H, S, .refl s, h⟩
theorem list_ints {F : Fx} {m : Ev} {H : Hp} {h : Heap} (S : St c F m H h) {a : Nat} {xs : List Int} (ha : H a = some (.list (iv xs))) : ∃ items, h.IsList a (List.toArray items) ∧ IntsAre items xs := by
  obtain ⟨items, e, q⟩ := rep_isList (S.vis _ _ ha).1
  exact ⟨items, e, intsAre_of q⟩
theorem cmp_eq : SimC c l .Eq kEq := by
  intro x y F m H s Q ok S h
  cases x <;> first | exact h.elim | (cases y <;> first | exact h.elim | skip)
  · exact eq_int ⟨_, rfl, H, S, .refl s, h⟩
  · obtain ⟨xs, ys, ha, hb, h⟩ := h
    obtain ⟨ia, ea, ra⟩ := list_ints S ha
    obtain ⟨ib, eb, rb⟩ := list_ints S hb
    exact eq_intsK ea ra eb rb (by have := ok.un; lia) ⟨_, rfl, H, S, .refl s, h⟩
theorem tup_reads {F : Fx} {m : Ev} {H : Hp} {h : Heap} (S : St c F m H h) {a p q : Nat} {xs ys : List Int} (ha : H a = some (.tup [.ref p, .ref q])) (hp : H p = some (.list (iv xs))) (hq : H q = some (.list (iv ys))) :
    ∃ as, Reads h (.ref a) (.tuple [.list (xs.map .int), .list (ys.map .int)]) as := by
  obtain ⟨items, n, e, r⟩ := (S.vis _ _ ha).1
  match items, r with
  | [u, v], r =>
    simp only [List.map_cons, List.map_nil, List.cons.injEq, and_true] at r
    obtain rfl := er_ref r.1
    obtain rfl := er_ref r.2
    obtain ⟨ia, ea, ra⟩ := list_ints S hp
    obtain ⟨ib, eb, rb⟩ := list_ints S hq
    exact ⟨_, .tuple e rfl rfl (.cons (reads_of_ints ea ra) (.cons (reads_of_ints eb rb) .nil))⟩
  | [], r => simp at r
  | [_], r => simp at r
  | _ :: _ :: _ :: _, r => simp at r
theorem shaped_pair (xs ys : List Int) : PySem.SeqAt.shaped (.tuple [.list (xs.map .int), .list (ys.map .int)]) = true := by
  have h1 := PySem.W.depthAll_ints xs
  have h2 := PySem.W.depthAll_ints ys
  have e : PyData.depth (.tuple [.list (xs.map .int), .list (ys.map .int)]) ≤ 64 := by simp only [PyData.depth, PyData.depthAll]; lia
  show (PyData.canLay0 (.tuple [.list (xs.map .int), .list (ys.map .int)]) && decide (PyData.depth (.tuple [.list (xs.map .int), .list (ys.map .int)]) ≤ 64)) = true
  rw [Bool.and_eq_true]
  exact ⟨by simp [PyData.canLay0, PyData.canLayAll0, PySem.W.canLayAll0_ints], decide_eq_true e⟩
theorem eqv_pair (xs ys zs ws : List Int) : PyData.eqv (.tuple [.list (xs.map .int), .list (ys.map .int)]) (.tuple [.list (zs.map .int), .list (ws.map .int)]) = decide (xs = zs ∧ ys = ws) := by
  simp only [PyData.eqv, PyData.eqvAll, ked_eqvAll, Bool.and_true]
  by_cases h : xs = zs <;> by_cases h' : ys = ws <;> simp [h, h']
theorem cmp_ne : SimC c l .NotEq kNe := by
  intro x y F m H s Q ok S h
  cases x <;> first | exact h.elim | (cases y <;> first | exact h.elim | skip)
  · rename_i a t b u
    refine ne_int ⟨_, rfl, H, S, .refl s, ?_⟩
    have e : (a != b) = decide (a ≠ b) := by by_cases e : a = b <;> simp [e]
    rw [e]
    exact h
  · obtain ⟨p, q, r, t, xs, ys, zs, ws, ha, hb, h1, h2, h3, h4, h⟩ := h
    obtain ⟨a1, r1⟩ := tup_reads S ha h1 h2
    obtain ⟨a2, r2⟩ := tup_reads S hb h3 h4
    refine ne_dataH r1 r2 (shaped_pair _ _) (shaped_pair _ _) (by have := ok.un; omega) ⟨_, rfl, H, S, .refl s, ?_⟩
    rw [eqv_pair]
    exact h

noncomputable def eCmp (op : CP) (a b : PE) : PE := fun m H Q => a m H fun x H1 => b m H1 fun y H2 => op x y H2 fun r H3 => Q (.bool r) H3
theorem simE_cmp {op : CmpOp} {f : CP} {a b : Expr} {ca cb : PE} {pos : Pos} (ha : SimE c l sc a ca) (hb : SimE c l sc b cb) (hop : SimC c l op f) (hm : behindInMarks op b = false) : SimE c l sc (.Compare a [op] [b] pos) (eCmp f ca cb) := by
  intro F m H s Q e ok S h
  refine wpAny_Compare1 (wpAny_mono (ha F m H s _ e ok S h) ?_ fun _ _ x => x) hm
  rintro x s₁ ⟨H1, S1, e1, h1⟩
  refine wpAny_mono (hb F m H1 s₁ _ e ok S1 h1) ?_ fun _ _ x => x
  rintro y s₂ ⟨H2, S2, e2, h2⟩
  refine wpAny_mono (hop x y F m H2 s₂ _ ok S2 h2) ?_ fun _ _ x => x
  rintro v s₃ ⟨b, rfl, H3, S3, e3, h3⟩
  exact ⟨H3, S3, (e1.trans e2).trans e3, h3⟩

abbrev PB := Ev → Hp → (Bool → Hp → Prop) → Prop
noncomputable def SimT (c : Cfg) (l : Nat) (sc : Scope) (e : Expr) (f : PB) : Prop :=
  ∀ (F : Fx) (m : Ev) (H : Hp) (s : Shared) (Q : Bool → Hp → Prop), F.sc = sc → Ok c l F → St c F m H s.heap → f m H Q →
    wpAny (model c.prog c.w) F.A (isTrue e F.env (eval e F.env)) (PostB c F m s Q) NoE s
noncomputable def tCmp (op : CP) (a b : PE) : PB := fun m H Q => a m H fun x H1 => b m H1 fun y H2 => op x y H2 Q
theorem simT_cmp {op : CmpOp} {f : CP} {a b : Expr} {ca cb : PE} {pos : Pos} (ha : SimE c l sc a ca) (hb : SimE c l sc b cb) (hop : SimC c l op f) (hm : behindInMarks op b = false) : SimT c l sc (.Compare a [op] [b] pos) (tCmp f ca cb) := by
  intro F m H s Q e ok S h
  refine wpAny_isTrue_Compare1 (wpAny_mono (ha F m H s _ e ok S h) ?_ fun _ _ x => x) hm
  rintro x s₁ ⟨H1, S1, e1, h1⟩
  refine wpAny_mono (hb F m H1 s₁ _ e ok S1 h1) ?_ fun _ _ x => x
  rintro y s₂ ⟨H2, S2, e2, h2⟩
  refine wpAny_mono (hop x y F m H2 s₂ _ ok S2 h2) ?_ fun _ _ x => x
  rintro v s₃ ⟨b, rfl, H3, S3, e3, h3⟩
  exact wpAny_truthy_bool ⟨H3, S3, (e1.trans e2).trans e3, h3⟩
noncomputable def tNot (a : PB) : PB := fun m H Q => a m H fun b H1 => Q (!b) H1
theorem simT_not {a : Expr} {ca : PB} {pos : Pos} (ha : SimT c l sc a ca) : SimT c l sc (.UnaryOp .Not a pos) (tNot ca) := by
  intro F m H s Q e ok S h
  exact isTrue_not (wpAny_mono (ha F m H s _ e ok S h) (fun _ _ x => x) fun _ _ x => x)
noncomputable def tAndNil : PB := fun _ H Q => Q true H
noncomputable def tAnd (a b : PB) : PB := fun m H Q => a m H fun x H1 => if x then b m H1 Q else Q false H1
noncomputable def tOrNil : PB := fun _ H Q => Q false H
noncomputable def tOr (a b : PB) : PB := fun m H Q => a m H fun x H1 => if x then Q true H1 else b m H1 Q
theorem simT_and_nil {pos : Pos} : SimT c l sc (.BoolOp .And [] pos) tAndNil := fun F m H s Q _ ok S h => isTrue_and_nil ⟨H, S, .refl s, h⟩
theorem simT_or_nil {pos : Pos} : SimT c l sc (.BoolOp .Or [] pos) tOrNil := fun F m H s Q _ ok S h => isTrue_or_nil ⟨H, S, .refl s, h⟩
theorem PostB.then {F : Fx} {m : Ev} {s s₁ : Shared} {Q : Bool → Hp → Prop} (a : Same s s₁) {v : Bool} {s' : Shared} (h : PostB c F m s₁ Q v s') : PostB c F m s Q v s' := by
  obtain ⟨H', x, y, z⟩ := h
  exact ⟨H', x, a.trans y, z⟩
theorem simT_and {x : Expr} {rest : List Expr} {a b : PB} {pos : Pos} (ha : SimT c l sc x a) (hb : SimT c l sc (.BoolOp .And rest pos) b) : SimT c l sc (.BoolOp .And (x :: rest) pos) (tAnd a b) := by
  intro F m H s Q e ok S h
  refine isTrue_and (wpAny_mono (ha F m H s _ e ok S h) ?_ fun _ _ x => x)
  rintro x s₁ ⟨H1, S1, e1, h1⟩
  cases x with
  | true => exact wpAny_mono (hb F m H1 s₁ _ e ok S1 h1) (fun _ _ x => PostB.then e1 x) fun _ _ x => x
  | false => exact ⟨H1, S1, e1, h1⟩
theorem simT_or {x : Expr} {rest : List Expr} {a b : PB} {pos : Pos} (ha : SimT c l sc x a) (hb : SimT c l sc (.BoolOp .Or rest pos) b) : SimT c l sc (.BoolOp .Or (x :: rest) pos) (tOr a b) := by
  intro F m H s Q e ok S h
  refine isTrue_or (wpAny_mono (ha F m H s _ e ok S h) ?_ fun _ _ x => x)
  rintro x s₁ ⟨H1, S1, e1, h1⟩
  cases x with
  | false => exact wpAny_mono (hb F m H1 s₁ _ e ok S1 h1) (fun _ _ x => PostB.then e1 x) fun _ _ x => x
  | true => exact ⟨H1, S1, e1, h1⟩
/-- a test that is a plain value: a bool -/
noncomputable def tVal (a : PE) : PB := fun m H Q => a m H fun v H1 => vBool v fun b => Q b H1
theorem simT_val {a : Expr} {ca : PE} (ha : SimE c l sc a ca) (he : ∀ env whole, isTrue a env whole = (do let v ← whole; standAt a.pos; holding [v] (truthy v))) : SimT c l sc a (tVal ca) := by
  intro F m H s Q e ok S h
  refine isTrue_plain (wpAny_mono (ha F m H s _ e ok S h) ?_ fun _ _ x => x) (he _ _)
  rintro x s₁ ⟨H1, S1, e1, h1⟩
  have hT := vBool_inv h1
  clear h1
  obtain ⟨b, hb, h1⟩ := hT
  obtain rfl := er_bool hb
  exact wpAny_truthy_bool ⟨H1, S1, e1, h1⟩
noncomputable def eIf (t : PB) (a b : PE) : PE := fun m H Q => t m H fun x H1 => if x then a m H1 Q else b m H1 Q
theorem simE_if {t a b : Expr} {ct : PB} {ca cb : PE} {pos : Pos} (ht : SimT c l sc t ct) (ha : SimE c l sc a ca) (hb : SimE c l sc b cb) : SimE c l sc (.IfExp t a b pos) (eIf ct ca cb) := by
  intro F m H s Q e ok S h
  refine IfExp_ (wpAny_mono (ht F m H s _ e ok S h) ?_ fun _ _ x => x)
  rintro x s₁ ⟨H1, S1, e1, h1⟩
  cases x with
  | true => exact wpAny_mono (ha F m H1 s₁ _ e ok S1 h1) (fun _ _ x => PostE.then e1 x) fun _ _ x => x
  | false => exact wpAny_mono (hb F m H1 s₁ _ e ok S1 h1) (fun _ _ x => PostE.then e1 x) fun _ _ x => x
noncomputable def eAnd (a b : PE) : PE := fun m H Q => a m H fun v H1 => vBool v fun x => if x then b m H1 Q else Q (.bool false) H1
theorem simE_and_one {a : Expr} {ca : PE} {pos : Pos} (ha : SimE c l sc a ca) : SimE c l sc (.BoolOp .And [a] pos) ca := fun F m H s Q e ok S h => BoolOp_one (ha F m H s Q e ok S h)
theorem simE_and {a b : Expr} {rest : List Expr} {ca cb : PE} {pos : Pos} (ha : SimE c l sc a ca) (hb : SimE c l sc (.BoolOp .And (b :: rest) pos) cb) : SimE c l sc (.BoolOp .And (a :: b :: rest) pos) (eAnd ca cb) := by
  intro F m H s Q e ok S h
  refine BoolOp_and (wpAny_mono (ha F m H s _ e ok S h) ?_ fun _ _ x => x)
  rintro v s₁ ⟨H1, S1, e1, h1⟩
  have hT := vBool_inv h1
  clear h1
  obtain ⟨x, hv, h1⟩ := hT
  obtain rfl := er_bool hv
  refine wpAny_truthy_bool ?_
  cases x with
  | true => exact wpAny_mono (hb F m H1 s₁ _ e ok S1 h1) (fun _ _ x => PostE.then e1 x) fun _ _ x => x
  | false => exact ⟨H1, S1, e1, h1⟩
noncomputable def eNeg (a : PE) : PE := fun m H Q => a m H fun v H1 => vInt v fun i => Q (.int (-i)) H1
theorem simE_neg {a : Expr} {ca : PE} {pos : Pos} (ha : SimE c l sc a ca) : SimE c l sc (.UnaryOp .USub a pos) (eNeg ca) := by
  intro F m H s Q e ok S h
  refine UnaryOp_ (wpAny_mono (ha F m H s _ e ok S h) ?_ fun _ _ x => x)
  rintro v s₁ ⟨H1, S1, e1, h1⟩
  have hT := vInt_inv h1
  clear h1
  obtain ⟨i, hv, h1⟩ := hT
  obtain ⟨t, rfl⟩ := er_int hv
  exact P.neg_int ⟨H1, S1, e1.trans .toks, h1⟩

/-! argument lists, displays -/
abbrev PA := Ev → Hp → (List V → Hp → Prop) → Prop
abbrev PostA (c : Cfg) (F : Fx) (m : Ev) (s : Shared) (Q : List V → Hp → Prop) : List Value → Shared → Prop := fun vs s' => ∃ H', St c F m H' s'.heap ∧ Same s s' ∧ Q (vs.map er) H'
noncomputable def SimA (c : Cfg) (l : Nat) (sc : Scope) (es : List Expr) (f : PA) : Prop :=
  ∀ (pos : Pos) (F : Fx) (m : Ev) (H : Hp) (s : Shared) (Q : List V → Hp → Prop), F.sc = sc → Ok c l F → St c F m H s.heap → f m H Q →
    wpAny (model c.prog c.w) F.A (spliced (backTo pos (starEach es F.env))) (PostA c F m s Q) NoE s
noncomputable def aNil : PA := fun _ H Q => Q [] H
noncomputable def aCons (a : PE) (r : PA) : PA := fun m H Q => a m H fun v H1 => r m H1 fun vs H2 => Q (v :: vs) H2
theorem simA_nil : SimA c l sc [] aNil := fun pos F m H s Q _ ok S h => args_nil ⟨H, S, .refl s, h⟩
theorem simA_cons {e : Expr} {r : List Expr} {ca : PE} {cr : PA} (ha : SimE c l sc e ca) (hr : SimA c l sc r cr) (he : ∀ env, starEach (e :: r) env = (false, eval e env) :: starEach r env) : SimA c l sc (e :: r) (aCons ca cr) := by
  intro pos F m H s Q e ok S h
  refine args_cons (wpAny_mono (ha F m H s _ e ok S h) ?_ fun _ _ x => x) (he _)
  rintro v s₁ ⟨H1, S1, e1, h1⟩
  refine wpAny_mono (hr pos F m H1 s₁ _ e ok S1 h1) ?_ fun _ _ x => x
  rintro vs s₂ ⟨H2, S2, e2, h2⟩
  exact ⟨H2, S2, e1.trans e2, h2⟩
noncomputable def eList (a : PA) : PE := fun m H Q => a m H fun vs H1 => vs.length ≤ 2 ^ 20 ∧ ∀ r, H1 r = none → Q (.ref r) (updH H1 r (.list vs))
noncomputable def eTup (a : PA) : PE := fun m H Q => a m H fun vs H1 => vs.length ≤ 2 ^ 20 ∧ ∀ r, H1 r = none → Q (.ref r) (updH H1 r (.tup vs))
theorem simE_list {es : List Expr} {ca : PA} {pos : Pos} (ha : SimA c l sc es ca) : SimE c l sc (.List es pos) (eList ca) := by
  intro F m H s Q e ok S h
  refine List_ (wpAny_mono (ha pos F m H s _ e ok S h) ?_ fun _ _ x => x)
  rintro vs s₁ ⟨H1, S1, e1, hl, h1⟩
  refine wpAny_newObj_type ⟨_, S1.push (o := .list (vs.map er)) ⟨vs, 0, Heap.get?_push_size _ rfl, rfl⟩ rfl, e1.trans .heap, h1 _ (S1.none_at (Nat.le_refl _))⟩ ?_
  show vs.toArray.size ≤ sizeLine
  rw [List.length_map] at hl
  rw [List.size_toArray, sizeLine_eq]
  lia
theorem simE_tup {es : List Expr} {ca : PA} {k : Nat} {pos : Pos} (ha : SimA c l sc es ca) : SimE c l sc (.Tuple es k pos) (eTup ca) := by
  intro F m H s Q e ok S h
  refine Tuple_ (wpAny_mono (ha pos F m H s _ e ok S h) ?_ fun _ _ x => x)
  rintro vs s₁ ⟨H1, S1, e1, hl, h1⟩
  refine wpAny_newObj_type ⟨_, S1.push (o := .tup (vs.map er)) ⟨vs, 0, Heap.get?_push_size _ rfl, rfl⟩ rfl, e1.trans .heap, h1 _ (S1.none_at (Nat.le_refl _))⟩ ?_
  show vs.toArray.size ≤ sizeLine
  rw [List.length_map] at hl
  rw [List.size_toArray, sizeLine_eq]
  omega
end
end Mine
end

section
open PySem PySem.W PyProof.Rows PySem.Spec PySem.Calls
set_option linter.unusedVariables false
namespace Mine

/-! names of the top, calls -/
structure BName (c : Cfg) (x : Str) (v : Value) : Prop where
  miss : nsIn c.K mainGlobals x = some none
  boot : bootBuiltins x = some v
  ne : x ≠ "__name__"
structure GName (c : Cfg) (x : Str) (f : Addr) : Prop where
  at_ : nsIn c.K mainGlobals x = some (some (.ref f))
  keep : keepIn c.K (.ref f) = true

abbrev PF := List V → Hp → (V → Hp → Prop) → Prop
/-- what a call of the function at f does -/
noncomputable def FnOk (c : Cfg) (l : Nat) (f : Addr) (P : PF) : Prop :=
  ∀ (vals : List Value) (F : Fx) (m : Ev) (H : Hp) (s : Shared) (Q : V → Hp → Prop), Ok c l F → St c F m H s.heap → P (vals.map er) H Q →
    wpAny (model c.prog c.w) F.A (call (.ref f) vals) (PostE c F m s Q) NoE s
noncomputable def BfOk (c : Cfg) (l : Nat) (v : Value) (P : PF) : Prop :=
  ∀ (vals : List Value) (F : Fx) (m : Ev) (H : Hp) (s : Shared) (Q : V → Hp → Prop), Ok c l F → St c F m H s.heap → P (vals.map er) H Q →
    wpAny (model c.prog c.w) F.A (call v vals) (PostE c F m s Q) NoE s
noncomputable def eCall (P : PF) (a : PA) : PE := fun m H Q => a m H fun vs H1 => P vs H1 Q

section
variable {c : Cfg} {l : Nat} {sc : Scope}

theorem Ok.lower {l l' : Nat} {F : Fx} (ok : Ok c l F) (h : l' ≤ l) : Ok c l' F :=
  ⟨ok.X, ok.T, ok.B, ok.ro, ok.fr, ok.hh, by have := ok.dp; lia, by have := ok.un; lia, ok.kd, ok.nd, fun h6 => ⟨by have := (ok.top (by (with_reducible exact Nat.le_trans (by assumption) (by assumption)))).1; lia, (ok.top (by (with_reducible exact Nat.le_trans (by assumption) (by assumption)))).2⟩⟩
theorem FnOk.lift {l l' : Nat} {f : Addr} {P : PF} (h : FnOk c l' f P) (hl : l' ≤ l) : FnOk c l f P :=
  fun vals F m H s Q ok S p => h vals F m H s Q (ok.lower hl) S p

theorem ld_b {x : Str} {v : Value} {pos : Pos} {F : Fx} {m : Ev} {H : Hp} {s : Shared} {Q : Value → Shared → Prop} {E : Value → Shared → Prop} (hb : BName c x v) (ok : Ok c l F) (S : St c F m H s.heap)
    (hk : F.sc.names.lookup x = some .globalImplicit) (hd : (x == ("__debug__" : Str)) = false) (h : Q v s) : wpAny (model c.prog c.w) F.A (eval (.Name x pos) F.env) Q E s := by
  obtain ⟨mC, f, e⟩ := S.fr
  exact name_B f ok.X (topRead_of ok.T) hb.miss hb.boot hb.ne h ok.kd hk hd
theorem ld_g {x : Str} {f : Addr} {pos : Pos} {F : Fx} {m : Ev} {H : Hp} {s : Shared} {Q : Value → Shared → Prop} {E : Value → Shared → Prop} (hb : GName c x f) (ok : Ok c l F) (S : St c F m H s.heap)
    (hk : F.sc.names.lookup x = some .globalImplicit) (hd : (x == ("__debug__" : Str)) = false) (h : Q (.ref f) s) : wpAny (model c.prog c.w) F.A (eval (.Name x pos) F.env) Q E s := by
  obtain ⟨mC, f, e⟩ := S.fr
  exact name_K f ok.X (topRead_of ok.T) hb.at_ h ok.kd hk hd

/-- a call of a built-in or of a type -/
theorem simE_callB {x : Str} {v : Value} {P : PF} {e : Expr} {r : List Expr} {ca : PA} {p pos : Pos} (hb : BName c x v) (hv : ∀ a, v ≠ .ref a) (hA : SimA c l sc (e :: r) ca) (hP : BfOk c l v P)
    (hk : sc.names.lookup x = some .globalImplicit) (hd : (x == ("__debug__" : Str)) = false)
    (he : ∀ env, starEach (e :: r) env = (false, eval e env) :: starEach r env) (hplain : ∀ env, (backTo pos (starEach r env)).any (·.1) = false) :
    SimE c l sc (.Call (.Name x p) (e :: r) [] pos) (eCall P ca) := by
  rintro F m H s Q rfl ok S h
  refine Call_ (ld_b hb ok S hk hd ?_)
  refine callWith_of (P := fun _ => True) ?_ (fun h' _ => ⟨.machine, .inr (.inl rfl), Looks.of_pure ?_⟩) ?_
  · rw [he]; show ((false || (backTo pos (starEach r F.env)).any (·.1)) || false) = false; rw [hplain]; rfl
  · cases v <;> first | rfl | exact absurd rfl (hv _)
  · have hs := hA pos F m H s _ rfl ok S h
    rw [he] at hs ⊢
    refine evalArgs_plain (wpAny_mono hs ?_ fun _ _ x => x)
    rintro vs s₁ ⟨H1, S1, e1, h1⟩
    refine ⟨trivial, ?_⟩
    exact wp_then e1 (hP vs F m H1 s₁ Q ok S1 h1)

/-- a call of a function of the text -/
theorem simE_call {x : Str} {f : Addr} {P : PF} {e : Expr} {r : List Expr} {ca : PA} {p pos : Pos} (hb : GName c x f) (hP : FnOk c l f P) (hA : SimA c l sc (e :: r) ca)
    (hk : sc.names.lookup x = some .globalImplicit) (hd : (x == ("__debug__" : Str)) = false)
    (he : ∀ env, starEach (e :: r) env = (false, eval e env) :: starEach r env) (hplain : ∀ env, (backTo pos (starEach r env)).any (·.1) = false) :
    SimE c l sc (.Call (.Name x p) (e :: r) [] pos) (eCall P ca) := by
  rintro F m H s Q rfl ok S h
  refine Call_ (ld_g hb ok S hk hd ?_)
  refine callWith_K ok.X hb.keep ?_ (he _) (hplain _)
  refine wpAny_mono (hA pos F m H s _ rfl ok S h) ?_ fun _ _ x => x
  rintro vs s₁ ⟨H1, S1, e1, h1⟩
  obtain ⟨mC, f, _⟩ := S1.fr
  exact ⟨ok.X.keeps f.keep, wp_then e1 (hP vs F m H1 s₁ Q ok S1 h1)⟩

noncomputable def lenK (a : Nat) (H : Hp) (Q : V → Hp → Prop) : Prop := ∃ vs, H a = some (.list vs) ∧ vs.length ≤ 2 ^ 20 ∧ Q (.int vs.length) H
noncomputable def fLen : PF
  | [.ref a], H, Q => lenK a H Q
  | _, _, _ => False
theorem fLen_inv {vs : List V} {H : Hp} {Q : V → Hp → Prop} (h : fLen vs H Q) : ∃ a, vs = [.ref a] ∧ ∃ xs, H a = some (.list xs) ∧ xs.length ≤ 2 ^ 20 ∧ Q (.int xs.length) H := by
  unfold fLen at h
  split at h
  · exact ⟨_, rfl, h⟩
  · exact h.elim
theorem one_arg {vals : List Value} {v : V} (h : vals.map er = [v]) : ∃ x, vals = [x] ∧ er x = v := by
  match vals, h with
  | [x], h => simp at h; exact ⟨x, rfl, h⟩
  | [], h => simp at h
  | _ :: _ :: _, h => simp at h
theorem two_args {vals : List Value} {v w : V} (h : vals.map er = [v, w]) : ∃ x y, vals = [x, y] ∧ er x = v ∧ er y = w := by
  match vals, h with
  | [x, y], h => simp at h; exact ⟨x, y, rfl, h.1, h.2⟩
  | [], h => simp at h
  | [_], h => simp at h
  | _ :: _ :: _ :: _, h => simp at h
theorem bf_len : BfOk c l (.builtin "len") fLen := by
  intro vals F m H s Q ok S h
  have h2 := fLen_inv h
  clear h
  obtain ⟨a, hv, vs, ha, hl, h⟩ := h2
  obtain ⟨x, rfl, hx⟩ := one_arg hv
  obtain rfl := er_ref hx
  obtain ⟨ia, ea, ra⟩ := rep_isList (S.vis _ _ ha).1
  have l1 : ia.length = vs.length := by rw [← ra, List.length_map]
  refine call_len_list ea ?_ ⟨H, S, .toks, ?_⟩
  · rw [List.size_toArray]; lia
  · rw [List.size_toArray, l1]; exact h
noncomputable def fMin : PF
  | [.int a, .int b], H, Q => Q (.int (if b < a then b else a)) H
  | _, _, _ => False
theorem fMin_inv {vs : List V} {H : Hp} {Q : V → Hp → Prop} (h : fMin vs H Q) : ∃ a b, vs = [.int a, .int b] ∧ Q (.int (if b < a then b else a)) H := by
  unfold fMin at h
  split at h
  · exact ⟨_, _, rfl, h⟩
  · exact h.elim
theorem bf_min : BfOk c l (.builtin "min") fMin := by
  intro vals F m H s Q ok S h
  have h2 := fMin_inv h
  clear h
  obtain ⟨a, b, hv, h⟩ := h2
  obtain ⟨x, y, rfl, hx, hy⟩ := two_args hv
  obtain ⟨t, rfl⟩ := er_int hx
  obtain ⟨u, rfl⟩ := er_int hy
  exact min_two_ints ok.hh fun h' tk hk => by
    by_cases hlt : b < a
    · rw [if_pos hlt] at h ⊢; exact ⟨H, S.keeps hk, .mk, h⟩
    · rw [if_neg hlt] at h ⊢; exact ⟨H, S.keeps hk, .mk, h⟩
/-- list(script): a read-only list is copied -/
noncomputable def fList : PF
  | [.ref a], H, Q => ∃ vs, H a = some (.ro vs) ∧ vs.length ≤ 2 ^ 20 ∧ ∀ r, H r = none → Q (.ref r) (updH H r (.list vs))
  | _, _, _ => False
theorem fList_inv {vs : List V} {H : Hp} {Q : V → Hp → Prop} (h : fList vs H Q) : ∃ a, vs = [.ref a] ∧ ∃ xs, H a = some (.ro xs) ∧ xs.length ≤ 2 ^ 20 ∧ ∀ r, H r = none → Q (.ref r) (updH H r (.list xs)) := by
  unfold fList at h
  split at h
  · exact ⟨_, rfl, h⟩
  · exact h.elim
theorem bf_list : BfOk c l (.type "list") fList := by
  intro vals F m H s Q ok S h
  have h2 := fList_inv h
  clear h
  obtain ⟨a, hv, vs, ha, hl, h⟩ := h2
  obtain ⟨x, rfl, hx⟩ := one_arg hv
  obtain rfl := er_ref hx
  obtain ⟨ia, ⟨ob, ea, hcls, n, hdat⟩, ra⟩ := (S.vis _ _ ha).1
  have l1 : ia.length = vs.length := by rw [← ra, List.length_map]
  refine call_list_seq a (.inl rfl) ea hcls hdat (fun h' c' hk hr => ?_) (by rw [List.size_toArray, sizeLine_eq]; lia)
  exact ⟨_, S.alloc hk (Nat.le_refl _) (o := .list vs) ⟨ia, c', hr, ra⟩ rfl, .heap, h _ (S.none_at (Nat.le_refl _))⟩

/-! the method bit_length; subscripts -/
noncomputable def eBits (a : PE) : PE := fun m H Q => a m H fun v H1 => vInt v fun i => Q (.int (Builtin.Int.intBits i)) H1
set_option maxRecDepth 100000 in
theorem simE_bits {a : Expr} {ca : PE} {apos pos : Pos} (ha : SimE c l sc a ca)
    (he : ∀ env, ∃ pl, eval (.Call (.Attribute a "bit_length" apos) [] [] pos) env = (do
      let ov ← eval a env
      standAt apos.atName
      let (f, first) ← holding [ov] (getMethod ov "bit_length" pl)
      callWith pos f first (backTo pos (starEach [] env)) [])) : SimE c l sc (.Call (.Attribute a "bit_length" apos) [] [] pos) (eBits ca) := by
  intro F m H s Q e ok S h
  obtain ⟨pl, he⟩ := he F.env
  refine MethodCall_ (wpAny_mono (ha F m H s _ e ok S h) ?_ fun _ _ x => x) he
  rintro v s₁ ⟨H1, S1, e1, h1⟩
  have hT := vInt_inv h1
  clear h1
  obtain ⟨i, hv, h1⟩ := hT
  obtain ⟨t, rfl⟩ := er_int hv
  refine getMethod_int_bit_length (callWith_method0 (call_int_bit_length ⟨H1, S1, e1.trans .toks, h1⟩))

theorem isList_typeIs {s : Shared} {a : Addr} {items : Array Value} (h : s.heap.IsList a items) : s.TypeIs (.ref a) "list" := h.typeIs

noncomputable def idxK (r : Nat) (k : Int) (H : Hp) (Q : V → Hp → Prop) : Prop := ∃ vs v, H r = some (.list vs) ∧
  ((0 ≤ k ∧ k < 2 ^ 62 ∧ vs[k.toNat]? = some v) ∨ (k = -1 ∧ vs.getLast? = some v ∧ vs.length ≤ 2 ^ 20)) ∧ Q v H
noncomputable def eIdx (a i : PE) : PE := fun m H Q => a m H fun x H1 => i m H1 fun y H2 => vRef x fun r => vInt y fun k => idxK r k H2 Q
theorem simE_idx {a i : Expr} {ca ci : PE} {pos : Pos} (ha : SimE c l sc a ca) (hi : SimE c l sc i ci) (hs : ∀ o k, subscripted i false o k = operate [o, k] (getItem o k)) : SimE c l sc (.Subscript a i pos) (eIdx ca ci) := by
  intro F m H s Q e ok S h
  refine Subscript_ (wpAny_mono (ha F m H s _ e ok S h) ?_ fun _ _ x => x)
  rintro x s₁ ⟨H1, S1, e1, h1⟩
  refine wpAny_mono (hi F m H1 s₁ _ e ok S1 h1) ?_ fun _ _ x => x
  rintro y s₂ ⟨H2, S2, e2, h2⟩
  have hT := vRef_inv h2
  clear h2
  obtain ⟨r, hx, h2⟩ := hT
  have hT := vInt_inv h2
  clear h2
  obtain ⟨k, hy, vs, v, hr, hk, h2⟩ := hT
  obtain rfl := er_ref hx
  obtain ⟨t, rfl⟩ := er_int hy
  obtain ⟨ia, ea, ra⟩ := rep_isList (S2.vis _ _ hr).1
  refine tail_any ea.typeIs slot_list_getitem.lookup ?_ (hs _ _)
  rcases hk with ⟨h0, hk, hv⟩ | ⟨rfl, hv, hl⟩
  · rw [← ra, List.getElem?_map] at hv
    obtain ⟨w, hw, rfl⟩ := Option.map_eq_some_iff.mp hv
    exact wpAny_getItem_list ea h0 (by (clear hs h0; lia)) (by simpa using hw) ⟨H2, S2, e1.trans e2, h2⟩
  · rw [← ra, List.getLast?_map] at hv
    obtain ⟨w, hw, rfl⟩ := Option.map_eq_some_iff.mp hv
    have hne : ia ≠ [] := by rintro rfl; simp at hw
    have hpos : 0 < ia.length := List.length_pos_iff.mpr hne
    refine wpAny_getItem_list_neg ea (by decide) (by rw [List.size_toArray]; lia) (by decide) ?_ ⟨H2, S2, e1.trans e2, h2⟩
    rw [List.getLast?_eq_getElem?] at hw
    rw [List.size_toArray, show ((-1 : Int) + (ia.length : Int)).toNat = ia.length - 1 by (clear hs hl hne hpos; lia)]
    simpa using hw

/-- a part of a slice -/
abbrev PO := Ev → Hp → (Option Nat → Hp → Prop) → Prop
noncomputable def SimO (c : Cfg) (l : Nat) (sc : Scope) (e : Option Expr) (f : PO) : Prop :=
  ∀ (F : Fx) (m : Ev) (H : Hp) (s : Shared) (Q : Option Nat → Hp → Prop), F.sc = sc → Ok c l F → St c F m H s.heap → f m H Q →
    wpAny (model c.prog c.w) F.A (evalPart e F.env) (fun v s' => ∃ k : Option Nat, IsPart v (k.map Int.ofNat) ∧ ∃ H', St c F m H' s'.heap ∧ Same s s' ∧ Q k H') NoE s
noncomputable def pNone : PO := fun _ H Q => Q none H
noncomputable def pSome (a : PE) : PO := fun m H Q => a m H fun v H1 => vInt v fun k => 0 ≤ k ∧ Q (some k.toNat) H1
theorem simO_none : SimO c l sc none pNone := fun F m H s Q _ ok S h => evalPart_none_step ⟨none, .none, H, S, .refl s, h⟩
theorem simO_some {e : Expr} {ca : PE} (ha : SimE c l sc e ca) : SimO c l sc (some e) (pSome ca) := by
  intro F m H s Q e ok S h
  refine evalPart_some_step (wpAny_mono (ha F m H s _ e ok S h) ?_ fun _ _ x => x)
  rintro v s₁ ⟨H1, S1, e1, h1⟩
  obtain ⟨k, hv, h0, hq⟩ := vInt_inv h1
  clear h1
  obtain ⟨t, rfl⟩ := er_int hv
  refine ⟨some k.toNat, ?_, H1, S1, e1, hq⟩
  have e : (k.toNat : Int) = k := Int.toNat_of_nonneg h0
  show IsPart (Value.int k t) (some (k.toNat : Int))
  rw [e]
  exact .int _ t
noncomputable def cut (vs : List V) : Option Nat → Option Nat → List V
  | none, none => vs
  | some a, none => vs.drop a
  | none, some b => vs.take b
  | some a, some b => (vs.drop a).take (b - a)
noncomputable def cutK (r : Nat) (p q : Option Nat) (H : Hp) (Q : V → Hp → Prop) : Prop := ∃ vs, H r = some (.list vs) ∧ vs.length ≤ 2 ^ 20 ∧
  (∀ a b, p = some a → q = some b → a ≤ b ∧ b ≤ vs.length) ∧ ∀ t, H t = none → Q (.ref t) (updH H t (.list (cut vs p q)))
noncomputable def eSlice (a : PE) (lo hi : PO) : PE := fun m H Q => a m H fun x H1 => lo m H1 fun p H2 => hi m H2 fun q H3 => vRef x fun r => cutK r p q H3 Q
theorem cut_eq {items : List Value} {vs : List V} (h : items.map er = vs) (p q : Option Nat) (hb : ∀ a b, p = some a → q = some b → a ≤ b ∧ b ≤ vs.length) :
    ∃ items', slicePick (List.toArray items) (p.map Int.ofNat) (q.map Int.ofNat) none = List.toArray items' ∧ items'.map er = cut vs p q := by
  subst h
  match p, q with
  | none, none => exact ⟨items, slicePick_all _, rfl⟩
  | some a, none => exact ⟨items.drop a, by simpa using slicePick_from' (List.toArray items) a, by simp [cut, List.map_drop]⟩
  | none, some b => exact ⟨items.take b, by simpa using slicePick_upto' (List.toArray items) b, by simp [cut, List.map_take]⟩
  | some a, some b =>
    obtain ⟨h1, h2⟩ := hb a b rfl rfl
    exact ⟨(items.drop a).take (b - a), by simpa using slicePick_run (List.toArray items) a b (by simpa using h2) h1, by simp [cut, List.map_take, List.map_drop]⟩
theorem simE_slice {a : Expr} {lo hi : Option Expr} {ca : PE} {cl ch : PO} {p pos : Pos} (ha : SimE c l sc a ca) (hlo : SimO c l sc lo cl) (hhi : SimO c l sc hi ch) : SimE c l sc (.Subscript a (.Slice lo hi none p) pos) (eSlice ca cl ch) := by
  intro F m H s Q e ok S h
  refine Subscript_ (wpAny_mono (ha F m H s _ e ok S h) ?_ fun _ _ x => x)
  rintro x s₁ ⟨H1, S1, e1, h1⟩
  refine wpAny_Slice (wpAny_mono (hlo F m H1 s₁ _ e ok S1 h1) ?_ fun _ _ x => x)
  rintro v2 s₂ ⟨k2, p2, H2, S2, e2, h2⟩
  refine wpAny_mono (hhi F m H2 s₂ _ e ok S2 h2) ?_ fun _ _ x => x
  rintro v3 s₃ ⟨k3, p3, H3, S3, e3, h3⟩
  obtain ⟨r, hx, vs, hr, hl, hb, hq⟩ := vRef_inv h3
  clear h3
  refine evalPart_none_step ?_
  obtain rfl := er_ref hx
  obtain ⟨ia, ea, ra⟩ := rep_isList (S3.vis _ _ hr).1
  obtain ⟨it, e4, e5⟩ := cut_eq ra k2 k3 hb
  have l1 : ia.length = vs.length := by rw [← ra, List.length_map]
  have S4 := S3.keeps (h' := s₃.heap.push { cls := .type "slice", data := .fields #[v2, v3, .none] }) fun _ _ e => Heap.get?_push_of_some _ e
  refine tail_any (Heap.IsList.typeIs (s := { s₃ with heap := s₃.heap.push { cls := .type "slice", data := .fields #[v2, v3, .none] } }) (ea.push _)) slot_list_getitem.lookup (ops := [.ref s₃.heap.objs.size, .ref r])
    (wpAny_getItem_list_slice (ea.push _) (Heap.IsSliceOf.new ..) p2 p3 .none (by simp) ?_ (by rw [List.size_toArray, sizeLine_eq]; omega)) rfl
  refine ⟨_, S4.push (o := .list (cut vs k2 k3)) ⟨it, 0, ?_, e5⟩ rfl, ((e1.trans e2).trans e3).trans .heap, hq _ (S4.none_at (Nat.le_refl _) )⟩
  rw [Heap.get?_push_size _ rfl, e4]
end
end Mine
end

section
open PySem PySem.W PyProof.Rows PySem.Spec PySem.Calls
set_option linter.unusedVariables false
namespace Mine
section
variable {c : Cfg} {l : Nat} {sc : Scope}

theorem wp_store {F : Fx} {m : Ev} {H : Hp} {s : Shared} {i : Nat} {x : Str} {v : Value} {Q : Unit → Shared → Prop} {E : Value → Shared → Prop} (ok : Ok c l F) (S : St c F m H s.heap) (hi : F.sc.names[i]? = some (x, .local))
    (h : ∀ h', St c F (updE m i (er v)) H h' → Q () { s with heap := h', toks := s.toks + 1 }) : wpAny (model c.prog c.w) F.A (storeName F.env x v) Q E s := by
  obtain ⟨mC, f, e⟩ := S.fr
  exact wpAny_storeName_local (lookup_at ok.nd hi) f.ns (fun h' hn hs => h h' (S.store ok.nd hi f e hn hs))
    (by show (F.sc.kind == .class || (F.sc.kind == .module && F.L != mainGlobals)) = false; rw [ok.kd]; rfl)

noncomputable def sNil : PS := fun m H Q => Q .next m H
noncomputable def sCons (a b : PS) : PS := fun m H Q => a m H fun fl m1 H1 => match fl with
  | .next => b m1 H1 Q
  | .ret v => Q (.ret v) m1 H1
  | .off => False
theorem simB_nil : SimB c l sc [] sNil := fun F m H s Q _ ok S h => wpAny_execs_nil ⟨m, H, S, .refl s, h⟩
theorem simB_cons {st : Stmt} {r : List Stmt} {a b : PS} (ha : SimS c l sc st a) (hb : SimB c l sc r b) : SimB c l sc (st :: r) (sCons a b) := by
  intro F m H s Q e ok S h
  refine wpAny_execs_cons (wpAny_mono (ha F m H s _ e ok S h) ?_ fun _ _ x => x)
  rintro fl s₁ ⟨m1, H1, S1, e1, h1⟩
  cases fl with
  | next => exact wpS_then e1 (hb F m1 H1 s₁ Q e ok S1 h1)
  | ret v => exact ⟨m1, H1, S1, e1, h1⟩
  | brk => exact h1.elim
  | cont => exact h1.elim

noncomputable def sAssign (i : Nat) (a : PE) : PS := fun m H Q => a m H fun v H1 => Q .next (updE m i v) H1
theorem simS_assign {i : Nat} {x : Str} {a : Expr} {ca : PE} {p pos : Pos} (ha : SimE c l sc a ca) (hi : sc.names[i]? = some (x, .local)) (hs : ∀ env, swapsWith a (some (.Name x p)) pos.line env = pure false) :
    SimS c l sc (.Assign [.Name x p] a pos) (sAssign i ca) := by
  rintro F m H s Q rfl ok S h
  refine wpAny_Assign_Name (wpAny_mono (ha F m H s _ rfl ok S h) ?_ fun _ _ x => x) (hs _)
  rintro v s₁ ⟨H1, S1, e1, h1⟩
  exact wp_store ok S1 hi fun h' S' => ⟨_, H1, S', e1.trans .mk, h1⟩

noncomputable def sAug (i : Nat) (f : V → V → Hp → (V → Hp → Prop) → Prop) (a : PE) : PS := fun m H Q => cVar i m H fun v H0 => a m H0 fun y H1 => f v y H1 fun r H2 => Q .next (updE m i r) H2
theorem simS_aug {i : Nat} {x : Str} {op : Operator} {f : V → V → Hp → (V → Hp → Prop) → Prop} {a : Expr} {ca : PE} {p pos : Pos} (ha : SimE c l sc a ca) (hop : SimIOp c l op f) (hi : sc.names[i]? = some (x, .local)) :
    SimS c l sc (.AugAssign (.Name x p) op a pos) (sAug i f ca) := by
  rintro F m H s Q rfl ok S h0
  obtain ⟨v, hv, h⟩ := cVar_inv h0
  obtain ⟨mC, fr, e⟩ := S.fr
  have e1 := (e i x hi).symm.trans hv
  obtain ⟨v', hv', rfl⟩ := Option.map_eq_some_iff.mp e1
  refine wpAny_AugAssign_Name (wpAny_loadName_local ok.kd (lookup_at ok.nd hi) fr.ns hv' ?_)
  refine wpAny_mono (ha F m H s _ rfl ok S h) ?_ fun _ _ x => x
  rintro y s₁ ⟨H1, S1, e1, h1⟩
  refine wpAny_mono (hop v' y F m H1 s₁ _ ok S1 h1) ?_ fun _ _ x => x
  rintro r s₂ ⟨H2, S2, e2, h2⟩
  exact wp_store ok S2 hi fun h' S' => ⟨_, H2, S', (e1.trans e2).trans .mk, h2⟩

noncomputable def sIf (t : PB) (a b : PS) : PS := fun m H Q => t m H fun x H1 => if x then a m H1 Q else b m H1 Q
theorem simS_if {t : Expr} {a b : List Stmt} {ct : PB} {ca cb : PS} {pos : Pos} (ht : SimT c l sc t ct) (ha : SimB c l sc a ca) (hb : SimB c l sc b cb) : SimS c l sc (.If t a b pos) (sIf ct ca cb) := by
  intro F m H s Q e ok S h
  refine wpAny_If (wpAny_mono (ht F m H s _ e ok S h) ?_ fun _ _ x => x)
  rintro x s₁ ⟨H1, S1, e1, h1⟩
  cases x with
  | true => exact wpS_then e1 (ha F m H1 s₁ Q e ok S1 h1)
  | false => exact wpS_then e1 (hb F m H1 s₁ Q e ok S1 h1)

noncomputable def sRet (a : PE) : PS := fun m H Q => a m H fun v H1 => Q (.ret v) m H1
theorem simS_ret {a : Expr} {ca : PE} {pos : Pos} (ha : SimE c l sc a ca) : SimS c l sc (.Return (some a) pos) (sRet ca) := by
  intro F m H s Q e ok S h
  refine wpAny_Return_some (wpAny_mono (ha F m H s _ e ok S h) ?_ fun _ _ x => x)
  rintro v s₁ ⟨H1, S1, e1, h1⟩
  exact ⟨m, H1, S1, e1, h1⟩

noncomputable def sExpr (a : PE) : PS := fun m H Q => a m H fun _ H1 => Q .next m H1
theorem simS_expr {a : Expr} {ca : PE} {pos : Pos} (ha : SimE c l sc a ca) (hs : ∀ env, swapsWith a none pos.line env = pure false) : SimS c l sc (.Expr a pos) (sExpr ca) := by
  intro F m H s Q e ok S h
  have hi : interactive F.env = false := by show (F.sc.kind == .module && _) = false; rw [ok.kd]; rfl
  refine wpAny_Expr_any (wpAny_mono (ha F m H s _ e ok S h) ?_ fun _ _ x => x) hi (hs _)
  rintro v s₁ ⟨H1, S1, e1, h1⟩
  exact ⟨m, H1, S1, e1, h1⟩

/-- xs.append(e) -/
noncomputable def isL (r : Nat) (H : Hp) : Prop := ∃ vs, H r = some (.list vs)
noncomputable def appK (r : Nat) (v : V) (H : Hp) (Q : Hp → Prop) : Prop := ∃ ws, H r = some (.list ws) ∧ ws.length ≤ 2 ^ 20 ∧ Q (updH H r (.list (ws ++ [v])))
noncomputable def eApp (o a : PE) : PE := fun m H Q => o m H fun x H1 => vRef x fun r => isL r H1 ∧ a m H1 fun v H2 => appK r v H2 fun H3 => Q .nil H3
set_option maxRecDepth 100000 in
theorem simE_app {o a : Expr} {co ca : PE} {apos pos : Pos} (ho : SimE c l sc o co) (ha : SimE c l sc a ca)
    (he : ∀ env, ∃ pl, eval (.Call (.Attribute o "append" apos) [a] [] pos) env = (do
      let ov ← eval o env
      standAt apos.atName
      let (f, first) ← holding [ov] (getMethod ov "append" pl)
      callWith pos f first (backTo pos (starEach [a] env)) []))
    (hst : ∀ env, starEach [a] env = (false, eval a env) :: starEach [] env) : SimE c l sc (.Call (.Attribute o "append" apos) [a] [] pos) (eApp co ca) := by
  intro F m H s Q e ok S h
  obtain ⟨pl, he⟩ := he F.env
  refine MethodCall_ (wpAny_mono (ho F m H s _ e ok S h) ?_ fun _ _ x => x) he
  rintro x s₁ ⟨H1, S1, e1, h1⟩
  have hT := vRef_inv h1
  clear h1
  obtain ⟨r, hx, ⟨vs, hr⟩, h1⟩ := hT
  obtain rfl := er_ref hx
  obtain ⟨ia, n, ea, ra⟩ := rep_list (S1.vis _ _ hr).1
  refine getMethod_list_append ea rfl rfl (callWith_method1 ?_ (hst _))
  refine args_cons (wpAny_mono (ha F m H1 s₁ _ e ok S1 h1) ?_ fun _ _ x => x) (hst _)
  rintro v s₂ ⟨H2, S2, e2, ws, hw, hl, h2⟩
  refine args_nil ?_
  obtain ⟨ib, k, eb, rb⟩ := rep_list (S2.vis _ _ hw).1
  have l1 : ib.length = ws.length := by rw [← rb, List.length_map]
  refine append_at eb (fun h' hs hr' => ⟨_, S2.change hw rfl rfl hs (o' := .list (ws ++ [er v])) ⟨ib ++ [v], k + 1, ?_, by rw [List.map_append, rb]; rfl⟩, (e1.trans e2).trans .heap, h2⟩) ?_
  · rw [hr']; simp [PySem.W.listOf]
  · rw [List.size_toArray, sizeLine_eq]; lia

noncomputable def setK (r : Nat) (k : Int) (v : V) (H : Hp) (Q : Hp → Prop) : Prop := ∃ vs, H r = some (.list vs) ∧ 0 ≤ k ∧ k < vs.length ∧ k < 2 ^ 62 ∧ Q (updH H r (.list (vs.set k.toNat v)))
noncomputable def sSetIdx (o i a : PE) : PS := fun m H Q => a m H fun v H1 => o m H1 fun x H2 => i m H2 fun y H3 => vRef x fun r => vInt y fun k => setK r k v H3 fun H4 => Q .next m H4
theorem simS_setIdx {o i a : Expr} {co ci ca : PE} {p pos : Pos} (ho : SimE c l sc o co) (hi : SimE c l sc i ci) (ha : SimE c l sc a ca) (hs : ∀ env, swapsWith a (some (.Subscript o i p)) pos.line env = pure false) :
    SimS c l sc (.Assign [.Subscript o i p] a pos) (sSetIdx co ci ca) := by
  intro F m H s Q e ok S h
  refine wpAny_Assign_Subscript (wpAny_mono (ha F m H s _ e ok S h) ?_ fun _ _ x => x) (hs _)
  rintro v s₁ ⟨H1, S1, e1, h1⟩
  refine wpAny_mono (ho F m H1 s₁ _ e ok S1 h1) ?_ fun _ _ x => x
  rintro x s₂ ⟨H2, S2, e2, h2⟩
  refine wpAny_mono (hi F m H2 s₂ _ e ok S2 h2) ?_ fun _ _ x => x
  rintro y s₃ ⟨H3, S3, e3, h3⟩
  have hT := vRef_inv h3
  clear h3
  obtain ⟨r, hx, h3⟩ := hT
  have hT := vInt_inv h3
  clear h3
  obtain ⟨k, hy, vs, hr, h0, hk, hk2, h3⟩ := hT
  obtain rfl := er_ref hx
  obtain ⟨t, rfl⟩ := er_int hy
  obtain ⟨ia, n, ea, ra⟩ := rep_list (S3.vis _ _ hr).1
  have l1 : ia.length = vs.length := by rw [← ra, List.length_map]
  refine ki_setAt ea h0 (by (clear hs h0 hk l1; lia)) (by rw [List.size_toArray]; lia) ?_
  refine ⟨m, _, S3.change hr rfl rfl (Heap.SameBut.update ..) (o' := .list (vs.set k.toNat (er v))) ⟨ia.set k.toNat v, n, ?_, by rw [List.map_set, ra]⟩, ((e1.trans e2).trans e3).trans .heap, h3⟩
  have e4 : Obj.mapSeq (·.setIfInBounds k.toNat v) (PySem.W.listOf (List.toArray ia) n) = PySem.W.listOf (List.toArray (ia.set k.toNat v)) n := by
    unfold Obj.mapSeq PySem.W.listOf
    simp
  rw [Heap.get?_update_self _ ea (by rw [e4]; rfl), e4]

theorem small_tup {vs : List Value} (h : vs.length ≤ 8) : sizeOk (.seq vs.toArray) := by
  show vs.toArray.size ≤ sizeLine
  rw [List.size_toArray, sizeLine_eq]
  lia
theorem wp_newTuple {M : Model} {A : Around} {E : Value → Shared → Prop} {s : Shared} {vs : List Value} {Q : Value → Shared → Prop} (h : Q (.ref s.heap.objs.size) { s with heap := s.heap.push { cls := .type "tuple", data := .seq vs.toArray } }) (hl : vs.length ≤ 8) :
    wpAny M A (newTuple vs) Q E s := wpAny_newObj_type h (small_tup hl)
theorem tup_push {s : Shared} {vs : List Value} : ({ s with heap := s.heap.push { cls := .type "tuple", data := .seq vs.toArray } } : Shared).heap.IsTuple s.heap.objs.size vs.toArray := ⟨_, Heap.get?_push_size _ rfl, rfl, 0, rfl⟩

theorem wp_unpack {prog : Program} {w : World} {A : Around} {E : Value → Shared → Prop} {s : Shared} {vs : List Value} {n : Nat} {Q : List Value → Shared → Prop} (hh : A.handled = none) (hn : n = vs.length)
    (h : ∀ h', Heap.ExtBut (s.heap.push { cls := .type "tuple", data := .seq vs.toArray }).objs.size (s.heap.push { cls := .type "tuple", data := .seq vs.toArray }) h' → Q vs { s with heap := h' }) :
    wpAny (model prog w) A (unpackItems (.ref s.heap.objs.size) n none) Q E { s with heap := s.heap.push { cls := .type "tuple", data := .seq vs.toArray } } := by
  subst hn
  have e : vs.length = vs.toArray.size := by rw [List.size_toArray]
  rw [e]
  exact wpAny_unpackItems_tuple hh tup_push fun h' he => h h' he
noncomputable def sAssign2 (i j : Nat) (a b : PE) : PS := fun m H Q => a m H fun v1 H1 => b m H1 fun v2 H2 => Q .next (updE (updE m j v2) i v1) H2
theorem simS_assign2 {i j : Nat} {x y : Str} {a b : Expr} {ca cb : PE} {k k' : Nat} {p q tp vp pos : Pos} (ha : SimE c l sc a ca) (hb : SimE c l sc b cb)
    (hi : sc.names[i]? = some (x, .local)) (hj : sc.names[j]? = some (y, .local))
    (h1 : ∀ env, starEach [a, b] env = (false, eval a env) :: starEach [b] env) (h2 : ∀ env, starEach [b] env = (false, eval b env) :: starEach [] env)
    (hs : ∀ env, swapsWithSole [.Tuple [.Name x p, .Name y q] k tp] (.Tuple [a, b] k' vp) pos.line env = pure false)
    (hw : ∀ F : Fx, F.sc = sc → swappedStores [.Tuple [.Name x p, .Name y q] k tp] (.Tuple [a, b] k' vp) F.env = pure (some [x, y])) :
    SimS c l sc (.Assign [.Tuple [.Name x p, .Name y q] k tp] (.Tuple [a, b] k' vp) pos) (sAssign2 i j ca cb) := by
  intro F m H s Q e ok S h
  refine Assign_Tuple_swapped (Tuple_ ?_) (hs _) (hw F e)
  refine wpAny_mono (simA_cons ha (simA_cons hb simA_nil h2) h1 vp F m H s (fun vs H2 => match vs with
    | [v1, v2] => Q .next (updE (updE m j v2) i v1) H2
    | _ => False) e ok S h) ?_ fun _ _ x => x
  rintro vs s₁ ⟨H1, S1, e1, h1⟩
  match vs, h1 with
  | [u1, u2], h1 =>
    subst e
    refine wp_newTuple (vs := [u1, u2]) ?_ (by simp)
    have S2 := S1.keeps (h' := s₁.heap.push { cls := .type "tuple", data := .seq [u1, u2].toArray }) fun _ _ e => Heap.get?_push_of_some _ e
    refine wp_unpack ok.hh (vs := [u1, u2]) rfl fun h' he => ?_
    have S3 := S2.keeps (h' := h') fun b o eb => he b o (Nat.ne_of_lt (Heap.lt_size eb)) eb
    show wpAny _ _ (do holding [u1] (bindName F.env y u2); assignInOrder [fun v => bindName F.env x v] [u1]) _ _ _
    refine wpAny_bind (wpAny_holding (wpAny_bindName (wp_store ok S3 hj fun h2 S4 => ?_)))
    show wpAny _ _ (do holding [] (bindName F.env x u1); pure ()) _ _ _
    exact wpAny_bind (wpAny_holding (wpAny_bindName (wp_store ok S4 hi fun h3 S5 => wpAny_pure ⟨_, H1, S5, e1.trans (Same.heap.trans (Same.mk.trans .mk)), h1⟩)))
  | [], h1 => exact h1.elim
  | [_], h1 => exact h1.elim
  | _ :: _ :: _ :: _, h1 => exact h1.elim

noncomputable def sAssign3 (i j r : Nat) (a b d : PE) : PS := fun m H Q => a m H fun v1 H1 => b m H1 fun v2 H2 => d m H2 fun v3 H3 => Q .next (updE (updE (updE m r v3) j v2) i v1) H3
theorem simS_assign3 {i j r : Nat} {x y z : Str} {a b d : Expr} {ca cb cd : PE} {k k' : Nat} {p q t tp vp pos : Pos} (ha : SimE c l sc a ca) (hb : SimE c l sc b cb) (hd : SimE c l sc d cd)
    (hi : sc.names[i]? = some (x, .local)) (hj : sc.names[j]? = some (y, .local)) (hr : sc.names[r]? = some (z, .local))
    (h1 : ∀ env, starEach [a, b, d] env = (false, eval a env) :: starEach [b, d] env) (h2 : ∀ env, starEach [b, d] env = (false, eval b env) :: starEach [d] env) (h3 : ∀ env, starEach [d] env = (false, eval d env) :: starEach [] env)
    (hs : ∀ env, swapsWithSole [.Tuple [.Name x p, .Name y q, .Name z t] k tp] (.Tuple [a, b, d] k' vp) pos.line env = pure false)
    (hw : ∀ F : Fx, F.sc = sc → swappedStores [.Tuple [.Name x p, .Name y q, .Name z t] k tp] (.Tuple [a, b, d] k' vp) F.env = pure (some [x, y, z])) :
    SimS c l sc (.Assign [.Tuple [.Name x p, .Name y q, .Name z t] k tp] (.Tuple [a, b, d] k' vp) pos) (sAssign3 i j r ca cb cd) := by
  intro F m H s Q e ok S h
  refine Assign_Tuple_swapped (Tuple_ ?_) (hs _) (hw F e)
  refine wpAny_mono (simA_cons ha (simA_cons hb (simA_cons hd simA_nil h3) h2) h1 vp F m H s (fun vs H2 => match vs with
    | [v1, v2, v3] => Q .next (updE (updE (updE m r v3) j v2) i v1) H2
    | _ => False) e ok S h) ?_ fun _ _ x => x
  rintro vs s₁ ⟨H1, S1, e1, h1⟩
  match vs, h1 with
  | [u1, u2, u3], h1 =>
    subst e
    refine wp_newTuple (vs := [u1, u2, u3]) ?_ (by simp)
    have S2 := S1.keeps (h' := s₁.heap.push { cls := .type "tuple", data := .seq [u1, u2, u3].toArray }) fun _ _ e => Heap.get?_push_of_some _ e
    refine wp_unpack ok.hh (vs := [u1, u2, u3]) rfl fun h' he => ?_
    have S3 := S2.keeps (h' := h') fun b o eb => he b o (Nat.ne_of_lt (Heap.lt_size eb)) eb
    show wpAny _ _ (do holding [u2, u1] (bindName F.env z u3); assignInOrder [fun v => bindName F.env y v, fun v => bindName F.env x v] [u2, u1]) _ _ _
    refine wpAny_bind (wpAny_holding (wpAny_bindName (wp_store ok S3 hr fun h2 S4 => ?_)))
    show wpAny _ _ (do holding [u1] (bindName F.env y u2); assignInOrder [fun v => bindName F.env x v] [u1]) _ _ _
    refine wpAny_bind (wpAny_holding (wpAny_bindName (wp_store ok S4 hj fun h3 S5 => ?_)))
    show wpAny _ _ (do holding [] (bindName F.env x u1); pure ()) _ _ _
    exact wpAny_bind (wpAny_holding (wpAny_bindName (wp_store ok S5 hi fun h4 S6 => wpAny_pure ⟨_, H1, S6, e1.trans (Same.heap.trans (Same.mk.trans (Same.mk.trans .mk))), h1⟩)))
  | [], h1 => exact h1.elim
  | [_], h1 => exact h1.elim
  | [_, _], h1 => exact h1.elim
  | _ :: _ :: _ :: _ :: _, h1 => exact h1.elim

/-- a tuple that a call gives back is unpacked -/
noncomputable def unK (r : Nat) (H : Hp) (Q : V → V → Prop) : Prop := ∃ v1 v2, H r = some (.tup [v1, v2]) ∧ Q v1 v2
noncomputable def sUnpack (i j : Nat) (a : PE) : PS := fun m H Q => a m H fun v H1 => vRef v fun r => unK r H1 fun v1 v2 => Q .next (updE (updE m i v1) j v2) H1
theorem simS_unpack {i j : Nat} {x y : Str} {a : Expr} {ca : PE} {k : Nat} {p q tp pos : Pos} (ha : SimE c l sc a ca)
    (hi : sc.names[i]? = some (x, .local)) (hj : sc.names[j]? = some (y, .local))
    (hs : ∀ env, swapsWithSole [.Tuple [.Name x p, .Name y q] k tp] a pos.line env = pure false)
    (hw : ∀ F : Fx, F.sc = sc → swappedStores [.Tuple [.Name x p, .Name y q] k tp] a F.env = pure none) :
    SimS c l sc (.Assign [.Tuple [.Name x p, .Name y q] k tp] a pos) (sUnpack i j ca) := by
  intro F m H s Q e ok S h
  refine Assign_Tuple (wpAny_mono (ha F m H s _ e ok S h) ?_ fun _ _ x => x) (hs _) (hw F e)
  rintro v s₁ ⟨H1, S1, e1, h1⟩
  have hT := vRef_inv h1
  clear h1
  obtain ⟨r, hv, v1, v2, hr, h1⟩ := hT
  obtain rfl := er_ref hv
  obtain ⟨items, n, et, rt⟩ := (S1.vis _ _ hr).1
  match items, rt with
  | [u1, u2], rt =>
    simp only [List.map_cons, List.map_nil, List.cons.injEq, and_true] at rt
    obtain ⟨rfl, rfl⟩ := rt
    subst e
    refine wpAny_assign_Tuple ok.hh ⟨_, et, rfl, n, rfl⟩ rfl rfl fun h' he => ?_
    have S3 := S1.keeps (h' := h') fun b o eb => he b o (Nat.ne_of_lt (Heap.lt_size eb)) eb
    show wpAny _ _ (do holding [u2] (assign (.Name x p) F.env u1); do holding [] (assign (.Name y q) F.env u2); pure ()) _ _ _
    refine wpAny_bind (wpAny_holding (wpAny_assign_Name (wp_store ok S3 hi fun h2 S4 => ?_)))
    exact wpAny_bind (wpAny_holding (wpAny_assign_Name (wp_store ok S4 hj fun h3 S5 => wpAny_pure ⟨_, H1, S5, e1.trans (Same.heap.trans (Same.mk.trans .mk)), h1⟩)))
  | [], rt => simp at rt
  | [_], rt => simp at rt
  | _ :: _ :: _ :: _, rt => simp at rt

/-- a statement that is never reached -/
noncomputable def sNever : PS := fun _ _ _ => False
theorem simS_never {st : Stmt} : SimS c l sc st sNever := fun _ _ _ _ _ _ _ _ h => h.elim
end
end Mine
end

section
open PySem PySem.W PyProof.Rows PySem.Spec PySem.Calls
set_option linter.unusedVariables false
namespace Mine

noncomputable def Fx.addX (F : Fx) (ps : List (Addr × Obj)) : Fx := { F with X := ps ++ F.X }
theorem Ok.addX {c : Cfg} {l : Nat} {F : Fx} (ok : Ok c l F) (ps : List (Addr × Obj)) : Ok c l (F.addX ps) :=
  ⟨ok.X, ok.T, ok.B, ok.ro, ok.fr, ok.hh, ok.dp, ok.un, ok.kd, ok.nd, ok.top⟩

section
variable {c : Cfg} {l : Nat} {F : Fx} {m : Ev} {H : Hp} {h h' : Heap} {ps : List (Addr × Obj)}

/-- hidden objects may change, all else stays -/
theorem St.extX (S : St c (F.addX ps) m H h) (ro : ∀ b o, c.hR.get? b = some o → F.h₀.get? b = some o) (hX : ∀ q ∈ F.X, ∀ p ∈ ps, q.1 ≠ p.1) (hs : ∀ b o, (∀ p ∈ ps, b ≠ p.1) → h.get? b = some o → h'.get? b = some o) : St c F m H h' := by
  obtain ⟨⟨mC, f, e⟩, n, v⟩ := S
  have nL : ∀ p ∈ ps, F.L ≠ p.1 := fun p hp => (n p (List.mem_append_left _ hp)).2.1.symm
  have n0 : ∀ p ∈ ps, F.h₀.get? p.1 = none := fun p hp => (n p (List.mem_append_left _ hp)).2.2
  refine ⟨⟨mC, ⟨?_, fun b o eb => ?_, f.above⟩, e⟩, fun p hp => ?_, fun a o ho => ?_⟩
  · obtain ⟨oL, a1, a2, hoL, a3⟩ := f.ns
    exact ⟨oL, a1, a2, hs _ _ nL hoL, a3⟩
  · refine hs _ _ (fun p hp ep => ?_) (f.keep b o eb)
    have := n0 p hp
    rw [← ep] at this
    rw [show F.h₀.get? b = some o from eb] at this
    cases this
  · have := n p (List.mem_append_right _ hp)
    exact ⟨hs _ _ (fun q hq => hX p hp q hq) this.1, this.2⟩
  · obtain ⟨r, hL, hx, hw⟩ := v a o ho
    refine ⟨r.at fun ob eo => hs _ _ (fun p hp => (hx p (List.mem_append_left _ hp)).symm) eo, hL, fun p hp => hx p (List.mem_append_right _ hp), hw⟩

theorem St.dropX (S : St c (F.addX ps) m H h) : St c F m H h := by
  obtain ⟨fr, n, v⟩ := S
  exact ⟨fr, fun p hp => n p (List.mem_append_right _ hp), fun a o ho => let ⟨r, hL, hx, hw⟩ := v a o ho; ⟨r, hL, fun p hp => hx p (List.mem_append_right _ hp), hw⟩⟩

theorem St.hide (S : St c F m H h) (hp : ∀ p ∈ ps, h.get? p.1 = some p.2 ∧ p.1 ≠ F.L ∧ F.h₀.get? p.1 = none ∧ H p.1 = none) : St c (F.addX ps) m H h := by
  obtain ⟨fr, n, v⟩ := S
  refine ⟨fr, fun p hq => ?_, fun a o ho => ?_⟩
  · rcases List.mem_append.mp hq with hq | hq
    · exact ⟨(hp p hq).1, (hp p hq).2.1, (hp p hq).2.2.1⟩
    · exact n p hq
  · obtain ⟨r, hL, hx, hw⟩ := v a o ho
    refine ⟨r, hL, fun p hq => ?_, hw⟩
    rcases List.mem_append.mp hq with hq | hq
    · intro e
      have := (hp p hq).2.2.2
      rw [e, ho] at this
      cases this
    · exact hx p hq

/-- an address that is not in use before is none's -/
theorem St.fresh (S : St c F m H h) {r : Nat} (hr : h.objs.size ≤ r) : r ≠ F.L ∧ F.h₀.get? r = none ∧ H r = none ∧ ∀ q ∈ F.X, q.1 ≠ r := by
  obtain ⟨mC, f, _⟩ := S.fr
  refine ⟨fun e => absurd f.ns.lt (Nat.not_lt.mpr (e ▸ hr)), ?_, S.none_at hr, fun q hq e => absurd (Heap.lt_size (S.nx q hq).1) (Nat.not_lt.mpr (e ▸ hr))⟩
  cases q : F.h₀.get? r with
  | none => rfl
  | some ob => exact absurd (Heap.lt_size (f.keep _ _ q)) (Nat.not_lt.mpr hr)
end

noncomputable def LoopQ (P : Ev → Hp → Prop) (Q : Fl → Ev → Hp → Prop) : Fl → Ev → Hp → Prop := fun fl m H => match fl with
  | .next => P m H
  | .ret v => Q (.ret v) m H
  | .off => False

section
variable {c : Cfg} {l : Nat} {sc : Scope}

/-! while -/
noncomputable def sWhile (t : PB) (b : PS) : PS := fun m H Q => ∃ I : Nat → Ev → Hp → Prop, (∃ n, I n m H) ∧ ∀ n m' H', I n m' H' → t m' H' fun x H1 => if x then b m' H1 (LoopQ (fun m2 H2 => ∃ n', n' < n ∧ I n' m2 H2) Q) else Q .next m' H1
theorem simS_while {t : Expr} {b : List Stmt} {ct : PB} {cb : PS} {pos : Pos} (ht : SimT c l sc t ct) (hb : SimB c l sc b cb) : SimS c l sc (.While t b [] pos) (sWhile ct cb) := by
  rintro F m H s Q e ok S ⟨I, ⟨n, hn⟩, step⟩
  refine wpAny_While (codeAny_whileLoop (fun n s' => ∃ m' H', St c F m' H' s'.heap ∧ Same s s' ∧ I n m' H') ?_ n ⟨m, H, S, .refl s, hn⟩)
  rintro n s₁ ⟨m1, H1, S1, e1, h1⟩
  refine wpAny_mono (ht F m1 H1 s₁ _ e ok S1 (step n m1 H1 h1)) ?_ fun _ _ x => x.elim
  rintro x s₂ ⟨H2, S2, e2, h2⟩
  cases x with
  | true =>
    refine wpAny_mono (hb F m1 H2 s₂ _ e ok S2 h2) ?_ fun _ _ x => x.elim
    rintro fl s₃ ⟨m3, H3, S3, e3, h3⟩
    cases fl with
    | next =>
      obtain ⟨n', hlt, hI⟩ := h3
      exact ⟨n', hlt, m3, H3, S3, (e1.trans e2).trans e3, hI⟩
    | ret v => exact ⟨m3, H3, S3, (e1.trans e2).trans e3, h3⟩
    | brk => exact h3.elim
    | cont => exact h3.elim
  | false => exact wpAny_execs_nil ⟨m1, H2, S2, e1.trans e2, h2⟩

/-! for over a list -/
noncomputable def sForL (i : Nat) (it : PE) (b : PS) : PS := fun m H Q => it m H fun v H1 => vRef v fun a => ∃ vs, H1 a = some (.list vs) ∧ ∃ I : Nat → Ev → Hp → Prop, I 0 m H1 ∧ (∀ k m' H', I k m' H' → H' a = some (.list vs)) ∧
  (∀ k v m' H', vs[k]? = some v → I k m' H' → b (updE m' i v) H' (LoopQ (I (k + 1)) Q)) ∧ ∀ m' H', I vs.length m' H' → Q .next m' H'
theorem simS_forL {i : Nat} {x : Str} {it : Expr} {b : List Stmt} {ci : PE} {cb : PS} {p pos : Pos} (hit : SimE c l sc it ci) (hb : SimB c l sc b cb) (hi : sc.names[i]? = some (x, .local))
    (hs : ∀ env x, foldedSetIterable it env x = pure x) : SimS c l sc (.For (.Name x p) it b [] pos) (sForL i ci cb) := by
  rintro F m H s Q rfl ok S h
  refine wpAny_For (wpAny_mono (hit F m H s _ rfl ok S h) ?_ fun _ _ x => x) (hs _)
  rintro v s₁ ⟨H1, S1, e1, h1⟩
  have hT := vRef_inv h1
  clear h1
  obtain ⟨a, hv, vs, ha, I, h0, hI, step, fin⟩ := hT
  obtain rfl := er_ref hv
  obtain ⟨items, ea, ra⟩ := rep_isList (S1.vis _ _ ha).1
  refine wpAny_pyIter_list ea ?_
  obtain ⟨fL, f0, fH, fX⟩ := S1.fresh (Nat.le_refl s₁.heap.objs.size)
  refine codeAny_forLoop (fun n s' => ∃ k m' H' o, St c (F.addX [(s₁.heap.objs.size, o)]) m' H' s'.heap ∧ Same s s' ∧ s'.heap.IsListIter s₁.heap.objs.size a k ∧ I k m' H' ∧ k ≤ vs.length ∧ n = vs.length + 1 - k) ?_ (vs.length + 1)
    ⟨0, m, H1, { cls := .type "list_iterator", data := .fields #[.ref a, .int 0 0] }, (S1.keeps fun _ _ e => Heap.get?_push_of_some _ e).hide (fun p hp => ?_), e1.trans .heap, ⟨_, Heap.get?_push_size _ rfl, rfl, rfl⟩, h0, Nat.zero_le _, rfl⟩
  · rintro n s₂ ⟨k, m2, H2, o, S2, e2, it2, h2, hk, rfl⟩
    have ha2 := hI k m2 H2 h2
    obtain ⟨items2, ea2, ra2⟩ := rep_isList (S2.vis _ _ ha2).1
    have hlen : items2.length = vs.length := by rw [← ra2, List.length_map]
    cases hx : items2[k]? with
    | none =>
      have hk' : k = vs.length := by
        have := List.getElem?_eq_none_iff.mp hx
        lia
      subst hk'
      refine wpAny_pyNext_list_end ok.hh it2 ea2 (by simpa using hx) fun h' he => wpAny_execs_nil ?_
      refine ⟨m2, H2, S2.extX ok.ro (fun q hq p hp => ?_) (fun b ob hb eb => he b ob (hb _ (List.mem_singleton.mpr rfl)) eb), e2.trans .heap, fin m2 H2 h2⟩
      rw [List.mem_singleton.mp hp]
      exact fX q hq
    | some w =>
      refine wpAny_pyNext_list_item it2 ea2 (x := w) (by simpa using hx) fun h' it3 hs3 => ?_
      obtain ⟨o3, ho3, hc3⟩ := id it3
      have S3 : St c F m2 H2 h' := S2.extX ok.ro (fun q hq p hp => by rw [List.mem_singleton.mp hp]; exact fX q hq) (fun b ob hb eb => hs3.extBut b ob (hb _ (List.mem_singleton.mpr rfl)) eb)
      have nH : H2 s₁.heap.objs.size = none := by
        cases q : H2 s₁.heap.objs.size with
        | none => rfl
        | some ob => exact absurd rfl ((S2.vis _ _ q).2.2.1 _ (List.mem_append_left _ (List.mem_singleton.mpr rfl)))
      have S4 : St c (F.addX [(s₁.heap.objs.size, o3)]) m2 H2 h' := S3.hide fun p hp => by rw [List.mem_singleton.mp hp]; exact ⟨ho3, fL, f0, nH⟩
      refine wpAny_assign_Name (wp_store (F := F.addX [(s₁.heap.objs.size, o3)]) (ok.addX _) S4 hi fun h4 S5 => ?_)
      have hvk : vs[k]? = some (er w) := by rw [← ra2, List.getElem?_map, hx]; rfl
      refine wpAny_mono (hb (F.addX [(s₁.heap.objs.size, o3)]) _ H2 _ _ rfl (ok.addX _) S5 (step k _ m2 H2 hvk h2)) ?_ fun _ _ x => x.elim
      rintro fl s₃ ⟨m3, H3, S6, e6, h6⟩
      have hlt : k < vs.length := (List.getElem?_eq_some_iff.mp hvk).1
      cases fl with
      | next =>
        refine ⟨vs.length + 1 - (k + 1), by (clear hs hI step fin fL fX hk hlen hc3; lia), k + 1, m3, H3, o3, S6, (e2.trans (Same.heap.trans .mk)).trans e6, ⟨o3, (S6.nx _ (List.mem_append_left _ (List.mem_singleton.mpr rfl))).1, hc3⟩, h6, hlt, rfl⟩
      | ret v => exact ⟨m3, H3, S6.dropX, (e2.trans (Same.heap.trans .mk)).trans e6, h6⟩
      | brk => exact h6.elim
      | cont => exact h6.elim
  · rw [List.mem_singleton.mp hp]
    exact ⟨Heap.get?_push_size _ rfl, fL, f0, fH⟩

/-! for over a range -/
noncomputable def rng (a b st : Int) : Nat := if st = 1 then (b - a).toNat else (a - b).toNat
noncomputable def rangeOf : List V → Option (Int × Int × Int)
  | [.int n] => some (0, n, 1)
  | [.int a, .int b] => some (a, b, 1)
  | [.int a, .int b, .int st] => some (a, b, st)
  | _ => none
noncomputable def RangeOk (a b st : Int) : Prop := -(2 ^ 40) ≤ a ∧ a ≤ 2 ^ 40 ∧ -(2 ^ 40) ≤ b ∧ b ≤ 2 ^ 40 ∧ (st = 1 ∨ st = -1)
theorem rangeSize_eq {a b st : Int} (h : st = 1 ∨ st = -1) : Builtin.Range.rangeSize a b st = (rng a b st : Int) := by
  unfold Builtin.Range.rangeSize rng
  rcases h with rfl | rfl
  · simp only [show (1 : Int) > 0 by decide, if_true, Int.ediv_one]
    split <;> omega
  · simp only [show ¬ ((-1 : Int) > 0) by decide, show ¬ ((-1 : Int) = 1) by decide, if_false, Int.neg_neg, Int.ediv_one]
    split <;> omega
theorem range_small {a b st : Int} (h : RangeOk a b st) : Builtin.Range.small a b st = true := by
  obtain ⟨h1, h2, h3, h4, h5⟩ := h
  unfold Builtin.Range.small
  rw [rangeSize_eq h5]
  have hr : (rng a b st : Int) ≤ 2 ^ 41 := by unfold rng; split <;> omega
  unfold Builtin.Range.rangeFitsLong
  rcases h5 with rfl | rfl
  · simp only [Bool.and_eq_true, Bool.or_eq_true, decide_eq_true_eq]
    refine ⟨⟨⟨⟨⟨by (clear h2 h3 h4 hr; lia), by (clear h1 h3 h4 hr; lia)⟩, by (clear h1 h2 h4 hr; omega), by (clear h1 h2 h3 hr; omega)⟩, by decide, by decide⟩, by (clear h1 h2 h3 h4 hr; lia), by lia⟩, .inr ?_⟩
    simp only [show (1 : Int) > 0 by decide, if_true, Bool.and_eq_true, decide_eq_true_eq]
    exact ⟨by (clear h1 h2 h4 hr; lia), by (clear h1 h2 h3 hr; lia)⟩
  · simp only [Bool.and_eq_true, Bool.or_eq_true, decide_eq_true_eq]
    refine ⟨⟨⟨⟨⟨by lia, by lia⟩, by lia, by lia⟩, by decide, by decide⟩, by (clear h1 h2 h3 h4 hr; lia), by lia⟩, .inr ?_⟩
    simp only [show ¬ ((-1 : Int) > 0) by decide, if_false, Bool.and_eq_true, decide_eq_true_eq]
    exact ⟨by (clear h1 h2 h4 hr; lia), by (clear h1 h2 h3 hr; lia)⟩
noncomputable def rIter (x left step : Int) : Obj := { cls := .type "range_iterator", dict := none, data := .fields #[rawInt x, rawInt left, rawInt step], slots := #[] }

noncomputable def sForR (i : Nat) (args : PA) (b : PS) : PS := fun m H Q => args m H fun vs H1 => ∃ x y st, rangeOf vs = some (x, y, st) ∧ RangeOk x y st ∧ ∃ I : Nat → Ev → Hp → Prop, I 0 m H1 ∧
  (∀ k m' H', k < rng x y st → I k m' H' → b (updE m' i (.int (x + k * st))) H' (LoopQ (I (k + 1)) Q)) ∧ ∀ m' H', I (rng x y st) m' H' → Q .next m' H'

theorem call_rangeOf {F : Fx} {s : Shared} {vals : List Value} {x y st : Int} {Q : Value → Shared → Prop} {E : Value → Shared → Prop} (h : rangeOf (vals.map er) = some (x, y, st)) (hst : st = 1 ∨ st = -1)
    (hQ : ∀ t u v tk, Q (.ref s.heap.objs.size) { s with heap := s.heap.push { cls := .type "range", data := .fields #[.int x t, .int y u, .int st v] }, toks := tk }) : wpAny (model c.prog c.w) F.A (call (.type "range") vals) Q E s := by
  match vals, h with
  | [v1], h =>
    generalize e1 : er v1 = w1 at h
    simp only [List.map_cons, List.map_nil, e1] at h
    cases w1 <;> simp [rangeOf] at h
    obtain ⟨rfl, rfl, rfl⟩ := h
    obtain ⟨t, rfl⟩ := er_int e1
    exact call_range_1 (hQ _ _ _ _)
  | [v1, v2], h =>
    generalize e1 : er v1 = w1 at h
    generalize e2 : er v2 = w2 at h
    simp only [List.map_cons, List.map_nil, e1, e2] at h
    cases w1 <;> cases w2 <;> simp [rangeOf] at h
    obtain ⟨rfl, rfl, rfl⟩ := h
    obtain ⟨t, rfl⟩ := er_int e1
    obtain ⟨u, rfl⟩ := er_int e2
    exact call_range_2 (hQ _ _ _ _)
  | [v1, v2, v3], h =>
    generalize e1 : er v1 = w1 at h
    generalize e2 : er v2 = w2 at h
    generalize e3 : er v3 = w3 at h
    simp only [List.map_cons, List.map_nil, e1, e2, e3] at h
    cases w1 <;> cases w2 <;> cases w3 <;> simp [rangeOf] at h
    obtain ⟨rfl, rfl, rfl⟩ := h
    obtain ⟨t, rfl⟩ := er_int e1
    obtain ⟨u, rfl⟩ := er_int e2
    obtain ⟨v, rfl⟩ := er_int e3
    exact call_range_3 (by lia) (hQ _ _ _ _) (.inl (PyProof.noPylong_small (by omega)))
  | [], h => simp [rangeOf] at h
  | _ :: _ :: _ :: _ :: _, h => simp [rangeOf] at h

theorem simS_forR {i : Nat} {x : Str} {e : Expr} {r : List Expr} {b : List Stmt} {ca : PA} {cb : PS} {p q ipos pos : Pos} (hbn : BName c (Str.ofString "range") (.type "range")) (hA : SimA c l sc (e :: r) ca) (hb : SimB c l sc b cb) (hi : sc.names[i]? = some (x, .local))
    (hk : sc.names.lookup (Str.ofString "range") = some .globalImplicit) (hd : ((Str.ofString "range") == ("__debug__" : Str)) = false)
    (he : ∀ env, starEach (e :: r) env = (false, eval e env) :: starEach r env) (hplain : ∀ env, (backTo ipos (starEach r env)).any (·.1) = false) :
    SimS c l sc (.For (.Name x p) (.Call (.Name (Str.ofString "range") q) (e :: r) [] ipos) b [] pos) (sForR i ca cb) := by
  rintro F m H s Q rfl ok S h
  refine wpAny_For (Call_ (ld_b hbn ok S hk hd ?_))
  refine PyProof.Rows.callWith_type ?_ ?_
  · rw [he]; show (false || (backTo ipos (starEach r F.env)).any (·.1)) = false; rw [hplain]; rfl
  have hs := hA ipos F m H s _ rfl ok S h
  rw [he] at hs ⊢
  refine evalArgs_plain (wpAny_mono hs ?_ fun _ _ x => x)
  rintro vals s₁ ⟨H1, S1, e1, a, y, st, hr, hok, I, h0, step, fin⟩
  refine call_rangeOf hr hok.2.2.2.2 fun t u v tk => ?_
  refine wpAny_pyIter_range (a := a) (b := y) (c := st) (t := t) (u := u) (v := v) (Heap.get?_push_size _ rfl) (range_small hok) ?_
  rw [rangeSize_eq hok.2.2.2.2]
  have S2 : St c F m H1 (s₁.heap.push { cls := .type "range", data := .fields #[.int a t, .int y u, .int st v] }) := S1.keeps fun _ _ e => Heap.get?_push_of_some _ e
  generalize hh2 : s₁.heap.push { cls := .type "range", data := .fields #[.int a t, .int y u, .int st v] } = hp2 at S2 ⊢
  obtain ⟨fL, f0, fH, fX⟩ := S2.fresh (Nat.le_refl hp2.objs.size)
  generalize hn : rng a y st = n at step fin ⊢
  refine codeAny_forLoop (fun nn s' => ∃ k m' H', St c (F.addX [(hp2.objs.size, rIter (a + (k : Nat) * st) ((n : Int) - (k : Nat)) st)]) m' H' s'.heap ∧ Same s s' ∧ I k m' H' ∧ k ≤ n ∧ nn = n + 1 - k) ?_ (n + 1)
    ⟨0, m, H1, (S2.keeps fun _ _ e => Heap.get?_push_of_some _ e).hide (fun p hp => ?_), e1.trans .mk, h0, Nat.zero_le _, rfl⟩
  · rintro nn s₂ ⟨k, m2, H2, S3, e2, h2, hk, rfl⟩
    have it2 := (S3.nx _ (List.mem_append_left _ (List.mem_singleton.mpr rfl))).1
    by_cases hlt : k < n
    · refine wpAny_pyNext_range_item it2 (by (clear hbn hd he hplain hA hb hi ok S h hs S1 e1 hr hok h0 hh2 S2 fL f0 fH fX hn step fin S3 e2 h2 hk it2; lia)) fun h' it3 hs3 => ?_
      have S4 : St c F m2 H2 h' := S3.extX ok.ro (fun q hq p hp => by rw [List.mem_singleton.mp hp]; exact fX q hq) (fun b ob hb eb => hs3.extBut b ob (hb _ (List.mem_singleton.mpr rfl)) eb)
      have nH : H2 hp2.objs.size = none := by
        cases q : H2 hp2.objs.size with
        | none => rfl
        | some ob => exact absurd rfl ((S3.vis _ _ q).2.2.1 _ (List.mem_append_left _ (List.mem_singleton.mpr rfl)))
      have ee1 : a + ((k + 1 : Nat) : Int) * st = a + (k : Int) * st + st := by push_cast; rw [Int.add_mul, Int.one_mul, Int.add_assoc]
      have ee2 : (n : Int) - ((k + 1 : Nat) : Int) = (n : Int) - (k : Int) - 1 := by push_cast; (clear he hplain fL fX hn step fin hk hlt ee1; lia)
      have S5 : St c (F.addX [(hp2.objs.size, rIter (a + ((k + 1 : Nat) : Int) * st) ((n : Int) - ((k + 1 : Nat) : Int)) st)]) m2 H2 h' := S4.hide fun p hp => by
        rw [List.mem_singleton.mp hp, ee1, ee2]; exact ⟨it3, fL, f0, nH⟩
      refine wpAny_assign_Name (wp_store (F := F.addX _) (ok.addX _) S5 hi fun h4 S6 => ?_)
      refine wpAny_mono (hb (F.addX _) _ H2 _ _ rfl (ok.addX _) S6 (step k m2 H2 hlt h2)) ?_ fun _ _ x => x.elim
      rintro fl s₃ ⟨m3, H3, S7, e7, h7⟩
      cases fl with
      | next => exact ⟨n + 1 - (k + 1), by (clear he hplain fL fX hn step fin hk ee1 ee2; lia), k + 1, m3, H3, S7, (e2.trans .mk).trans (Same.trans .mk e7), h7, hlt, rfl⟩
      | ret v => exact ⟨m3, H3, S7.dropX, (e2.trans .mk).trans (Same.trans .mk e7), h7⟩
      | brk => exact h7.elim
      | cont => exact h7.elim
    · have hk' : k = n := by (clear he hplain fL fX hn step fin; lia)
      subst hk'
      refine wpAny_pyNext_range_end ok.hh it2 (by lia) fun h' he => wpAny_execs_nil ?_
      refine ⟨m2, H2, S3.extX ok.ro (fun q hq p hp => ?_) (fun b ob hb eb => he b ob (hb _ (List.mem_singleton.mpr rfl)) eb), e2.trans .heap, fin m2 H2 h2⟩
      rw [List.mem_singleton.mp hp]
      exact fX q hq
  · rw [List.mem_singleton.mp hp]
    refine ⟨?_, fL, f0, fH⟩
    show (hp2.push _).get? hp2.objs.size = some (rIter (a + ((0 : Nat) : Int) * st) ((n : Int) - ((0 : Nat) : Int)) st)
    rw [show a + ((0 : Nat) : Int) * st = a by simp, show (n : Int) - ((0 : Nat) : Int) = n by simp]
    exact Heap.get?_push_size _ rfl
end
end Mine
end

section
open PySem PySem.W PyProof.Rows PySem.Spec PySem.Calls
set_option linter.unusedVariables false
namespace Mine
section
variable {c : Cfg} {l : Nat} {sc : Scope}

noncomputable def enObj (it : Addr) (k : Nat) (old : Value) : Obj := { cls := .type "enumerate", dict := none, data := .fields #[.none, .bool false, .ref it, rawInt k, .none, old], slots := #[] }

/-! for over enumerate(list) -/
noncomputable def sForE (i j : Nat) (it : PE) (b : PS) : PS := fun m H Q => it m H fun v H1 => vRef v fun a => ∃ vs, H1 a = some (.list vs) ∧ ∃ I : Nat → Ev → Hp → Prop, I 0 m H1 ∧ (∀ k m' H', I k m' H' → H' a = some (.list vs)) ∧
  (∀ k v m' H', vs[k]? = some v → I k m' H' → b (updE (updE m' i (.int k)) j v) H' (LoopQ (I (k + 1)) Q)) ∧ ∀ m' H', I vs.length m' H' → Q .next m' H'
theorem simS_forE {i j : Nat} {x y : Str} {it : Expr} {b : List Stmt} {ci : PE} {cb : PS} {kk : Nat} {p p2 q tpos ipos pos : Pos} (hbn : BName c (Str.ofString "enumerate") (.type "enumerate")) (hit : SimE c l sc it ci) (hb : SimB c l sc b cb)
    (hi : sc.names[i]? = some (x, .local)) (hj : sc.names[j]? = some (y, .local)) (hk : sc.names.lookup (Str.ofString "enumerate") = some .globalImplicit) (hd : (Str.ofString "enumerate" == ("__debug__" : Str)) = false)
    (he : ∀ env, starEach [it] env = (false, eval it env) :: starEach [] env) :
    SimS c l sc (.For (.Tuple [.Name x p, .Name y p2] kk tpos) (.Call (.Name (Str.ofString "enumerate") q) [it] [] ipos) b [] pos) (sForE i j ci cb) := by
  rintro F m H s Q rfl ok S h
  refine wpAny_For (Call_ (ld_b hbn ok S hk hd ?_))
  refine PyProof.Rows.callWith_type ?_ ?_
  · rw [he]; rfl
  rw [he]
  refine evalArgs_plain (spliced_cons (wpAny_mono (hit F m H s _ rfl ok S h) ?_ fun _ _ x => x))
  rintro v s₁ ⟨H1, S1, e1, h1⟩
  have hT := vRef_inv h1
  clear h1
  obtain ⟨a, hv, vs, ha, I, h0, hI, step, fin⟩ := hT
  refine spliced_nil ?_
  obtain rfl := er_ref hv
  obtain ⟨items, ea, ra⟩ := rep_isList (S1.vis _ _ ha).1
  refine call_enumerate_list ea fun h1 hen hli hsz hk1 => ?_
  obtain ⟨fL, f0, fH, fX⟩ := S1.fresh (Nat.le_refl s₁.heap.objs.size)
  obtain ⟨gL, g0, gH, gX⟩ := S1.fresh (Nat.le_succ s₁.heap.objs.size)
  refine wpAny_pyIter_enum hen ?_
  generalize hn1 : s₁.heap.objs.size = n1 at *
  have hne : n1 + 1 ≠ n1 := Nat.succ_ne_self _
  obtain ⟨o0, ho0, hc0⟩ := id hli
  refine codeAny_forLoop_any (fun n s' => ∃ k m' H' o old, St c (F.addX [(n1, o), (n1 + 1, enObj n1 k old)]) m' H' s'.heap ∧ Same s s' ∧ s'.heap.IsListIter n1 a k ∧ I k m' H' ∧ k ≤ vs.length ∧ n = vs.length + 1 - k) ?_ (vs.length + 1)
    ⟨0, m, H1, o0, .none, (S1.keeps hk1).hide (fun p hp => ?_), e1.trans .heap, hli, h0, Nat.zero_le _, rfl⟩
  · rintro n s₂ ⟨k, m2, H2, o, old, S2, e2, it2, h2, hk, rfl⟩
    have ha2 := hI k m2 H2 h2
    obtain ⟨items2, ea2, ra2⟩ := rep_isList (S2.vis _ _ ha2).1
    have hlen : items2.length = vs.length := by rw [← ra2, List.length_map]
    have en2 : IsEnum s₂.heap (n1 + 1) n1 (k : Nat) old := (S2.nx (n1 + 1, enObj n1 k old) (List.mem_append_left _ (by simp))).1
    have mX : ∀ q ∈ F.X, ∀ p ∈ [(n1, o), (n1 + 1, enObj n1 k old)], q.1 ≠ p.1 := fun q hq p hp => by
      rcases List.mem_cons.mp hp with rfl | hp
      · exact fX q hq
      · rw [List.mem_singleton.mp hp]; exact gX q hq
    cases hx : items2[k]? with
    | none =>
      have hk' : k = vs.length := by
        have := List.getElem?_eq_none_iff.mp hx
        (clear he hI step fin hk1 hn1 hsz fL fX gL gX hne hc0 mX; lia)
      subst hk'
      refine wpAny_pyNext_enum_end ok.hh en2 it2 ea2 (by simpa using hx) fun h' he => wpAny_execs_nil ?_
      exact ⟨m2, H2, S2.extX ok.ro mX (fun b ob hb eb => he b ob (hb (n1, o) (by simp)) eb), e2.trans .heap, fin m2 H2 h2⟩
    | some w =>
      refine wpAny_pyNext_enum_item en2 it2 ea2 (x := w) (by simpa using hx) hne fun h' heo it3 ht3 hz3 hk3 => ?_
      refine wpAny_letOwnedTupleGo_enum heo fun h'' he4 hs4 => ?_
      replace hs4 : Heap.SameBut (n1 + 1) h' h'' := hs4
      have l1 : n1 < s₂.heap.objs.size := let ⟨oi, hoi, _⟩ := it2; Heap.lt_size hoi
      have l2 : n1 + 1 < s₂.heap.objs.size := Heap.lt_size en2
      have ht4 : h''.IsTuple s₂.heap.objs.size #[.int k s₂.toks, w] := ⟨_, (hs4.2 _ (Nat.ne_of_gt l2)).trans ht3, rfl, _, rfl⟩
      refine wpAny_assign_Tuple ok.hh ht4 rfl rfl fun h5 hx5 => ?_
      replace hx5 : Heap.ExtBut h''.objs.size h'' h5 := hx5
      have kp5 : ∀ b o, h''.get? b = some o → h5.get? b = some o := fun b o eb => hx5 b o (Nat.ne_of_lt (Heap.lt_size eb)) eb
      obtain ⟨o3, ho3, hc3⟩ := id it3
      have S3 : St c F m2 H2 h5 := S2.extX ok.ro mX fun b ob hb eb => kp5 _ _ (hs4.extBut b ob (hb (n1 + 1, enObj n1 k old) (by simp)) (hk3 b ob (hb (n1 + 1, enObj n1 k old) (by simp)) (hb (n1, o) (by simp)) eb))
      have ho5 : h5.get? n1 = some o3 := kp5 _ _ (hs4.extBut _ _ (Ne.symm hne) ho3)
      have he5 : h5.get? (n1 + 1) = some (enObj n1 (k + 1) w) := kp5 _ _ he4
      have nH : ∀ z, z = n1 ∨ z = n1 + 1 → H2 z = none := fun z hz => by
        cases q : H2 z with
        | none => rfl
        | some ob =>
          have := (S2.vis _ _ q).2.2.1
          rcases hz with rfl | rfl
          · exact absurd rfl (this _ (List.mem_append_left _ (List.mem_cons_self ..)))
          · exact absurd rfl (this (n1 + 1, enObj n1 k old) (List.mem_append_left _ (by simp)))
      have S4 : St c (F.addX [(n1, o3), (n1 + 1, enObj n1 (k + 1) w)]) m2 H2 h5 := S3.hide fun p hp => by
        rcases List.mem_cons.mp hp with rfl | hp
        · exact ⟨ho5, fL, f0, nH _ (.inl rfl)⟩
        · rw [List.mem_singleton.mp hp]; exact ⟨he5, gL, g0, nH _ (.inr rfl)⟩
      show wpAny _ _ (do holding [w] (assign (.Name x p) F.env (.int k s₂.toks)); do holding [] (assign (.Name y p2) F.env w); pure ()) _ _ _
      refine wpAny_bind (wpAny_holding (wpAny_assign_Name (wp_store (F := F.addX _) (ok.addX _) S4 hi fun h6 S5 => ?_)))
      refine wpAny_bind (wpAny_holding (wpAny_assign_Name (wp_store (F := F.addX _) (ok.addX _) S5 hj fun h7 S6 => wpAny_pure ?_)))
      have hvk : vs[k]? = some (er w) := by rw [← ra2, List.getElem?_map, hx]; rfl
      refine wpAny_mono (hb (F.addX _) _ H2 _ _ rfl (ok.addX _) S6 (step k _ m2 H2 hvk h2)) ?_ fun _ _ x => x.elim
      rintro fl s₃ ⟨m3, H3, S7, e7, h8⟩
      have hlt : k < vs.length := (List.getElem?_eq_some_iff.mp hvk).1
      have e8 : Same s s₃ := (e2.trans (Same.mk.trans (Same.heap.trans (Same.heap.trans (Same.mk.trans .mk))))).trans e7
      cases fl with
      | next => exact ⟨vs.length + 1 - (k + 1), by (clear he hI step fin hk1 hn1 hsz fL fX gL gX hne hc0 hk hlen mX hz3 hk3 l1 l2 kp5 hc3 nH; lia), k + 1, m3, H3, o3, w, S7, e8, ⟨o3, (S7.nx _ (List.mem_append_left _ (List.mem_cons_self ..))).1, hc3⟩, h8, hlt, rfl⟩
      | ret v => exact ⟨m3, H3, S7.dropX, e8, h8⟩
      | brk => exact h8.elim
      | cont => exact h8.elim
  · rcases List.mem_cons.mp hp with rfl | hp
    · exact ⟨ho0, fL, f0, fH⟩
    · rw [List.mem_singleton.mp hp]; exact ⟨hen, gL, g0, gH⟩
end
end Mine
end

section
open PySem PySem.W PyProof.Rows PySem.Spec PySem.Calls
set_option linter.unusedVariables false
namespace Mine

theorem lookup_zip : ∀ {names : List Str} {vals : List Value}, names.Nodup → names.length = vals.length → ∀ {i : Nat} {x : Str}, names[i]? = some x → (names.zip vals).lookup x = vals[i]?
  | [], _, _, _, i, x, h => by simp at h
  | n :: ns, [], _, hl, i, x, h => by simp at hl
  | n :: ns, v :: vs, hn, hl, 0, x, h => by
    simp at h
    subst h
    simp
  | n :: ns, v :: vs, hn, hl, i + 1, x, h => by
    rw [List.getElem?_cons_succ] at h
    rw [List.nodup_cons] at hn
    have hne : x ≠ n := fun e => hn.1 (e ▸ List.mem_of_getElem? h)
    have hb : (x == n) = false := beq_eq_false_iff_ne.mpr hne
    rw [List.zip_cons_cons, List.lookup_cons, hb, List.getElem?_cons_succ]
    exact lookup_zip hn.2 (by simpa using hl) h
theorem lookup_zip_none : ∀ {names : List Str} {vals : List Value} {x : Str}, x ∉ names → (names.zip vals).lookup x = none
  | [], _, x, _ => by simp
  | n :: ns, [], x, _ => by simp
  | n :: ns, v :: vs, x, h => by
    rw [List.mem_cons, not_or] at h
    have hb : (x == n) = false := beq_eq_false_iff_ne.mpr h.1
    rw [List.zip_cons_cons, List.lookup_cons, hb]
    exact lookup_zip_none h.2
theorem lookup_reverse {l : List (Str × Value)} (hn : (l.map (·.1)).Nodup) (x : Str) : l.reverse.lookup x = l.lookup x := by
  cases h : l.lookup x with
  | none =>
    rw [List.lookup_eq_none_iff] at h ⊢
    intro p hp
    exact h p (List.mem_reverse.mp hp)
  | some v =>
    have hm : (x, v) ∈ l := by
      clear hn
      induction l with
      | nil => simp at h
      | cons p r ih =>
        obtain ⟨a, b⟩ := p
        rw [List.lookup_cons] at h
        by_cases e : x = a
        · subst e; simp at h; subst h; exact List.mem_cons_self ..
        · rw [beq_eq_false_iff_ne.mpr e] at h
          exact List.mem_cons_of_mem _ (ih h)
    have hn' : (l.reverse.map (·.1)).Nodup := by
      rw [List.map_reverse]
      unfold List.Nodup
      rw [List.pairwise_reverse]
      exact List.Pairwise.imp (fun h => Ne.symm h) hn
    obtain ⟨i, hi⟩ := List.mem_iff_getElem?.mp (List.mem_reverse.mpr hm)
    exact lookup_at hn' hi

section
variable {c : Cfg} {l : Nat}

/-- the body's end, as the call sees it -/
noncomputable def retQ (Q : V → Hp → Prop) : Fl → Ev → Hp → Prop := fun fl _ H => match fl with
  | .next => Q .nil H
  | .ret v => Q v H
  | .off => False

noncomputable def AllArgs : Nat → (List Value → Prop) → Prop
  | 0, P => P []
  | n + 1, P => ∀ v, AllArgs n fun vs => P (v :: vs)
theorem AllArgs.to : ∀ {n : Nat} {P : List Value → Prop}, AllArgs n P → ∀ vals : List Value, vals.length = n → P vals
  | 0, P, h, [], _ => h
  | n + 1, P, h, v :: vs, hl => (h v).to vs (Nat.succ.inj hl)
structure FnAt (c : Cfg) (f : Addr) (params : Arguments) (body : List Stmt) (sc : Scope) (n : Nat) : Prop where
  at_ : ∃ name qual dV kV doc pm cdv ct oc an od osl, c.K.lookup f = some ⟨oc, od, .func (fnOf name qual params body sc dV kV doc pm an cdv ct), osl⟩ ∧ codeIn c.K cdv qual = true
    ∧ ∀ (s : Shared), AllArgs n fun vals => BindsTo s (fnOf name qual params body sc dV kV doc pm an cdv ct) ⟨vals, []⟩ (((sc.names.take n).map (·.1)).zip vals)
  le : n ≤ sc.names.length
  loc : ∀ x ∈ sc.names.take n, x.2 = .local
  nd : (sc.names.map (·.1)).Nodup
  co : sc.isCoroutine = false
  gen : sc.isGenerator = false
  kd : sc.kind = .function
  cell : ∀ x ∈ sc.names, x.2 ≠ .cell

theorem fn_ok {f : Addr} {params : Arguments} {body : List Stmt} {sc : Scope} {n : Nat} {cb : PS} (fa : FnAt c f params body sc n) (hb : SimB c l sc body cb) :
    FnOk c (l + 1) f (fun args H Q => args.length = n ∧ cb (fun i => args[i]?) H (retQ Q)) := by
  intro vals F m H s Q ok S ⟨hlen, h⟩
  rw [List.length_map] at hlen
  obtain ⟨name, qual, dV, kV, doc, pm, cdv, ct, oc, an, od, osl, hat, hcode, hbind⟩ := fa.at_
  obtain ⟨mC, fr, e⟩ := S.fr
  have hnames : ((sc.names.take n).map (·.1)).length = vals.length := by rw [List.length_map, List.length_take, Nat.min_eq_left fa.le, hlen]
  have hnd : ((sc.names.take n).map (·.1)).Nodup := by
    rw [List.map_take]
    exact fa.nd.sublist (List.take_sublist ..)
  have hloc : ∀ y ∈ ((sc.names.take n).map (·.1)).zip vals, sc.names.lookup y.1 = some .local := fun y hy => by
    have h1 := (List.of_mem_zip hy).1
    obtain ⟨p, hp, hpy⟩ := List.mem_map.mp h1
    have hp2 := List.mem_of_mem_take hp
    obtain ⟨i, hi⟩ := List.mem_iff_getElem?.mp hp2
    have hk := fa.loc p hp
    obtain ⟨a, b⟩ := p
    simp only at hpy hk
    subst hpy hk
    exact lookup_at fa.nd hi
  refine wpAny_call (code_def ok.B fr ok.X (led_news (F := F)) ok.T ok.fr rfl ok.kd hat hcode (by have := ok.dp; (clear hlen hbind e hnames hloc; lia)) ((hbind s).to vals hlen) hloc (fun g L' h₁ FG F' N' B' X' T' => ?_) fa.co fa.gen fa.kd fa.cell)
  have nL : ∀ {a : Nat} {ob : Obj}, c.hR.get? a = some ob → a ≠ L' := fun ha e => absurd (Heap.lt_size (FG.keep _ _ (ok.ro _ _ ha))) (Nat.not_lt.mpr (e ▸ F'.above))
  have nL0 : ∀ {a : Nat} {ob : Obj}, c.hR.get? a = some ob → a ≠ F.L := fun ha e => absurd (Heap.lt_size (ok.ro _ _ ha)) (Nat.not_lt.mpr (e ▸ fr.above))
  have ok' : Ok c l { A₀ := F.A, A := F.A.deeper (envOf qual sc L' f cdv), outer := F.env :: F.outer, h₀ := g, qual := qual, sc := sc, L := L', fa := f, cd := cdv, X := F.X } :=
    ⟨X', T', B', fun b o eb => FG.keep _ _ (ok.ro b o eb), Around.frames_deeper ok.fr, ok.hh, by show F.A.depth + 1 + l < recursionLimit; have := ok.dp; (clear hlen hbind e hnames hloc nL nL0; lia),
      by show F.A.units + 3 + 10 * l + 100 < cLine; have := ok.un; (clear hlen hbind e hnames hloc nL nL0; lia), fa.kd, fa.nd, fun h6 => absurd (ok.top (by (clear hlen hbind e hnames hloc nL nL0; lia))).1 (by (clear hlen hbind e hnames hloc nL nL0; lia))⟩
  have S' : St c { A₀ := F.A, A := F.A.deeper (envOf qual sc L' f cdv), outer := F.env :: F.outer, h₀ := g, qual := qual, sc := sc, L := L', fa := f, cd := cdv, X := F.X } (fun i => (vals.map er)[i]?) H h₁ := by
    refine ⟨⟨_, F', fun i x hx => ?_⟩, fun p hp => N' p (mem_led.mpr (S.nx p hp)), fun a o ho => ?_⟩
    · rw [lookup_reverse (by rw [List.map_fst_zip (Nat.le_of_eq hnames)]; exact hnd), List.getElem?_map]
      by_cases hi : i < n
      · rw [lookup_zip hnd hnames (i := i)]
        rw [List.getElem?_map, List.getElem?_take_of_lt hi, show sc.names[i]? = some (x, .local) from hx]
        rfl
      · rw [lookup_zip_none, List.getElem?_eq_none (by (clear hbind e hnames hloc nL nL0; lia))]
        intro hm
        obtain ⟨p, hp, hpx⟩ := List.mem_map.mp hm
        obtain ⟨j, hj⟩ := List.mem_iff_getElem?.mp hp
        obtain ⟨a, b⟩ := p
        simp only at hpx
        subst hpx
        have hjn : j < n := by
          have := (List.getElem?_eq_some_iff.mp hj).1
          rw [List.length_take] at this
          (clear hlen hbind e hnames hloc nL nL0 hi; lia)
        rw [List.getElem?_take_of_lt hjn] at hj
        have := nodup_at fa.nd hj hx
        (clear hlen hbind e hnames hloc nL nL0; lia)
    · obtain ⟨r, hL, hX, hw⟩ := S.vis a o ho
      by_cases hr : o.isRo = true
      · rw [if_pos hr] at hw
        obtain ⟨ob, hob⟩ := Option.isSome_iff_exists.mp hw
        refine ⟨r.at fun ob' e' => ?_, nL hob, hX, by rw [if_pos hr]; exact hw⟩
        rw [fr.keep _ _ (ok.ro _ _ hob)] at e'
        cases e'
        exact F'.keep _ _ (FG.keep _ _ (ok.ro _ _ hob))
      · rw [if_neg hr] at hw
        obtain ⟨ob, hob⟩ := r.there
        have q := N' (a, ob) (mem_led.mpr ⟨hob, hL, hw⟩)
        refine ⟨r.at fun ob' e' => ?_, q.2.1, hX, by rw [if_neg hr]; exact q.2.2⟩
        rw [hob] at e'
        cases e'
        exact q.1
  refine wpAny_mono (hb _ _ H _ (retQ Q) rfl ok' S' h) ?_ fun _ _ x => x.elim
  rintro fl s₂ ⟨m2, H2, S2, e2, h2⟩
  obtain ⟨mC2, fr2, _⟩ := S2.fr
  refine ⟨L', mC2, _, fr2, led_news (F := { A₀ := F.A, A := F.A.deeper (envOf qual sc L' f cdv), outer := F.env :: F.outer, h₀ := g, qual := qual, sc := sc, L := L', fa := f, cd := cdv, X := F.X }), fun FH NH => ?_⟩
  have S3 : St c F m H2 s₂.heap := by
    refine ⟨⟨mC, FH, e⟩, fun p hp => ⟨(S2.nx p hp).1, (S.nx p hp).2⟩, fun a o ho => ?_⟩
    obtain ⟨r, hL, hX, hw⟩ := S2.vis a o ho
    obtain ⟨oL, _, _, hoL, _⟩ := FG.ns
    by_cases hr : o.isRo = true
    · rw [if_pos hr] at hw
      obtain ⟨ob, hob⟩ := Option.isSome_iff_exists.mp hw
      exact ⟨r, nL0 hob, hX, by rw [if_pos hr]; exact hw⟩
    · rw [if_neg hr] at hw
      refine ⟨r, fun ea => ?_, hX, ?_⟩
      · rw [ea] at hw
        rw [show g.get? F.L = none from hw] at hoL
        cases hoL
      · rw [if_neg hr]
        cases q : F.h₀.get? a with
        | none => rfl
        | some ob =>
          have := FG.keep _ _ q
          rw [show g.get? a = none from hw] at this
          cases this
  have e3 : Same s s₂ := Same.trans .mk e2
  cases fl with
  | next => exact ⟨H2, S3, e3, h2⟩
  | ret v => exact ⟨H2, S3, e3, h2⟩
  | brk => exact h2.elim
  | cont => exact h2.elim

theorem FnOk.mono {f : Addr} {P P' : PF} (h : FnOk c l f P) (hp : ∀ args H Q, P' args H Q → P args H Q) : FnOk c l f P' :=
  fun vals F m H s Q ok S p => h vals F m H s Q ok S (hp _ _ _ p)
end
end Mine
end

section
open PySem PySem.W PyProof.Rows PySem.Spec PySem.Calls
set_option linter.unusedVariables false
namespace Mine

/-! comprehensions over a list of ints -/
section
variable {c : Cfg} {F : Fx} {m : Ev} {H : Hp} {h h' : Heap}
theorem St.none_free (S : St c F m H h) {r : Nat} (hr : h.get? r = none) : H r = none := by
  cases e : H r with
  | none => rfl
  | some o =>
    obtain ⟨ob, ho⟩ := (S.vis r o e).1.there
    rw [hr] at ho
    cases ho
theorem St.allocFree (S : St c F m H h) {r : Nat} {o : O} (hk : ∀ b o, h.get? b = some o → h'.get? b = some o) (hr : h.get? r = none) (R : Rep h' r o) (hn : o.isRo = false) :
    St c F m (updH H r o) h' := by
  have S' := S.keeps hk
  refine ⟨S'.fr, S'.nx, fun a o' ho => ?_⟩
  by_cases ha : a = r
  · subst ha
    rw [updH_same] at ho
    cases ho
    obtain ⟨mC, f, _⟩ := S.fr
    refine ⟨R, fun e => ?_, fun p hp e => ?_, ?_⟩
    · obtain ⟨ol, _, _, hol, _⟩ := f.ns
      rw [← e, hr] at hol
      cases hol
    · have := (S.nx p hp).1
      rw [e, hr] at this
      cases this
    · rw [hn, if_neg Bool.false_ne_true]
      cases q : F.h₀.get? a with
      | none => rfl
      | some ob => have := f.keep _ _ q; rw [hr] at this; cases this
  · rw [updH_ne _ _ ha] at ho
    exact S'.vis a o' ho
theorem St.storeFree (S : St c F m H h) (nd : (F.sc.names.map (·.1)).Nodup) {i : Nat} {x : Str} {r : Nat} {o : O} (hi : F.sc.names[i]? = some (x, .local)) {mC : Str → Option Value}
    (f : Fr F.h₀ F.L h mC) (e : ∀ i x, F.sc.names[i]? = some (x, .local) → m i = (mC x).map er) (hns : h'.Ns F.L (fun z => if z = x then some (.ref r) else mC z))
    (hk : ∀ b o, b ≠ F.L → h.get? b = some o → h'.get? b = some o) (hr : h.get? r = none) (R : Rep h' r o) (hn : o.isRo = false) : St c F (updE m i (.ref r)) (updH H r o) h' := by
  refine ⟨⟨_, ⟨hns, fun b o eb => hk b o (Nat.ne_of_lt (Nat.lt_of_lt_of_le (Heap.lt_size eb) f.above)) (f.keep b o eb), f.above⟩, fun j y hj => ?_⟩, fun p hp => ⟨hk _ _ (S.nx p hp).2.1 (S.nx p hp).1, (S.nx p hp).2⟩, fun a o' ho => ?_⟩
  · unfold updE
    by_cases hji : j = i
    · subst hji
      rw [hi] at hj
      cases hj
      simp [er]
    · rw [if_neg hji]
      have : y ≠ x := fun exy => hji (nodup_at nd (exy ▸ hj) hi)
      rw [if_neg this]
      exact e j y hj
  · by_cases ha : a = r
    · subst ha
      rw [updH_same] at ho
      cases ho
      refine ⟨R, fun e => ?_, fun p hp e => ?_, ?_⟩
      · obtain ⟨ol, _, _, hol, _⟩ := f.ns
        rw [← e, hr] at hol
        cases hol
      · have := (S.nx p hp).1
        rw [e, hr] at this
        cases this
      · rw [hn, if_neg Bool.false_ne_true]
        cases q : F.h₀.get? a with
        | none => rfl
        | some ob => have := f.keep _ _ q; rw [hr] at this; cases this
    · rw [updH_ne _ _ ha] at ho
      obtain ⟨rp, hL, q⟩ := S.vis a o' ho
      exact ⟨rp.at fun ob eo => hk a _ hL eo, hL, q⟩
end

noncomputable def EltOk (c : Cfg) (l : Nat) (sc scope : Scope) (x : Str) (elt : Expr) (ok : Int → Prop) (g : Int → Int) : Prop :=
  ∀ (F : Fx) (C : Addr) (a : Int) (t : Tok) (s : Shared) (mm : Str → Option Value) (E : Value → Shared → Prop), F.sc = sc → Ok c l F → s.heap.Ns C mm → mm x = some (.int a t) → (∀ b o, F.h₀.get? b = some o → s.heap.get? b = some o) → ok a →
    wpAny (model c.prog c.w) F.A (eval elt (compEnvC scope [] C F.env)) (fun y s' => (∃ t', y = .int (g a) t') ∧ Keeps s s') E s

noncomputable def IntP (ok : Int → Prop) (g : Int → Int) (v y : Value) : Prop := ∃ a t t', ok a ∧ v = .int a t ∧ y = .int (g a) t'
theorem paired_iv {ok : Int → Prop} {g : Int → Int} : ∀ {vs ys : List Value}, Paired (IntP ok g) vs ys → ∀ {xs : List Int}, vs.map er = iv xs → ys.map er = iv (xs.map g)
  | _, _, .nil, xs, h => by
    cases xs with
    | nil => rfl
    | cons a r => simp [iv] at h
  | _, _, .cons (a := v) (b := y) hF ht, xs, h => by
    cases xs with
    | nil => simp [iv] at h
    | cons a r =>
      simp only [iv, List.map_cons, List.cons.injEq] at h
      obtain ⟨a', t, t', _, rfl, rfl⟩ := hF
      have : a' = a := by simpa [er] using h.1
      subst this
      have := paired_iv ht (xs := r) h.2
      simp only [iv, List.map_cons, er] at this ⊢
      rw [this]
theorem filter_true {α : Type} (vs : List α) : vs.filter (fun _ => true) = vs := by simp
theorem iv_int {vs : List Value} {xs : List Int} (h : vs.map er = iv xs) {j : Nat} {v : Value} (hv : vs[j]? = some v) : ∃ a t, v = .int a t ∧ a ∈ xs := by
  have h1 : (vs.map er)[j]? = some (er v) := by rw [List.getElem?_map, hv]; rfl
  rw [h, iv, List.getElem?_map] at h1
  obtain ⟨a, ha, he⟩ := Option.map_eq_some_iff.mp h1
  obtain ⟨t, rfl⟩ := er_int he.symm
  exact ⟨a, t, rfl, List.mem_of_getElem? ha⟩

section
variable {c : Cfg} {l : Nat} {sc : Scope}
theorem walks_here {c : Cfg} {F : Fx} {hI : F.A.handled = none} {h : Heap} {a : Nat} {items : List Value} (hl : h.IsList a (List.toArray items)) :
    Walks c.prog c.w F.A h.objs.size [h.objs.size, a] [h.objs.size] (List.toArray items).size (fun i v => (List.toArray items)[i]? = some v) (fun i g => g.IsListIter h.objs.size a i ∧ g.IsList a (List.toArray items)) :=
  Walks.list hI _ _ (Nat.ne_of_lt (by obtain ⟨_, e, _⟩ := hl; exact Heap.lt_size e)) _

noncomputable def eComp (ci : PE) (ok : Int → Prop) (g : Int → Int) : PE := fun m H Q => ci m H fun v H1 => vRef v fun a => ∃ xs, H1 a = some (.list (iv xs)) ∧ xs.length ≤ 2 ^ 20 ∧ (∀ z ∈ xs, ok z) ∧ ∀ r, H1 r = none → Q (.ref r) (updH H1 r (.list (iv (xs.map g))))
theorem quiet_of {scope : Scope} {x : Str} {elt : Expr} {ok : Int → Prop} {g : Int → Int} {F : Fx} {s₁ : Shared} {a : Nat} {items : List Value} {xs : List Int} (he : EltOk c l sc scope x elt ok g) (e : F.sc = sc) (hok : Ok c l F)
    (hk0 : ∀ b o, F.h₀.get? b = some o → s₁.heap.get? b = some o) (ra : items.map er = iv xs) (hall : ∀ z ∈ xs, ok z) :
    QuietOnC c.prog c.w F.A F.env scope [] x [] elt [s₁.heap.objs.size] (fun i v => (List.toArray items)[i]? = some v) (fun _ => true) (IntP ok g) { s₁ with heap := s₁.heap.push { cls := .type "list_iterator", data := .fields #[.ref a, .int 0 0] } } := by
  refine ⟨fun C i v s₃ m₃ E' hC hP hn hm hk htk => wpAny_tests_nil ⟨rfl, _, _, rfl, fun _ _ e => e⟩, fun C i v s₃ m₃ E' hC hP hp hn hm hk htk => ?_⟩
  obtain ⟨z, t, rfl, hz⟩ := iv_int ra (j := i) (by simpa using hP)
  refine wpAny_mono (he F C z t s₃ m₃ E' e hok hn hm (fun b o eb => ?_) (hall z hz)) (fun y s₄ h₄ => ?_) fun _ _ x => x
  · have := hk0 b o eb
    exact hk b o (fun hm => by rw [List.mem_singleton.mp hm] at this; exact Nat.lt_irrefl _ (Heap.lt_size this)) (Heap.get?_push_of_some _ this)
  · obtain ⟨⟨t', rfl⟩, k⟩ := h₄
    exact ⟨⟨z, t, t', hall z hz, rfl, rfl⟩, k⟩

theorem simE_comp {elt iter : Expr} {x : Str} {px pos : Pos} {scope : Scope} {ci : PE} {ok : Int → Prop} {g : Int → Int} (hi : SimE c l sc iter ci) (he : EltOk c l sc scope x elt ok g)
    (hfree : ∀ x ∈ scope.names, x.2 ≠ .free) (hcell : ∀ y ∈ scope.names, y.2 ≠ .cell) (hkind : scope.kind = .function)
    (hnames : ∀ y ∈ scope.names, y.2 = .local → scope.names.lookup y.1 = some .local) (hx : scope.names.lookup x = some .local) (hs : ∀ env x, foldedSetIterable iter env x = pure x) :
    SimE c l sc (.ListComp elt [⟨.Name x px, iter, [], 0⟩] scope pos) (eComp ci ok g) := by
  intro F m H s Q e hok S h
  refine wpAny_ListComp_free (fun _ => true) (IntP ok g) (closureFor_none hfree) hcell hkind hnames hx (wpAny_mono (hi F m H s _ e hok S h) ?_ fun _ _ x => x) (hs _)
  rintro v s₁ ⟨H1, S1, e1, h1⟩
  have hT := vRef_inv h1
  clear h1
  obtain ⟨a, hv, xs, ha, hl, hall, hq⟩ := hT
  obtain rfl := er_ref hv
  obtain ⟨items, ea, ra⟩ := rep_isList (S1.vis _ _ ha).1
  have hlen : items.length = xs.length := by have := congrArg List.length ra; simpa [iv] using this
  obtain ⟨mC, fr, em⟩ := S1.fr
  have ha1 : a < s₁.heap.objs.size := by obtain ⟨_, e, _⟩ := ea; exact Heap.lt_size e
  refine wpAny_pyIter_list ea ⟨_, _, _, _, _, _, rfl, walks_here (hI := hok.hh) ea, by rw [List.size_toArray, sizeLine_eq]; lia, ⟨⟨_, Heap.get?_push_size _ rfl, rfl, rfl⟩, ea.push _⟩, ?_, quiet_of he e hok fr.keep ra hall, ?_⟩
  · intro b hb
    show b < (s₁.heap.push _).objs.size
    rw [Heap.size_push]
    rcases List.mem_cons.mp hb with rfl | hb
    · exact Nat.lt_succ_self _
    · rw [List.mem_singleton.mp hb]; exact Nat.lt_succ_of_lt ha1
  · intro D h' tk ys vs' hD hlD hplD hlen' hP hF hk
    have ev : vs' = items := by simpa using list_of_places hlen' hP
    subst ev
    rw [filter_true] at hF
    obtain ⟨n, hpl⟩ := hplD
    have keep : ∀ b o, s₁.heap.get? b = some o → h'.get? b = some o := fun b o eb => hk b o (fun hm => by rw [List.mem_singleton.mp hm] at eb; exact Nat.lt_irrefl _ (Heap.lt_size eb)) (Heap.get?_push_of_some _ eb)
    have hD1 : s₁.heap.get? D = none := by
      cases q : s₁.heap.get? D with
      | none => rfl
      | some ob => rw [Heap.get?_push_of_some _ q] at hD; cases hD
    exact ⟨_, S1.allocFree keep hD1 (o := .list (iv (xs.map g))) ⟨ys.toList, n, by rw [hpl], paired_iv hF ra⟩ rfl, e1.trans .mk, hq _ (S1.none_free hD1)⟩

noncomputable def sComp (i : Nat) (ci : PE) (ok : Int → Prop) (g : Int → Int) : PS := fun m H Q => ci m H fun v H1 => vRef v fun a => ∃ xs, H1 a = some (.list (iv xs)) ∧ xs.length ≤ 2 ^ 20 ∧ (∀ z ∈ xs, ok z) ∧ ∀ r, H1 r = none → Q .next (updE m i (.ref r)) (updH H1 r (.list (iv (xs.map g))))
theorem simS_comp {i : Nat} {elt iter : Expr} {x y : Str} {px py pos spos : Pos} {scope : Scope} {ci : PE} {ok : Int → Prop} {g : Int → Int} (hit : SimE c l sc iter ci) (he : EltOk c l sc scope x elt ok g)
    (hi : sc.names[i]? = some (y, .local)) (hsw : ∀ F : Fx, F.sc = sc → swapsWith (.ListComp elt [⟨.Name x px, iter, [], 0⟩] scope pos) (some (.Name y py)) spos.line F.env = pure true)
    (hfree : ∀ x ∈ scope.names, x.2 ≠ .free) (hcell : ∀ y ∈ scope.names, y.2 ≠ .cell) (hkind : scope.kind = .function)
    (hnames : ∀ y ∈ scope.names, y.2 = .local → scope.names.lookup y.1 = some .local) (hx : scope.names.lookup x = some .local) (hs : ∀ env x, foldedSetIterable iter env x = pure x) :
    SimS c l sc (.Assign [.Name y py] (.ListComp elt [⟨.Name x px, iter, [], 0⟩] scope pos) spos) (sComp i ci ok g) := by
  rintro F m H s Q rfl hok S h
  refine wpAny_Assign_ListComp_free (fun _ => true) (IntP ok g) (hsw _ rfl) (closureFor_none hfree) hcell hkind hnames hx (lookup_at hok.nd hi)
    (by show (F.sc.kind == .class || (F.sc.kind == .module && F.L != mainGlobals)) = false; rw [hok.kd]; rfl) (wpAny_mono (hit F m H s _ rfl hok S h) ?_ fun _ _ x => x) (hs _)
  rintro v s₁ ⟨H1, S1, e1, h1⟩
  have hT := vRef_inv h1
  clear h1
  obtain ⟨a, hv, xs, ha, hl, hall, hq⟩ := hT
  obtain rfl := er_ref hv
  obtain ⟨items, ea, ra⟩ := rep_isList (S1.vis _ _ ha).1
  have hlen : items.length = xs.length := by have := congrArg List.length ra; simpa [iv] using this
  obtain ⟨mC, fr, em⟩ := S1.fr
  have ha1 : a < s₁.heap.objs.size := by obtain ⟨_, e, _⟩ := ea; exact Heap.lt_size e
  refine wpAny_pyIter_list ea ⟨_, _, _, _, _, _, mC, rfl, walks_here (hI := hok.hh) ea, by rw [List.size_toArray, sizeLine_eq]; omega, ⟨⟨_, Heap.get?_push_size _ rfl, rfl, rfl⟩, ea.push _⟩, ?_, ?_, fr.ns.push _, quiet_of he rfl hok fr.keep ra hall, ?_⟩
  · intro b hb
    show b < (s₁.heap.push _).objs.size
    rw [Heap.size_push]
    rcases List.mem_cons.mp hb with rfl | hb
    · exact Nat.lt_succ_self _
    · rw [List.mem_singleton.mp hb]; exact Nat.lt_succ_of_lt ha1
  · intro hm
    have := fr.ns.lt
    rw [show F.L = _ from List.mem_singleton.mp hm] at this
    exact Nat.lt_irrefl _ this
  · intro D h' tk ys vs' hD hlD hplD hlen' hP hF hns hk
    have ev : vs' = items := by simpa using list_of_places hlen' hP
    subst ev
    rw [filter_true] at hF
    obtain ⟨n, hpl⟩ := hplD
    have keep : ∀ b o, b ≠ F.L → s₁.heap.get? b = some o → h'.get? b = some o := fun b o hb eb => hk b o hb (fun hm => by rw [List.mem_singleton.mp hm] at eb; exact Nat.lt_irrefl _ (Heap.lt_size eb)) (Heap.get?_push_of_some _ eb)
    have hD1 : s₁.heap.get? D = none := by
      cases q : s₁.heap.get? D with
      | none => rfl
      | some ob => rw [Heap.get?_push_of_some _ q] at hD; cases hD
    exact ⟨_, _, S1.storeFree hok.nd hi fr em hns keep hD1 (o := .list (iv (xs.map g))) ⟨ys.toList, n, by rw [hpl], paired_iv hF ra⟩ rfl, e1.trans .mk, hq _ (S1.none_free hD1)⟩

/-! sum, abs, int -/
noncomputable def fSum : PF
  | [.ref a], H, Q => ∃ xs, H a = some (.list (iv xs)) ∧ Q (.int xs.sum) H
  | _, _, _ => False
theorem fSum_inv {vs : List V} {H : Hp} {Q : V → Hp → Prop} (h : fSum vs H Q) : ∃ a, vs = [.ref a] ∧ ∃ xs, H a = some (.list (iv xs)) ∧ Q (.int xs.sum) H := by
  unfold fSum at h
  split at h
  · exact ⟨_, rfl, h⟩
  · exact h.elim
theorem ints_of {items : List Value} : ∀ {xs : List Int}, items.map er = iv xs → ∃ ps : List (Int × Tok), items = ps.map (fun p => .int p.1 p.2) ∧ ps.map (·.1) = xs := by
  induction items with
  | nil => intro xs h; cases xs with
    | nil => exact ⟨[], rfl, rfl⟩
    | cons a r => simp [iv] at h
  | cons v r ih => intro xs h; cases xs with
    | nil => simp [iv] at h
    | cons a q =>
      simp only [iv, List.map_cons, List.cons.injEq] at h
      obtain ⟨t, rfl⟩ := er_int h.1
      obtain ⟨ps, rfl, rfl⟩ := ih (xs := q) h.2
      exact ⟨(a, t) :: ps, rfl, rfl⟩
theorem bf_sum : BfOk c l (.builtin "sum") fSum := by
  intro vals F m H s Q ok S h
  have h2 := fSum_inv h
  clear h
  obtain ⟨a, hv, xs, ha, h⟩ := h2
  obtain ⟨x, rfl, hx⟩ := one_arg hv
  obtain rfl := er_ref hx
  obtain ⟨ia, ea, ra⟩ := rep_isList (S.vis _ _ ha).1
  obtain ⟨ps, rfl, rfl⟩ := ints_of ra
  have e : List.toArray (ps.map fun p => Value.int p.1 p.2) = intItems ps.toArray := by simp [intItems]
  rw [e] at ea
  refine sum_intListG ok.hh ea fun h' tk t' hk => ⟨H, S.keeps hk, .mk, ?_⟩
  rw [preSum_eq, List.take_of_length_le (by simp)]
  exact h

theorem call1_any {prog : Program} {w : World} {A : Around} {E : Value → Shared → Prop} {s : Shared} {env : Env} {x : Str} {v : Value} {e : Expr} {p pos : Pos} {Q : Value → Shared → Prop} (hld : wpAny (model prog w) A (eval (.Name x p) env) (fun f s₁ => f = v ∧ s₁ = s) E s) (hv : ∀ a, v ≠ .ref a)
    (he : wpAny (model prog w) A (eval e env) (fun y s₁ => wpAny (model prog w) A (call v [y]) Q E s₁) E s) (hst : starEach [e] env = (false, eval e env) :: starEach [] env) : wpAny (model prog w) A (eval (.Call (.Name x p) [e] [] pos) env) Q E s := by
  refine Call_ (wpAny_mono hld ?_ fun _ _ x => x)
  rintro f s₁ ⟨rfl, rfl⟩
  refine callWith_of (P := fun _ => True) ?_ (fun h' _ => ⟨.machine, .inr (.inl rfl), Looks.of_pure ?_⟩) ?_
  · rw [hst]; rfl
  · cases f <;> first | rfl | exact absurd rfl (hv _)
  · rw [hst]
    refine evalArgs_plain (spliced_cons (wpAny_mono he (fun y s₂ h₂ => spliced_nil ⟨trivial, h₂⟩) fun _ _ x => x))
theorem ldB_any {F : Fx} {s : Shared} {x : Str} {v : Value} {scope : Scope} {C : Addr} {p : Pos} {E : Value → Shared → Prop} (hb : BName c x v) (ok : Ok c l F) (hk0 : ∀ b o, F.h₀.get? b = some o → s.heap.get? b = some o) (hkind : scope.kind = .function)
    (hx : (relabel scope F.env).names.lookup x = some .globalImplicit) (hd : (x == ("__debug__" : Str)) = false) : wpAny (model c.prog c.w) F.A (eval (.Name x p) (compEnvC scope [] C F.env)) (fun f s₁ => f = v ∧ s₁ = s) E s := by
  have T := topRead_of ok.T
  exact Name_function_global (env := compEnvC scope [] C F.env) hkind hx (loadGlobal_builtin (env := compEnvC scope [] C F.env) (T.g.at' fun o e => hk0 _ o e) (mg_none_of ok.X T.g hb.miss) (T.b.at' fun o e => hk0 _ o e) ((T.builtins x hb.ne).trans hb.boot) ⟨rfl, rfl⟩) hd
theorem lookup_relabel_global {env : Env} {scope : Scope} {x : Str} (h : scope.names.lookup x = some .globalImplicit) : (relabel scope env).names.lookup x = some .globalImplicit := by
  show List.lookup x (List.map _ scope.names) = _
  generalize scope.names = l at h
  induction l with
  | nil => exact h
  | cons y r ih =>
    obtain ⟨n, k⟩ := y
    rw [List.map_cons]
    by_cases e : x = n
    · subst e
      rw [List.lookup_cons_self] at h
      cases h
      exact List.lookup_cons_self
    · have e' : (x == n) = false := beq_eq_false_iff_ne.mpr e
      rw [List.lookup_cons, e'] at h
      generalize hg : (k == NameKind.free && env.scope.kind == .function && env.kindOf n == some .cell) = g
      cases g <;> (simp only [hg]; rw [List.lookup_cons]; simp only [e', Bool.false_eq_true, if_true, if_false]; exact ih h)

noncomputable def absI (a : Int) : Int := if a < 0 then -a else a
theorem elt_abs {scope : Scope} {x xa xi : Str} {p1 p2 p3 p4 p5 : Pos} (ha : BName c xa (.builtin "abs")) (hn : BName c xi (.type "int")) (hkind : scope.kind = .function) (hx : scope.names.lookup x = some .local)
    (hxa : scope.names.lookup xa = some .globalImplicit) (hxi : scope.names.lookup xi = some .globalImplicit) (hd : (x == ("__debug__" : Str)) = false) (hda : (xa == ("__debug__" : Str)) = false) (hdi : (xi == ("__debug__" : Str)) = false) :
    EltOk c l sc scope x (.Call (.Name xa p1) [.Call (.Name xi p2) [.Name x p3] [] p4] [] p5) (fun _ => True) absI := by
  intro F C a t s mm E e ok hns hm hk0 _
  refine call1_any (ldB_any ha ok hk0 hkind (lookup_relabel_global hxa) hda) (fun _ h => by cases h) ?_ rfl
  refine call1_any (ldB_any hn ok hk0 hkind (lookup_relabel_global hxi) hdi) (fun _ h => by cases h) ?_ rfl
  refine wpAny_Name (wpAny_loadName_local (env := compEnvC scope [] C F.env) hkind (lookup_relabel_local hx) hns hm ?_) hd
  exact call_int_int (call_abs_int fun u tk => ⟨⟨u, rfl⟩, _, _, rfl, fun _ _ e => e⟩)
theorem elt_mod {scope : Scope} {x : Str} {n : Int} {k : Nat} {p1 p2 p3 : Pos} (h0 : n ≠ 0) (hkind : scope.kind = .function) (hx : scope.names.lookup x = some .local) (hd : (x == ("__debug__" : Str)) = false) :
    EltOk c l sc scope x (.BinOp (.Name x p1) .Mod (.Constant (.int n) k p2) p3) (fun _ => True) (fun a => a.fmod n) := by
  intro F C a t s mm E e ok hns hm hk0 _
  refine wpAny_BinOp (wpAny_Name (wpAny_loadName_local (env := compEnvC scope [] C F.env) hkind (lookup_relabel_local hx) hns hm ?_) hd)
  exact wpAny_Constant_int (mod_int' h0 ⟨⟨_, rfl⟩, _, _, rfl, fun _ _ e => e⟩)
end
end Mine
end

section
open PySem PySem.W PyProof.Rows PySem.Spec PySem.Calls
set_option linter.unusedVariables false
namespace Mine

/-! a call of a function with a try in it: the caller's ground is not held exactly, only the base and the ledger are -/
section
variable {prog : Program} {w : World} {A A₀ : Around} {s : Shared} {K : Frag} {L : Addr} {h₀ base : Heap} {m mg mb : Str → Option Value} {news : List (Addr × Obj)} {p : Program} {loose : List Str} {mean : ExcName → Option Value}
theorem enterT {env : Env} {outer : List Env} {R : Result → Shared → Prop} {name qual : Str} {params : Arguments} {body : List Stmt} {scope : Scope} {dV kV doc pm cdv ct oc : Value} {an od : Option Addr} {osl : Array (Option Value)} {f : Addr} {args : Args} {binds : List (Str × Value)}
    (B : Below A₀ base outer h₀) (F : Fr h₀ L s.heap m) (X₀ : K.In h₀) (N : News h₀ L s.heap news) (T : Top p loose mean mg mb h₀) (hA : A.frames = some (env :: outer)) (hf : env.frame = some L) (hke : env.scope.kind = .function)
    (ho : K.lookup f = some ⟨oc, od, .func (fnOf name qual params body scope dV kV doc pm an cdv ct), osl⟩) (hcd : codeIn K cdv qual = true) (hroom : A.depth < recursionLimit)
    (hbind : BindsTo s (fnOf name qual params body scope dV kV doc pm an cdv ct) args binds) (hloc : ∀ y ∈ binds, scope.names.lookup y.1 = some .local)
    (h : ∀ g L' h₁, Fr h₀ L g m → Fr g L' h₁ (fun y => binds.reverse.lookup y) → News g L' h₁ news → Below A base (env :: outer) g → K.In g → Top p loose mean mg mb g →
      wpAny (model prog w) (A.deeper (envOf qual scope L' f cdv)) (execs body (envOf qual scope L' f cdv))
        (fun fl s' => R (.ok (.ret (match fl with | .ret v => v | _ => .none))) s')
        (fun e s' => wpAny (model prog w) (A.deeper (envOf qual scope L' f cdv)) (leaving (envOf qual scope L' f cdv) e) (fun _ s'' => R (.error e) s'') (fun e' s'' => R (.error e') s'') s')
        { s with heap := h₁, toks := s.toks + binds.length })
    (hco : scope.isCoroutine = false) (hgen : scope.isGenerator = false) (hk : scope.kind = .function)
    (hcell : ∀ x ∈ scope.names, x.2 ≠ .cell) : codeAny (model prog w) A (.call (.ref f) args) R s := by
  obtain ⟨FG, BG, st, _⟩ := groundX (R := R) B F N hA hf hke
  refine codeAny_call_def (fd := fnX name qual params body scope [] dV kV doc pm an cdv ct) (body := body) (binds := binds) hroom ((X₀.keeps F.keep) _ _ ho) rfl (T.nolimit.keeps F.keep) (codeRec_of (X₀.keeps F.keep) hcd) rfl hbind hcell hloc (fun h₁ hns hk₁ => ?_) hco hgen hk
  exact h _ s.heap.objs.size h₁ FG ⟨hns, fun b o e => hk₁ b o (of_hideAll _ e), Nat.le_of_eq (hideAll_size _ _)⟩
    (fun p hp => ⟨hk₁ _ _ (N p hp).1, Nat.ne_of_lt (Heap.lt_size (N p hp).1), hideAll_none _ (List.mem_map_of_mem hp)⟩) BG (X₀.keeps st) (T.keeps st)
end
section
variable {prog : Program} {w : World} {A₀ : Around} {E : Value → Shared → Prop} {s' : Shared} {base g : Heap} {outer : List Env} {L a e t C : Addr} {m mg mb : Str → Option Value} {name : Str} {scope : Scope} {cd : Value} {news : List (Addr × Obj)}
  {b₀ : Stmt} {suite : List Stmt} {pos np : Pos} {rest : List ExceptHandler} {Q : Flow → Shared → Prop} {x : Str} {p : Program} {loose : List Str} {KF : Frag} {vs : List Value} {bmB : List Value} {newId : String}
theorem caughtT (K : A₀.frames = some outer) (F : Fr base L g m) (hsm : g.UpToSlots s'.heap) (R : RaisedK base (envOf name scope L a cd :: outer) e (.ref C) t vs news s'.heap)
    (X : KF.In base) (T : TopRead p loose mg mb base) (ex : nsIn KF mainGlobals x = some (some (.ref C))) (q : excIn KF C bmB newId = true) (hbase : bmB.contains (.type "BaseException") = true)
    (k : ∀ h', base.StaysIn h' → g.UpToSlots h' → (∀ q ∈ news, h'.get? q.1 = some q.2) →
      wpAny (model prog w) ((A₀.deeper (envOf name scope L a cd)).mark (some (.ref e))) (execs (b₀ :: suite) (envOf name scope L a cd)) Q E { s' with heap := h' })
    (hk : scope.kind = .function) (hx : (envOf name scope L a cd).kindOf x = some .globalImplicit) (hd : (x == ("__debug__" : Str)) = false)
    (hE : PassesOwnAt (model prog w) ((A₀.deeper (envOf name scope L a cd)).mark (some (.ref e))) (A₀.deeper (envOf name scope L a cd)) (envOf name scope L a cd) E) :
    wpAny (model prog w) (A₀.deeper (envOf name scope L a cd)) (noteFrame (.ref e) (envOf name scope L a cd))
      (fun _ s₂ => wpAny (model prog w) (A₀.deeper (envOf name scope L a cd)) (setFlight (.ref e) none) (fun _ s₃ =>
        wpAny (model prog w) (A₀.deeper (envOf name scope L a cd)) (handleBy (.ref e) (envOf name scope L a cd) (.ExceptHandler (some (.Name x np)) none (b₀ :: suite) pos :: rest)) Q E s₃) E s₂) E s' := by
  obtain ⟨⟨B, hB, hl, hfl, hnew⟩, htup⟩ := R
  refine wpAny_looks_onW (Around.frames_deeper K) rfl hfl fun h₄ hheld₄ hsm₄ => ?_
  refine wpAny_landsW hheld₄ fun h₅ hheld hsm₅' => ?_
  have hsm₅ := hsm₄.trans hsm₅'
  have hheld' := flyingW_base hB hheld
  have F₅ := F.of_stays hheld'.1 (hsm.trans hsm₅)
  obtain ⟨ob, hob, hobc⟩ := hheld'.there
  refine wpAny_handleBy_cons (codeAny_handlers_test (name_K F₅ X T ex ?_ hk hx hd)) (by intro q; cases q)
  obtain ⟨bm, N, nm, qn, bs, hdct, sn, sub, ab, col, dd, k0, k1, k2, k3, k5, mN, hC, hN, hni, TL⟩ := ((own_of_in X T ex q).keeps F₅.keep).obj
  refine wpAny_excMatches_sub_self hC hob hobc (TL.hasType hbase) (codeAny_handlers_suite ?_)
  refine lands_againW hheld fun h₆ hfl₆ hsm₆ => ?_
  have hfl₆' := flyingW_base hB hfl₆
  exact wpAny_passesOwnAt hE (k h₆ hfl₆'.1 ((hsm.trans hsm₅).trans hsm₆) fun q hq => hfl₆.1 _ _ (hl q hq).1)
end
end Mine
end

section
open PySem PySem.W PyProof.Rows PySem.Spec PySem.Calls
set_option linter.unusedVariables false
namespace Mine

/-! a comprehension over enumerate(list), two names -/
section
variable {prog : Program} {w : World} {A : Around} {E : Value → Shared → Prop} {s : Shared}

theorem pair_loop {elt iter : Expr} {ts : List Expr} {kk : Nat} {tp pos : Pos} {scope : Scope} {it acc : Value} {env : Env} {R : Result → Shared → Prop} (I : Nat → Shared → Prop)
    (turn : ∀ n s, I n s → wpAny (model prog w) A (pyNext it) (fun r s₁ => match r with
      | none => R (.ok .next) s₁
      | some v => ∀ E', wpAny (model prog w) A (letOwnedTupleGo (.Tuple ts kk tp) it v) (fun _ s₂ => wpAny (model prog w) A (assign (.Tuple ts kk tp) env v) (fun _ s₃ => wpAny (model prog w) A (eval elt env) (fun x s₄ =>
          wpAny (model prog w) A (call (.builtin "list.append") [acc, x]) (fun _ s₅ => ∃ m, m < n ∧ I m s₅) E' s₄) E' s₃) E' s₂) E' s₁) (notedBy (model prog w) A env fun e s' => R (.error e) s') s)
    (n : Nat) (h : I n s) : codeAny (model prog w) A (.compLoop (.ListComp elt [⟨.Tuple ts kk tp, iter, [], 0⟩] scope pos) 0 it acc env) R s := by
  refine codeAny_loop rfl I (fun n s hI => ?_) n h
  show wpAny _ A ((compTurn (.ListComp elt [⟨.Tuple ts kk tp, iter, [], 0⟩] scope pos) 0 it acc env).onRaise (fun x => do noteFrame x env; theTreesLotGoes x)) _ _ s
  refine wpAny_noted ?_
  rw [compTurn_list]
  refine wpAny_bind (wpAny_standAt (wpAny_bind (wpAny_mono (turn n s hI) (fun r s₁ h₁ => ?_) fun _ _ x => x)))
  cases r with
  | none => exact wpAny_pure h₁
  | some v =>
    refine wpAny_bind (wpAny_mono (h₁ _) (fun _ s₂ h₂ => wpAny_bind (wpAny_mono h₂ (fun _ s₃ h₃ => wpAny_bind (wpAny_tests_nil ?_)) fun _ _ x => x)) fun _ _ x => x)
    exact wpAny_bind (wpAny_bind (wpAny_mono h₃ (fun x s₄ h₄ => wpAny_bind (wpAny_mono h₄ (fun _ s₅ h₅ => wpAny_pure (wpAny_pure ⟨rfl, h₅⟩)) fun _ _ x => x)) fun _ _ x => x))

theorem comp_enum {elt iter : Expr} {xa xb : Str} {pa pb tp pos : Pos} {kk : Nat} {scope : Scope} {cl : List (Str × Addr)} {env : Env} {a : Addr} {items : List Value} {G : Nat → Value → Value → Prop} {Q : Value → Shared → Prop}
    (hh : A.handled = none) (hclos : closureFor scope env = pure cl) (hcell : ∀ y ∈ scope.names, y.2 ≠ .cell) (hkind : scope.kind = .function)
    (hnames : ∀ y ∈ scope.names, y.2 = .local → scope.names.lookup y.1 = some .local) (hxa : scope.names.lookup xa = some .local) (hxb : scope.names.lookup xb = some .local) (hab : xa ≠ xb) (hs : ∀ x, foldedSetIterable iter env x = pure x)
    (hl : s.heap.IsList a (List.toArray items)) (hlen : items.length ≤ 1000)
    (hiter : wpAny (model prog w) A (eval iter env) (fun xv s₁ => ∃ h1, xv = .ref (s.heap.objs.size + 1) ∧ s₁ = { s with heap := h1 } ∧ IsEnum h1 (s.heap.objs.size + 1) s.heap.objs.size 0 .none ∧ h1.IsListIter s.heap.objs.size a 0 ∧ h1.objs.size = s.heap.objs.size + 2 ∧
      ∀ b o, s.heap.get? b = some o → h1.get? b = some o) E s)
    (helt : ∀ k v (t : Tok) C (s' : Shared) mm (E' : Value → Shared → Prop), items[k]? = some v → (∀ b o, s.heap.get? b = some o → s'.heap.get? b = some o) → s'.heap.Ns C mm → mm xa = some (.int (k : Nat) t) → mm xb = some v →
      wpAny (model prog w) A (eval elt (compEnvC scope cl C env)) (fun y s'' => G k v y ∧ Keeps s' s'') E' s')
    (hQ : ∀ D h' tk (ys : List Value) n, s.heap.get? D = none → h'.get? D = some (listOf (List.toArray ys) n) → ys.length = items.length → (∀ k v y, items[k]? = some v → ys[k]? = some y → G k v y) → (∀ b o, s.heap.get? b = some o → h'.get? b = some o) →
      Q (.ref D) { s with heap := h', toks := tk }) :
    wpAny (model prog w) A (eval (.ListComp elt [⟨.Tuple [.Name xa pa, .Name xb pb] kk tp, iter, [], 0⟩] scope pos) env) Q E s := by
  rw [eval_ListComp]
  refine wpAny_comprehension_free (use := none) rfl hs hclos hkind hnames (wpAny_mono hiter ?_ fun _ _ e => e)
  rintro xv s₁ ⟨h1, rfl, rfl, hen, hli, hsz, hk1⟩
  refine wpAny_pyIter_enum hen ?_
  refine wpAny_newObj_type (wpAny_newFunctionEnv hcell (by intro y hy; simp at hy) (fun h2 hns2 hsb2 => ?_) hkind)
  dsimp only at hns2 hsb2 ⊢
  generalize hn1 : s.heap.objs.size = n1 at *
  generalize hp1 : h1.push { cls := .type "list", dict := none, data := .seq ([] : List Value).toArray } = H2 at hns2 hsb2 ⊢
  have hD : h1.objs.size = n1 + 2 := hsz
  have hC : H2.objs.size = n1 + 3 := by rw [← hp1, Heap.size_push, hsz]
  rw [hC] at hns2 hsb2 ⊢
  rw [hD]
  have old1 : ∀ b o, h1.get? b = some o → h2.get? b = some o := fun b o e => by
    have hb : @LT.lt Nat _ b (n1 + 2) := hsz ▸ Heap.lt_size e
    exact hsb2.extBut b o (Nat.ne_of_lt (Nat.lt_succ_of_lt hb)) (Heap.get?_push_of_some _ (hp1 ▸ Heap.get?_push_of_some _ e))
  have hacc : h2.get? (n1 + 2) = some (listOf (List.toArray ([] : List Value)) 0) := by
    have := hsb2.extBut (n1 + 2) (listOf (List.toArray ([] : List Value)) 0) (Nat.ne_of_lt (Nat.lt_succ_self _)) (Heap.get?_push_of_some _ (hp1 ▸ (by rw [← hD]; exact Heap.get?_push_size _ rfl)))
    exact this
  have old : ∀ b o, s.heap.get? b = some o → h2.get? b = some o := fun b o e => old1 b o (hk1 b o e)
  have lt : ∀ (b : Nat) o, s.heap.get? b = some o → @LT.lt Nat _ b n1 := fun b o e => hn1 ▸ Heap.lt_size e
  have loop : ∀ s₃ : Shared, s₃ = { s with heap := h2, toks := s.toks + ([] : List (Str × Value)).length } →
      codeAny (model prog w) A (.compLoop (.ListComp elt [⟨.Tuple [.Name xa pa, .Name xb pb] kk tp, iter, [], 0⟩] scope pos) 0 (.ref (n1 + 1)) (.ref (n1 + 2)) (compEnvC scope cl (n1 + 3) env))
        (compPost (model prog w) A E none Q (.ref (n1 + 2)) (n1 + 3)) s₃ := by
    rintro s₃ rfl
    refine pair_loop (fun n s' => ∃ k h' tk mm ys m old, s' = { s with heap := h', toks := tk } ∧ n = items.length + 1 - k ∧ k ≤ items.length ∧ h'.IsListIter n1 a k ∧ IsEnum h' (n1 + 1) n1 (k : Nat) old ∧ h'.get? (n1 + 2) = some (listOf (List.toArray ys) m) ∧ ys.length = k ∧
        (∀ i v y, items[i]? = some v → ys[i]? = some y → G i v y) ∧ h'.Ns (n1 + 3) mm ∧ ∀ b o, s.heap.get? b = some o → h'.get? b = some o) ?_ (items.length + 1)
      ⟨0, h2, _, _, [], 0, _, rfl, rfl, Nat.zero_le _, ?_, old1 _ _ hen, hacc, rfl, fun i v y _ hy => by simp at hy, hns2, old⟩
    · rintro n s' ⟨k, h', tk, mm, ys, m, ol, rfl, rfl, hk, it2, en2, hacc2, hys, hG, hns, kp⟩
      have ea2 : h'.IsList a (List.toArray items) := hl.at fun o e => kp _ o e
      cases hx : items[k]? with
      | none =>
        have hk' : k = items.length := by
          have := List.getElem?_eq_none_iff.mp hx
          (clear hcell hnames hab hs hlen helt hQ hk1 hn1 hsz hD hC old1 old lt hys hG kp; lia)
        subst hk'
        refine wpAny_pyNext_enum_end hh en2 it2 ea2 (by simpa using hx) fun h4 he => ?_
        refine ⟨mm, hns.at' fun o e => he _ o (by show @Ne Nat _ _; (clear hcell hnames hab hs hlen helt hQ hk1 hn1 hsz hD hC old1 old lt hG kp hk hys; lia)) e, fun h5 hs5 => ?_⟩
        have up : ∀ b o, b ≠ n1 → b ≠ n1 + 3 → h'.get? b = some o → h5.get? b = some o := fun b o b1 b3 e => hs5.extBut b o b3 (he b o b1 e)
        have hDn : s.heap.get? (n1 + 2) = none := by
          cases q : s.heap.get? (n1 + 2) with
          | none => rfl
          | some ob => have := lt _ _ q; (clear hcell hnames hab hs hlen helt hQ hk1 hn1 hsz hD hC old1 old lt hG kp hk hys up; lia)
        exact hQ (n1 + 2) h5 tk ys m hDn (up _ _ (by show @Ne Nat _ _; (clear hcell hnames hab hs hlen helt hQ hk1 hn1 hsz hD hC old1 old lt hG kp hk hys up; lia)) (by show @Ne Nat _ _; (clear hcell hnames hab hs hlen helt hQ hk1 hn1 hsz hD hC old1 old lt hG kp hk hys up; lia)) hacc2) hys hG fun b o e => up b o (by have := lt b o e; show @Ne Nat _ _; (clear hcell hnames hab hs hlen helt hQ hk1 hn1 hsz hD hC old1 old lt hG kp hk hys up; lia)) (by have := lt b o e; show @Ne Nat _ _; (clear hcell hnames hab hs hlen helt hQ hk1 hn1 hsz hD hC old1 old lt hG kp hk hys up; lia)) (kp b o e)
      | some w' =>
        have hlt : k < items.length := (List.getElem?_eq_some_iff.mp hx).1
        refine wpAny_pyNext_enum_item en2 it2 ea2 (x := w') (by simpa using hx) (by show @Ne Nat _ _; (clear hcell hnames hab hs hlen helt hQ hk1 hn1 hsz hD hC old1 old lt hk hys hG kp hlt; lia)) fun h4 heo it3 ht3 hz3 hk3 => fun E' => ?_
        refine wpAny_letOwnedTupleGo_enum heo fun h5 he5 hs5 => ?_
        replace hs5 : Heap.SameBut (n1 + 1) h4 h5 := hs5
        have l3 : @LT.lt Nat _ (n1 + 3) h'.objs.size := hns.lt
        have hne5 : @Ne Nat h'.objs.size (n1 + 1) := by (clear hcell hnames hab hs hlen helt hQ hk1 hn1 hsz hD hC old1 old lt hk hys hG kp hlt hz3 hk3; lia)
        have ht5 : h5.IsTuple h'.objs.size #[.int (k : Nat) tk, w'] := ⟨_, (hs5.2 _ hne5).trans ht3, rfl, _, rfl⟩
        refine wpAny_assign_Tuple hh ht5 rfl rfl fun h6 hx6 => ?_
        replace hx6 : Heap.ExtBut h5.objs.size h5 h6 := hx6
        have up6 : ∀ b o, b ≠ n1 → b ≠ n1 + 1 → h'.get? b = some o → h6.get? b = some o := fun b o b1 b2 e => by
          have e5 := hs5.extBut b o b2 (hk3 b o b2 b1 e)
          exact hx6 b o (Nat.ne_of_lt (Heap.lt_size e5)) e5
        have kp6 : ∀ b o, h5.get? b = some o → h6.get? b = some o := fun b o e => hx6 b o (Nat.ne_of_lt (Heap.lt_size e)) e
        have it6 : h6.IsListIter n1 a (k + 1) := by
          obtain ⟨o3, ho3, r3⟩ := it3
          exact ⟨o3, kp6 _ _ (hs5.extBut _ _ (by show @Ne Nat _ _; (clear hcell hnames hab hs hlen helt hQ hk1 hn1 hsz hD hC old1 old lt hk hys hG kp hlt hz3 hk3 l3 hne5 up6 kp6 r3; lia)) ho3), r3⟩
        have en6 : IsEnum h6 (n1 + 1) n1 ((k + 1 : Nat) : Int) w' := by
          have := kp6 _ _ he5
          exact this
        have ns6 : h6.Ns (n1 + 3) mm := hns.at' fun o e => up6 _ o (by show @Ne Nat _ _; (clear hcell hnames hab hs hlen helt hQ hk1 hn1 hsz hD hC old1 old lt hk hys hG kp hlt hz3 hk3 l3 hne5 up6 kp6; omega)) (by show @Ne Nat _ _; (clear hcell hnames hab hs hlen helt hQ hk1 hn1 hsz hD hC old1 old lt hk hys hG kp hlt hz3 hk3 l3 hne5 up6 kp6; lia)) e
        show wpAny _ _ (assignInOrder [assign (.Name xa pa) (compEnvC scope cl (n1 + 3) env), assign (.Name xb pb) (compEnvC scope cl (n1 + 3) env)] [.int (k : Nat) tk, w']) _ _ _
        refine assignInOrder_cons (wpAny_assign_Name (wpAny_storeName_local (lookup_relabel_local hxa) ns6 (fun h7 ns7 sb7 => ?_) (by simp [compEnvC, relabel, hkind])))
        refine assignInOrder_cons (wpAny_assign_Name (wpAny_storeName_local (lookup_relabel_local hxb) ns7 (fun h8 ns8 sb8 => ?_) (by simp [compEnvC, relabel, hkind])))
        refine assignInOrder_nil ?_
        replace sb7 : Heap.SameBut (n1 + 3) h6 h7 := sb7
        replace sb8 : Heap.SameBut (n1 + 3) h7 h8 := sb8
        have up8 : ∀ b o, b ≠ n1 + 3 → h6.get? b = some o → h8.get? b = some o := fun b o b3 e => sb8.extBut b o b3 (sb7.extBut b o b3 e)
        have kp8 : ∀ b o, s.heap.get? b = some o → h8.get? b = some o := fun b o e => by
          have := lt b o e
          exact up8 b o (by show @Ne Nat _ _; (clear hcell hnames hab hs hlen helt hQ hk1 hn1 hsz hD hC old1 old lt hk hys hG kp hlt hz3 hk3 l3 hne5 up6 kp6 up8; omega)) (up6 b o (by show @Ne Nat _ _; (clear hcell hnames hab hs hlen helt hQ hk1 hn1 hsz hD hC old1 old lt hk hys hG kp hlt hz3 hk3 l3 hne5 up6 kp6 up8; omega)) (by show @Ne Nat _ _; (clear hcell hnames hab hs hlen helt hQ hk1 hn1 hsz hD hC old1 old lt hk hys hG kp hlt hz3 hk3 l3 hne5 up6 kp6 up8; lia)) (kp b o e))
        refine wpAny_mono (helt k w' tk (n1 + 3) _ _ E' hx kp8 ns8 (by simp [hab]) (by simp)) ?_ fun _ _ x => x
        rintro y s₉ ⟨hy, h9, tk9, rfl, kp9⟩
        replace kp9 : ∀ b o, h8.get? b = some o → h9.get? b = some o := kp9
        have acc9 : h9.get? (n1 + 2) = some (listOf (List.toArray ys) m) := kp9 _ _ (up8 _ _ (by show @Ne Nat _ _; (clear hcell hnames hab hs hlen helt hQ hk1 hn1 hsz hD hC old1 old lt hk hys hG kp hlt hz3 hk3 l3 hne5 up6 kp6 up8 kp8 kp9; omega)) (up6 _ _ (by show @Ne Nat _ _; (clear hcell hnames hab hs hlen helt hQ hk1 hn1 hsz hD hC old1 old lt hk hys hG kp hlt hz3 hk3 l3 hne5 up6 kp6 up8 kp8 kp9; omega)) (by show @Ne Nat _ _; (clear hcell hnames hab hs hlen helt hQ hk1 hn1 hsz hD hC old1 old lt hk hys hG kp hlt hz3 hk3 l3 hne5 up6 kp6 up8 kp8 kp9; lia)) hacc2))
        refine append_at acc9 (fun h10 sb10 acc10 => ?_) (by rw [List.size_toArray, sizeLine_eq]; (clear hcell hnames hab hs helt hQ hk1 hn1 hsz hD hC old1 old lt hk hG kp hz3 hk3 l3 hne5 up6 kp6 up8 kp8 kp9; lia))
        replace sb10 : Heap.SameBut (n1 + 2) h9 h10 := sb10
        refine ⟨items.length + 1 - (k + 1), by (clear hcell hnames hab hs hlen helt hQ hk1 hn1 hsz hD hC old1 old lt hk hys hG kp hz3 hk3 l3 hne5 up6 kp6 up8 kp8 kp9; lia), k + 1, h10, tk9, _, ys ++ [y], m + 1, w', rfl, rfl, hlt, ?_, ?_, ?_, by simp [hys], fun i v z hi hz => ?_, (ns8.at' fun o e => kp9 _ o e).at' fun o e => sb10.extBut (n1 + 3) o (by show @Ne Nat _ _; (clear hcell hnames hab hs hlen helt hQ hk1 hn1 hsz hD hC old1 old lt hk hys hG kp hlt hz3 hk3 l3 hne5 up6 kp6 up8 kp8 kp9; lia)) e, fun b o e => ?_⟩
        · obtain ⟨o6, ho6, r6⟩ := it6
          exact ⟨o6, sb10.extBut _ _ (by show @Ne Nat _ _; (clear hcell hnames hab hs hlen helt hQ hk1 hn1 hsz hD hC old1 old lt hk hys hG kp hlt hz3 hk3 l3 hne5 up6 kp6 up8 kp8 kp9 r6; lia)) (kp9 _ _ (up8 _ _ (by show @Ne Nat _ _; (clear hcell hnames hab hs hlen helt hQ hk1 hn1 hsz hD hC old1 old lt hk hys hG kp hlt hz3 hk3 l3 hne5 up6 kp6 up8 kp8 kp9 r6; lia)) ho6)), r6⟩
        · exact sb10.extBut _ _ (by show @Ne Nat _ _; (clear hcell hnames hab hs hlen helt hQ hk1 hn1 hsz hD hC old1 old lt hk hys hG kp hlt hz3 hk3 l3 hne5 up6 kp6 up8 kp8 kp9; lia)) (kp9 _ _ (up8 _ _ (by show @Ne Nat _ _; (clear hcell hnames hab hs hlen helt hQ hk1 hn1 hsz hD hC old1 old lt hk hys hG kp hlt hz3 hk3 l3 hne5 up6 kp6 up8 kp8 kp9; lia)) en6))
        · rw [acc10]
          simp [PySem.W.listOf]
        · by_cases hik : i < k
          · rw [List.getElem?_append_left (by (clear hcell hnames hab hs hlen helt hQ hk1 hn1 hsz hD hC old1 old lt hk hG kp hlt hz3 hk3 l3 hne5 up6 kp6 up8 kp8 kp9; lia))] at hz
            exact hG i v z hi hz
          · have : i = k := by
              have := (List.getElem?_eq_some_iff.mp hz).1
              simp at this
              (clear hcell hnames hab hs hlen helt hQ hk1 hn1 hsz hD hC old1 old lt hk hG kp hlt hz3 hk3 l3 hne5 up6 kp6 up8 kp8 kp9; lia)
            subst this
            rw [List.getElem?_append_right (by (clear hcell hnames hab hs hlen helt hQ hk1 hn1 hsz hD hC old1 old lt hG kp hz3 hk3 l3 hne5 up6 kp6 up8 kp8 kp9 hk hlt hik; lia)), hys, Nat.sub_self] at hz
            simp at hz
            rw [hx] at hi
            cases hi
            exact hz ▸ hy
        · have := lt b o e
          exact sb10.extBut b o (by show @Ne Nat _ _; (clear hcell hnames hab hs hlen helt hQ hk1 hn1 hsz hD hC old1 old lt hk hys hG kp hlt hz3 hk3 l3 hne5 up6 kp6 up8 kp8 kp9; lia)) (kp9 b o (kp8 b o e))
    · obtain ⟨o, ho, r⟩ := hli
      exact ⟨o, old1 _ _ ho, r⟩
  exact codeAny_compStart_list (loop _ rfl) (wpAny_pyIter_enum (old1 _ _ hen) (loop _ rfl))
end
end Mine
end

section
open PySem
set_option linter.unusedVariables false
set_option linter.unusedSimpArgs false
namespace Mine

theorem oAdd_i {a b : Int} {H : Hp} {Q : V → Hp → Prop} : oAdd (.int a) (.int b) H Q = Q (.int (a + b)) H := rfl
theorem oSub_i {a b : Int} {H : Hp} {Q : V → Hp → Prop} : oSub (.int a) (.int b) H Q = Q (.int (a - b)) H := rfl
theorem oMul_i {a b : Int} {H : Hp} {Q : V → Hp → Prop} : oMul (.int a) (.int b) H Q = (Small a ∧ Small b ∧ Q (.int (a * b)) H) := rfl
theorem oFdiv_i {a b : Int} {H : Hp} {Q : V → Hp → Prop} : oFdiv (.int a) (.int b) H Q = (b ≠ 0 ∧ Small b ∧ Q (.int (a.fdiv b)) H) := rfl
theorem oMod_i {a b : Int} {H : Hp} {Q : V → Hp → Prop} : oMod (.int a) (.int b) H Q = (b ≠ 0 ∧ Q (.int (a.fmod b)) H) := rfl
theorem oShl_i {a b : Int} {H : Hp} {Q : V → Hp → Prop} : oShl (.int a) (.int b) H Q = (0 ≤ b ∧ b ≤ 1000 ∧ a.natAbs < 2 ^ 64 ∧ Q (.int (a * 2 ^ b.toNat)) H) := rfl
theorem oShr_i {a b : Int} {H : Hp} {Q : V → Hp → Prop} : oShr (.int a) (.int b) H Q = (0 ≤ b ∧ Q (.int (a.fdiv (2 ^ b.toNat))) H) := rfl
theorem oAnd_i {a b : Int} {H : Hp} {Q : V → Hp → Prop} : oAnd (.int a) (.int b) H Q = Q (.int (Builtin.bitAnd a b)) H := rfl
theorem oOr_i {a b : Int} {H : Hp} {Q : V → Hp → Prop} : oOr (.int a) (.int b) H Q = Q (.int (Builtin.bitOr a b)) H := rfl
theorem oPow_i {a b : Int} {H : Hp} {Q : V → Hp → Prop} : oPow (.int a) (.int b) H Q = (0 ≤ b ∧ b ≤ 1000 ∧ a.natAbs < 2 ^ 64 ∧ Q (.int (a ^ b.toNat)) H) := rfl
theorem oIAdd_i {a b : Int} {H : Hp} {Q : V → Hp → Prop} : oIAdd (.int a) (.int b) H Q = Q (.int (a + b)) H := rfl
theorem kLt_i {a b : Int} {H : Hp} {Q : Bool → Hp → Prop} : kLt (.int a) (.int b) H Q = Q (decide (a < b)) H := rfl
theorem kGt_i {a b : Int} {H : Hp} {Q : Bool → Hp → Prop} : kGt (.int a) (.int b) H Q = Q (decide (b < a)) H := rfl
theorem kEq_i {a b : Int} {H : Hp} {Q : Bool → Hp → Prop} : kEq (.int a) (.int b) H Q = Q (decide (a = b)) H := rfl
theorem kNe_i {a b : Int} {H : Hp} {Q : Bool → Hp → Prop} : kNe (.int a) (.int b) H Q = Q (decide (a ≠ b)) H := rfl
theorem oAdd_r {a b : Nat} {H : Hp} {Q : V → Hp → Prop} : oAdd (.ref a) (.ref b) H Q = ∃ xs ys, H a = some (.list xs) ∧ H b = some (.list ys) ∧ xs.length + ys.length ≤ 2 ^ 20 ∧ ∀ r, H r = none → Q (.ref r) (updH H r (.list (xs ++ ys))) := rfl
theorem oMul_r {a : Nat} {n : Int} {H : Hp} {Q : V → Hp → Prop} : oMul (.ref a) (.int n) H Q = ∃ x, H a = some (.list [x]) ∧ 0 ≤ n ∧ n ≤ 2 ^ 20 ∧ ∀ r, H r = none → Q (.ref r) (updH H r (.list (List.replicate n.toNat x))) := rfl
theorem fLen_r {a : Nat} {H : Hp} {Q : V → Hp → Prop} : fLen [.ref a] H Q = lenK a H Q := rfl
theorem fMin_i {a b : Int} {H : Hp} {Q : V → Hp → Prop} : fMin [.int a, .int b] H Q = Q (.int (if b < a then b else a)) H := rfl
theorem vBool_b {b : Bool} {k : Bool → Prop} : vBool (.bool b) k = k b := rfl
theorem vInt_i {i : Int} {k : Int → Prop} : vInt (.int i) k = k i := rfl
theorem vRef_r {a : Nat} {k : Nat → Prop} : vRef (.ref a) k = k a := rfl
theorem LoopQ_next {P : Ev → Hp → Prop} {Q : Fl → Ev → Hp → Prop} {m : Ev} {H : Hp} : LoopQ P Q .next m H = P m H := rfl
theorem LoopQ_ret {P : Ev → Hp → Prop} {Q : Fl → Ev → Hp → Prop} {m : Ev} {H : Hp} {v : V} : LoopQ P Q (.ret v) m H = Q (.ret v) m H := rfl
theorem retQ_next {Q : V → Hp → Prop} {m : Ev} {H : Hp} : retQ Q .next m H = Q .nil H := rfl
theorem retQ_ret {Q : V → Hp → Prop} {m : Ev} {H : Hp} {v : V} : retQ Q (.ret v) m H = Q v H := rfl

/-! reading a slot: by computation alone -/
section
variable {m : Ev} {v : V} {H : Hp} {Q : V → Hp → Prop} {a b c d e : V} {l : List V}
theorem cv0 : cVar 0 (updE m 0 v) H Q = Q v H := rfl
theorem cv0_2 : cVar 0 (updE m 2 v) H Q = cVar 0 m H Q := rfl
theorem cv0_3 : cVar 0 (updE m 3 v) H Q = cVar 0 m H Q := rfl
theorem cv0_4 : cVar 0 (updE m 4 v) H Q = cVar 0 m H Q := rfl
theorem cv0_5 : cVar 0 (updE m 5 v) H Q = cVar 0 m H Q := rfl
theorem cv0_6 : cVar 0 (updE m 6 v) H Q = cVar 0 m H Q := rfl
theorem cv0_7 : cVar 0 (updE m 7 v) H Q = cVar 0 m H Q := rfl
theorem cv0_8 : cVar 0 (updE m 8 v) H Q = cVar 0 m H Q := rfl
theorem cv0_9 : cVar 0 (updE m 9 v) H Q = cVar 0 m H Q := rfl
theorem cv0_10 : cVar 0 (updE m 10 v) H Q = cVar 0 m H Q := rfl
theorem cv1 : cVar 1 (updE m 1 v) H Q = Q v H := rfl
theorem cv1_2 : cVar 1 (updE m 2 v) H Q = cVar 1 m H Q := rfl
theorem cv1_3 : cVar 1 (updE m 3 v) H Q = cVar 1 m H Q := rfl
theorem cv1_4 : cVar 1 (updE m 4 v) H Q = cVar 1 m H Q := rfl
theorem cv1_5 : cVar 1 (updE m 5 v) H Q = cVar 1 m H Q := rfl
theorem cv1_6 : cVar 1 (updE m 6 v) H Q = cVar 1 m H Q := rfl
theorem cv1_7 : cVar 1 (updE m 7 v) H Q = cVar 1 m H Q := rfl
theorem cv1_8 : cVar 1 (updE m 8 v) H Q = cVar 1 m H Q := rfl
theorem cv1_9 : cVar 1 (updE m 9 v) H Q = cVar 1 m H Q := rfl
theorem cv1_10 : cVar 1 (updE m 10 v) H Q = cVar 1 m H Q := rfl
theorem cv2 : cVar 2 (updE m 2 v) H Q = Q v H := rfl
theorem cv2_3 : cVar 2 (updE m 3 v) H Q = cVar 2 m H Q := rfl
theorem cv2_4 : cVar 2 (updE m 4 v) H Q = cVar 2 m H Q := rfl
theorem cv2_5 : cVar 2 (updE m 5 v) H Q = cVar 2 m H Q := rfl
theorem cv2_6 : cVar 2 (updE m 6 v) H Q = cVar 2 m H Q := rfl
theorem cv2_7 : cVar 2 (updE m 7 v) H Q = cVar 2 m H Q := rfl
theorem cv2_8 : cVar 2 (updE m 8 v) H Q = cVar 2 m H Q := rfl
theorem cv2_9 : cVar 2 (updE m 9 v) H Q = cVar 2 m H Q := rfl
theorem cv2_10 : cVar 2 (updE m 10 v) H Q = cVar 2 m H Q := rfl
theorem cv3 : cVar 3 (updE m 3 v) H Q = Q v H := rfl
theorem cv3_2 : cVar 3 (updE m 2 v) H Q = cVar 3 m H Q := rfl
theorem cv3_4 : cVar 3 (updE m 4 v) H Q = cVar 3 m H Q := rfl
theorem cv3_5 : cVar 3 (updE m 5 v) H Q = cVar 3 m H Q := rfl
theorem cv3_6 : cVar 3 (updE m 6 v) H Q = cVar 3 m H Q := rfl
theorem cv3_7 : cVar 3 (updE m 7 v) H Q = cVar 3 m H Q := rfl
theorem cv3_8 : cVar 3 (updE m 8 v) H Q = cVar 3 m H Q := rfl
theorem cv3_9 : cVar 3 (updE m 9 v) H Q = cVar 3 m H Q := rfl
theorem cv3_10 : cVar 3 (updE m 10 v) H Q = cVar 3 m H Q := rfl
theorem cv4 : cVar 4 (updE m 4 v) H Q = Q v H := rfl
theorem cv4_2 : cVar 4 (updE m 2 v) H Q = cVar 4 m H Q := rfl
theorem cv4_3 : cVar 4 (updE m 3 v) H Q = cVar 4 m H Q := rfl
theorem cv4_5 : cVar 4 (updE m 5 v) H Q = cVar 4 m H Q := rfl
theorem cv4_6 : cVar 4 (updE m 6 v) H Q = cVar 4 m H Q := rfl
theorem cv4_7 : cVar 4 (updE m 7 v) H Q = cVar 4 m H Q := rfl
theorem cv4_8 : cVar 4 (updE m 8 v) H Q = cVar 4 m H Q := rfl
theorem cv4_9 : cVar 4 (updE m 9 v) H Q = cVar 4 m H Q := rfl
theorem cv4_10 : cVar 4 (updE m 10 v) H Q = cVar 4 m H Q := rfl
theorem cv5 : cVar 5 (updE m 5 v) H Q = Q v H := rfl
theorem cv5_2 : cVar 5 (updE m 2 v) H Q = cVar 5 m H Q := rfl
theorem cv5_3 : cVar 5 (updE m 3 v) H Q = cVar 5 m H Q := rfl
theorem cv5_4 : cVar 5 (updE m 4 v) H Q = cVar 5 m H Q := rfl
theorem cv5_6 : cVar 5 (updE m 6 v) H Q = cVar 5 m H Q := rfl
theorem cv5_7 : cVar 5 (updE m 7 v) H Q = cVar 5 m H Q := rfl
theorem cv5_8 : cVar 5 (updE m 8 v) H Q = cVar 5 m H Q := rfl
theorem cv5_9 : cVar 5 (updE m 9 v) H Q = cVar 5 m H Q := rfl
theorem cv5_10 : cVar 5 (updE m 10 v) H Q = cVar 5 m H Q := rfl
theorem cv6 : cVar 6 (updE m 6 v) H Q = Q v H := rfl
theorem cv6_2 : cVar 6 (updE m 2 v) H Q = cVar 6 m H Q := rfl
theorem cv6_3 : cVar 6 (updE m 3 v) H Q = cVar 6 m H Q := rfl
theorem cv6_4 : cVar 6 (updE m 4 v) H Q = cVar 6 m H Q := rfl
theorem cv6_5 : cVar 6 (updE m 5 v) H Q = cVar 6 m H Q := rfl
theorem cv6_7 : cVar 6 (updE m 7 v) H Q = cVar 6 m H Q := rfl
theorem cv6_8 : cVar 6 (updE m 8 v) H Q = cVar 6 m H Q := rfl
theorem cv6_9 : cVar 6 (updE m 9 v) H Q = cVar 6 m H Q := rfl
theorem cv6_10 : cVar 6 (updE m 10 v) H Q = cVar 6 m H Q := rfl
theorem cv7 : cVar 7 (updE m 7 v) H Q = Q v H := rfl
theorem cv7_2 : cVar 7 (updE m 2 v) H Q = cVar 7 m H Q := rfl
theorem cv7_3 : cVar 7 (updE m 3 v) H Q = cVar 7 m H Q := rfl
theorem cv7_4 : cVar 7 (updE m 4 v) H Q = cVar 7 m H Q := rfl
theorem cv7_5 : cVar 7 (updE m 5 v) H Q = cVar 7 m H Q := rfl
theorem cv7_6 : cVar 7 (updE m 6 v) H Q = cVar 7 m H Q := rfl
theorem cv7_8 : cVar 7 (updE m 8 v) H Q = cVar 7 m H Q := rfl
theorem cv7_9 : cVar 7 (updE m 9 v) H Q = cVar 7 m H Q := rfl
theorem cv7_10 : cVar 7 (updE m 10 v) H Q = cVar 7 m H Q := rfl
theorem cv8 : cVar 8 (updE m 8 v) H Q = Q v H := rfl
theorem cv8_2 : cVar 8 (updE m 2 v) H Q = cVar 8 m H Q := rfl
theorem cv8_3 : cVar 8 (updE m 3 v) H Q = cVar 8 m H Q := rfl
theorem cv8_4 : cVar 8 (updE m 4 v) H Q = cVar 8 m H Q := rfl
theorem cv8_5 : cVar 8 (updE m 5 v) H Q = cVar 8 m H Q := rfl
theorem cv8_6 : cVar 8 (updE m 6 v) H Q = cVar 8 m H Q := rfl
theorem cv8_7 : cVar 8 (updE m 7 v) H Q = cVar 8 m H Q := rfl
theorem cv8_9 : cVar 8 (updE m 9 v) H Q = cVar 8 m H Q := rfl
theorem cv8_10 : cVar 8 (updE m 10 v) H Q = cVar 8 m H Q := rfl
theorem cv9 : cVar 9 (updE m 9 v) H Q = Q v H := rfl
theorem cv9_2 : cVar 9 (updE m 2 v) H Q = cVar 9 m H Q := rfl
theorem cv9_3 : cVar 9 (updE m 3 v) H Q = cVar 9 m H Q := rfl
theorem cv9_4 : cVar 9 (updE m 4 v) H Q = cVar 9 m H Q := rfl
theorem cv9_5 : cVar 9 (updE m 5 v) H Q = cVar 9 m H Q := rfl
theorem cv9_6 : cVar 9 (updE m 6 v) H Q = cVar 9 m H Q := rfl
theorem cv9_7 : cVar 9 (updE m 7 v) H Q = cVar 9 m H Q := rfl
theorem cv9_8 : cVar 9 (updE m 8 v) H Q = cVar 9 m H Q := rfl
theorem cv9_10 : cVar 9 (updE m 10 v) H Q = cVar 9 m H Q := rfl
theorem cv10 : cVar 10 (updE m 10 v) H Q = Q v H := rfl
theorem cv10_2 : cVar 10 (updE m 2 v) H Q = cVar 10 m H Q := rfl
theorem cv10_3 : cVar 10 (updE m 3 v) H Q = cVar 10 m H Q := rfl
theorem cv10_4 : cVar 10 (updE m 4 v) H Q = cVar 10 m H Q := rfl
theorem cv10_5 : cVar 10 (updE m 5 v) H Q = cVar 10 m H Q := rfl
theorem cv10_6 : cVar 10 (updE m 6 v) H Q = cVar 10 m H Q := rfl
theorem cv10_7 : cVar 10 (updE m 7 v) H Q = cVar 10 m H Q := rfl
theorem cv10_8 : cVar 10 (updE m 8 v) H Q = cVar 10 m H Q := rfl
theorem cv10_9 : cVar 10 (updE m 9 v) H Q = cVar 10 m H Q := rfl
theorem cv1_0 : cVar 1 (updE m 0 v) H Q = cVar 1 m H Q := rfl
theorem cv2_0 : cVar 2 (updE m 0 v) H Q = cVar 2 m H Q := rfl
theorem cv0_1 : cVar 0 (updE m 1 v) H Q = cVar 0 m H Q := rfl
theorem cv2_1 : cVar 2 (updE m 1 v) H Q = cVar 2 m H Q := rfl
theorem cv3_1 : cVar 3 (updE m 1 v) H Q = cVar 3 m H Q := rfl
theorem cv4_1 : cVar 4 (updE m 1 v) H Q = cVar 4 m H Q := rfl
theorem cv5_1 : cVar 5 (updE m 1 v) H Q = cVar 5 m H Q := rfl
theorem cv6_1 : cVar 6 (updE m 1 v) H Q = cVar 6 m H Q := rfl
theorem cv7_1 : cVar 7 (updE m 1 v) H Q = cVar 7 m H Q := rfl
theorem cv8_1 : cVar 8 (updE m 1 v) H Q = cVar 8 m H Q := rfl
theorem cv9_1 : cVar 9 (updE m 1 v) H Q = cVar 9 m H Q := rfl
theorem cv10_1 : cVar 10 (updE m 1 v) H Q = cVar 10 m H Q := rfl
theorem cvl0 : cVar 0 (fun i => (a :: l)[i]?) H Q = Q a H := rfl
theorem cvl1 : cVar 1 (fun i => (a :: b :: l)[i]?) H Q = Q b H := rfl
theorem cvl2 : cVar 2 (fun i => (a :: b :: c :: l)[i]?) H Q = Q c H := rfl
theorem cvl3 : cVar 3 (fun i => (a :: b :: c :: d :: l)[i]?) H Q = Q d H := rfl
theorem cvl4 : cVar 4 (fun i => (a :: b :: c :: d :: e :: l)[i]?) H Q = Q e H := rfl
end

theorem head_of {f g : PS} (e : f = g) {m : Ev} {H : Hp} {Q : Fl → Ev → Hp → Prop} (h : g m H Q) : f m H Q := e ▸ h

theorem loop_hide {b : PS} {m : Ev} {H : Hp} {I : Ev → Hp → Prop} {Q : Fl → Ev → Hp → Prop} (h : ∀ P : Ev → Hp → Prop, (∀ m' H', I m' H' → P m' H') → b m H (LoopQ P Q)) : b m H (LoopQ I Q) := h I fun _ _ x => x
theorem while_hide {t : PB} {b : PS} {m : Ev} {H : Hp} {Q : Fl → Ev → Hp → Prop} (I : Nat → Ev → Hp → Prop) (h0 : ∃ n, I n m H)
    (hs : ∀ n m' H', I n m' H' → ∀ P : Ev → Hp → Prop, (∀ n' m2 H2, n' < n → I n' m2 H2 → P m2 H2) → t m' H' fun x H1 => if x then b m' H1 (LoopQ P Q) else Q .next m' H1) : sWhile t b m H Q :=
  ⟨I, h0, fun n m' H' hI => hs n m' H' hI _ fun n' m2 H2 hlt h => ⟨n', hlt, h⟩⟩

noncomputable def Ext (H H' : Hp) : Prop := ∀ b o, H b = some o → H' b = some o
theorem Ext.refl (H : Hp) : Ext H H := fun _ _ h => h
theorem Ext.trans {H H' H'' : Hp} (a : Ext H H') (b : Ext H' H'') : Ext H H'' := fun x o h => b x o (a x o h)
theorem Ext.upd {H : Hp} {r : Nat} {o : O} (h : H r = none) : Ext H (updH H r o) := fun b o' hb => by
  rw [updH_ne]
  · exact hb
  · rintro rfl; rw [h] at hb; cases hb

theorem iv_length (xs : List Int) : (iv xs).length = xs.length := by simp [iv]
theorem iv_get {xs : List Int} {k : Nat} (h : k < xs.length) : (iv xs)[k]? = some (.int (xs.getD k 0)) := by simp [iv, h]

theorem len_iv {a : Nat} {H : Hp} {xs : List Int} {Q : V → Hp → Prop} (ha : H a = some (.list (iv xs))) (hl : xs.length ≤ 2 ^ 20) (h : Q (.int xs.length) H) : lenK a H Q :=
  ⟨_, ha, by rw [iv_length]; exact hl, by rw [iv_length]; exact h⟩
theorem idx_iv {a : Nat} {n : Int} {H : Hp} {xs : List Int} {Q : V → Hp → Prop} (ha : H a = some (.list (iv xs))) (h0 : 0 ≤ n) (h1 : n < xs.length) (hl : xs.length ≤ 2 ^ 20) (h : Q (.int (xs.getD n.toNat 0)) H) : idxK a n H Q :=
  ⟨_, _, ha, .inl ⟨h0, by lia, iv_get (by (clear hl; lia))⟩, h⟩
theorem cut_iv {xs : List Int} {p q : Option Nat} : cut (iv xs) p q = iv (match p, q with
    | none, none => xs
    | some a, none => xs.drop a
    | none, some b => xs.take b
    | some a, some b => (xs.drop a).take (b - a)) := by
  cases p <;> cases q <;> simp [cut, iv, List.map_take, List.map_drop]
theorem cut_take {a : Nat} {n : Nat} {H : Hp} {xs : List Int} {Q : V → Hp → Prop} (ha : H a = some (.list (iv xs))) (hl : xs.length ≤ 2 ^ 20) (h : ∀ t, H t = none → Q (.ref t) (updH H t (.list (iv (xs.take n))))) : cutK a none (some n) H Q :=
  ⟨_, ha, by rw [iv_length]; exact hl, fun _ _ h => (nomatch h), fun t ht => by rw [cut_iv]; exact h t ht⟩
theorem cut_drop {a : Nat} {n : Nat} {H : Hp} {xs : List Int} {Q : V → Hp → Prop} (ha : H a = some (.list (iv xs))) (hl : xs.length ≤ 2 ^ 20) (h : ∀ t, H t = none → Q (.ref t) (updH H t (.list (iv (xs.drop n))))) : cutK a (some n) none H Q :=
  ⟨_, ha, by rw [iv_length]; exact hl, fun _ _ _ h => (nomatch h), fun t ht => by rw [cut_iv]; exact h t ht⟩
theorem cut_all {a : Nat} {H : Hp} {xs : List Int} {Q : V → Hp → Prop} (ha : H a = some (.list (iv xs))) (hl : xs.length ≤ 2 ^ 20) (h : ∀ t, H t = none → Q (.ref t) (updH H t (.list (iv xs)))) : cutK a none none H Q :=
  ⟨_, ha, by rw [iv_length]; exact hl, fun _ _ h => (nomatch h), fun t ht => by rw [cut_iv]; exact h t ht⟩
theorem cut_mid {a : Nat} {n k : Nat} {H : Hp} {xs : List Int} {Q : V → Hp → Prop} (ha : H a = some (.list (iv xs))) (hl : xs.length ≤ 2 ^ 20) (h1 : n ≤ k) (h2 : k ≤ xs.length) (h : ∀ t, H t = none → Q (.ref t) (updH H t (.list (iv ((xs.drop n).take (k - n)))))) : cutK a (some n) (some k) H Q :=
  ⟨_, ha, by rw [iv_length]; exact hl, fun _ _ e e' => by cases e; cases e'; rw [iv_length]; exact ⟨h1, h2⟩, fun t ht => by rw [cut_iv]; exact h t ht⟩
theorem app_iv {a : Nat} {z : Int} {H : Hp} {xs : List Int} {Q : Hp → Prop} (ha : H a = some (.list (iv xs))) (hl : xs.length ≤ 2 ^ 20) (h : Q (updH H a (.list (iv (xs ++ [z]))))) : appK a (.int z) H Q :=
  ⟨_, ha, by rw [iv_length]; exact hl, by simpa [iv] using h⟩
theorem isL_iv {a : Nat} {H : Hp} {vs : List V} (ha : H a = some (.list vs)) : isL a H := ⟨_, ha⟩
theorem set_iv {a : Nat} {n z : Int} {H : Hp} {xs : List Int} {Q : Hp → Prop} (ha : H a = some (.list (iv xs))) (h0 : 0 ≤ n) (h1 : n < xs.length) (hl : xs.length ≤ 2 ^ 20) (h : Q (updH H a (.list (iv (xs.set n.toNat z))))) : setK a n (.int z) H Q :=
  ⟨_, ha, h0, by rw [iv_length]; exact h1, by lia, by simpa [iv, List.map_set] using h⟩

/-- ys is xs without its last noughts -/
noncomputable def Norm (ys : List Int) : Prop := ys.getLast? ≠ some 0
noncomputable def Strip (xs ys : List Int) : Prop := Norm ys ∧ ∃ k, xs = ys ++ List.replicate k 0

noncomputable def P_normal : PF := fun args H Q => ∃ a xs, args = [.ref a] ∧ H a = some (.list (iv xs)) ∧ xs.length ≤ 2 ^ 20 ∧
  ∀ r H' ys, Strip xs ys → Ext H H' → H r = none → H' r = some (.list (iv ys)) → Q (.ref r) H'

noncomputable def t_normal_1b_0 : PS := (sCons (sAug 1 oSub (cInt 1)) sNil)
noncomputable def t_normal_2 : PS := (sCons (sRet (eSlice (cVar 0) pNone (pSome (cVar 1)))) sNil)
noncomputable def t_normal_1 : PS := (sCons (sWhile (tAnd (tCmp kGt (cVar 1) (cInt 0)) (tAnd (tCmp kEq (eIdx (cVar 0) (cBin oSub (cVar 1) (cInt 1))) (cInt 0)) tAndNil)) t_normal_1b_0) t_normal_2)
noncomputable def ps_normal : PS := (sCons (sAssign 1 (eCall fLen (aCons (cVar 0) aNil))) t_normal_1)

theorem strip_of {xs : List Int} {n : Nat} (hn : n ≤ xs.length) (h : ∀ j, n ≤ j → j < xs.length → xs.getD j 0 = 0) (hl : 0 < n → xs.getD (n - 1) 0 ≠ 0) : Strip xs (xs.take n) := by
  refine ⟨?_, xs.length - n, ?_⟩
  · unfold Norm
    rw [List.getLast?_eq_getElem?, List.length_take, Nat.min_eq_left hn]
    by_cases h0 : 0 < n
    · rw [List.getElem?_take_of_lt (by omega)]
      have := hl h0
      rw [List.getD_eq_getElem?_getD, List.getElem?_eq_getElem (by omega)] at this
      rw [List.getElem?_eq_getElem (by omega)]
      intro e
      exact this (by simpa using e)
    · have : n = 0 := by lia
      subst this
      simp
  · apply List.ext_getElem
    · simp; lia
    · intro i h1 h2
      by_cases hi : i < n
      · rw [List.getElem_append_left (by simp; (clear h hl h1 h2; lia))]
        simp
      · rw [List.getElem_append_right (by simp; (clear h hl h1 h2; lia))]
        simp only [List.getElem_replicate]
        have := h i (by (clear hn h hl h1 h2; lia)) h1
        rw [List.getD_eq_getElem?_getD, List.getElem?_eq_getElem h1] at this
        simpa using this

theorem pu_normal (args : List V) (H : Hp) (Q : V → Hp → Prop) (h : P_normal args H Q) : args.length = 1 ∧ ps_normal (fun i => args[i]?) H (retQ Q) := by
  obtain ⟨a, xs, rfl, ha, hl, hQ⟩ := h
  refine ⟨rfl, ?_⟩
  (repeat (first | dsimp only [sCons, sNil, sAssign, sAug, sRet, eCall, aNil, aCons, cInt, cBin, eIdx, eSlice, tCmp, tAnd, tAndNil, pNone, pSome, oSub_i, kGt_i, kEq_i, fLen_r, vBool_b, vInt_i, vRef_r, LoopQ_next, LoopQ_ret, retQ_next, retQ_ret, cv0_1, cvl0, cv1, cvl1, ps_normal] | simp only [reduceIte, if_true, if_false, Bool.false_eq_true, reduceCtorEq] | with_reducible refine head_of t_normal_1b_0.eq_1 ?_ | with_reducible refine head_of t_normal_2.eq_1 ?_ | with_reducible refine head_of t_normal_1.eq_1 ?_))
  refine len_iv ha hl ?_
  (repeat (first | dsimp only [sCons, sNil, sAssign, sAug, sRet, eCall, aNil, aCons, cInt, cBin, eIdx, eSlice, tCmp, tAnd, tAndNil, pNone, pSome, oSub_i, kGt_i, kEq_i, fLen_r, vBool_b, vInt_i, vRef_r, LoopQ_next, LoopQ_ret, retQ_next, retQ_ret, cv0_1, cvl0, cv1, cvl1] | simp only [reduceIte, if_true, if_false, Bool.false_eq_true, reduceCtorEq] | with_reducible refine head_of t_normal_1b_0.eq_1 ?_ | with_reducible refine head_of t_normal_2.eq_1 ?_ | with_reducible refine head_of t_normal_1.eq_1 ?_))
  refine while_hide (fun n m H' => H' = H ∧ m 0 = some (.ref a) ∧ m 1 = some (.int n) ∧ n ≤ xs.length ∧ ∀ j, n ≤ j → j < xs.length → xs.getD j 0 = 0) ⟨xs.length, rfl, rfl, rfl, Nat.le_refl _, fun j h1 h2 => by lia⟩ ?_
  rintro n m H' ⟨rfl, m0, m1, hn, hz⟩ P hP
  have fin : (0 < n → xs.getD (n - 1) 0 ≠ 0) → cutK a none (some (Int.toNat (n : Int))) H' Q := fun hlast =>
    cut_take ha hl fun t ht => hQ t _ _ (strip_of hn hz hlast) (Ext.upd ht) ht (updH_same ..)
  (repeat (first | dsimp only [sCons, sNil, sAssign, sAug, sRet, eCall, aNil, aCons, cInt, cBin, eIdx, eSlice, tCmp, tAnd, tAndNil, pNone, pSome, oSub_i, kGt_i, kEq_i, fLen_r, vBool_b, vInt_i, vRef_r, LoopQ_next, LoopQ_ret, retQ_next, retQ_ret, cv0_1, cvl0, cv1, cvl1] | simp only [reduceIte, if_true, if_false, Bool.false_eq_true, reduceCtorEq, cVar_at m0, cVar_at m1] | with_reducible refine head_of t_normal_1b_0.eq_1 ?_ | with_reducible refine head_of t_normal_2.eq_1 ?_ | with_reducible refine head_of t_normal_1.eq_1 ?_))
  by_cases h0 : 0 < n
  · rw [show decide ((0 : Int) < n) = true from decide_eq_true (by (clear hl hQ hn hz hP fin; lia))]
    (repeat (first | dsimp only [sCons, sNil, sAssign, sAug, sRet, eCall, aNil, aCons, cInt, cBin, eIdx, eSlice, tCmp, tAnd, tAndNil, pNone, pSome, oSub_i, kGt_i, kEq_i, fLen_r, vBool_b, vInt_i, vRef_r, LoopQ_next, LoopQ_ret, retQ_next, retQ_ret, cv0_1, cvl0, cv1, cvl1] | simp only [reduceIte, if_true, if_false, Bool.false_eq_true, reduceCtorEq] | with_reducible refine head_of t_normal_1b_0.eq_1 ?_ | with_reducible refine head_of t_normal_2.eq_1 ?_ | with_reducible refine head_of t_normal_1.eq_1 ?_))
    refine idx_iv ha (by lia) (by lia) hl ?_
    rw [show ((n : Int) - 1).toNat = n - 1 by (clear hl hQ hn hz hP fin h0; lia)]
    by_cases h1 : xs.getD (n - 1) 0 = 0
    · (repeat (first | dsimp only [sCons, sNil, sAssign, sAug, sRet, eCall, aNil, aCons, cInt, cBin, eIdx, eSlice, tCmp, tAnd, tAndNil, pNone, pSome, oSub_i, kGt_i, kEq_i, fLen_r, vBool_b, vInt_i, vRef_r, LoopQ_next, LoopQ_ret, retQ_next, retQ_ret, cv0_1, cvl0, cv1, cvl1] | simp only [reduceIte, if_true, if_false, Bool.false_eq_true, reduceCtorEq, h1, decide_true, cVar_at m0, cVar_at m1] | with_reducible refine head_of t_normal_1b_0.eq_1 ?_ | with_reducible refine head_of t_normal_2.eq_1 ?_ | with_reducible refine head_of t_normal_1.eq_1 ?_))
      refine hP (n - 1) _ _ (by (clear hl hQ hn hz hP fin h1; omega)) ⟨rfl, m0, by simp [updE]; (clear hl hQ hn hz hP fin h1; lia), by lia, fun j hj1 hj2 => ?_⟩
      by_cases hj : j = n - 1
      · rw [hj]; exact h1
      · exact hz j (by (clear hl hQ hn hz hP fin h1 hj2; lia)) hj2
    · (repeat (first | dsimp only [sCons, sNil, sAssign, sAug, sRet, eCall, aNil, aCons, cInt, cBin, eIdx, eSlice, tCmp, tAnd, tAndNil, pNone, pSome, oSub_i, kGt_i, kEq_i, fLen_r, vBool_b, vInt_i, vRef_r, LoopQ_next, LoopQ_ret, retQ_next, retQ_ret, cv0_1, cvl0, cv1, cvl1] | simp only [reduceIte, if_true, if_false, Bool.false_eq_true, reduceCtorEq, h1, decide_false, cVar_at m0, cVar_at m1] | with_reducible refine head_of t_normal_1b_0.eq_1 ?_ | with_reducible refine head_of t_normal_2.eq_1 ?_ | with_reducible refine head_of t_normal_1.eq_1 ?_))
      exact ⟨by (with_reducible exact Int.natCast_nonneg _), fin fun _ => h1⟩
  · rw [show decide ((0 : Int) < n) = false from decide_eq_false (by lia)]
    (repeat (first | dsimp only [sCons, sNil, sAssign, sAug, sRet, eCall, aNil, aCons, cInt, cBin, eIdx, eSlice, tCmp, tAnd, tAndNil, pNone, pSome, oSub_i, kGt_i, kEq_i, fLen_r, vBool_b, vInt_i, vRef_r, LoopQ_next, LoopQ_ret, retQ_next, retQ_ret, cv0_1, cvl0, cv1, cvl1] | simp only [reduceIte, if_true, if_false, Bool.false_eq_true, reduceCtorEq, cVar_at m0, cVar_at m1] | with_reducible refine head_of t_normal_1b_0.eq_1 ?_ | with_reducible refine head_of t_normal_2.eq_1 ?_ | with_reducible refine head_of t_normal_1.eq_1 ?_))
    exact ⟨by (with_reducible exact Int.natCast_nonneg _), fin fun h => absurd h h0⟩
end Mine
end

section
set_option linter.unusedVariables false
set_option linter.unusedSimpArgs false
open PySem
namespace Mine

/-! rows of limbs -/
noncomputable def val (B : Int) : List Int → Int
  | [] => 0
  | d :: r => d + B * val B r
noncomputable def Dig (B : Int) (xs : List Int) : Prop := ∀ d ∈ xs, 0 ≤ d ∧ d < B
structure IsRow (B n : Int) (xs : List Int) : Prop where
  dig : Dig B xs
  norm : Norm xs
  eq : val B xs = n

section
variable {B : Int}
theorem Dig.nil : Dig B [] := fun _ h => by simp at h
theorem Dig.cons {d : Int} {r : List Int} (h0 : 0 ≤ d) (h1 : d < B) (h : Dig B r) : Dig B (d :: r) := fun x hx => by
  rcases List.mem_cons.mp hx with rfl | hx
  · exact ⟨h0, h1⟩
  · exact h x hx
theorem Dig.head {d : Int} {r : List Int} (h : Dig B (d :: r)) : 0 ≤ d ∧ d < B := h d (List.mem_cons_self ..)
theorem Dig.tail {d : Int} {r : List Int} (h : Dig B (d :: r)) : Dig B r := fun x hx => h x (List.mem_cons_of_mem _ hx)
theorem Dig.append {xs ys : List Int} (h : Dig B xs) (h' : Dig B ys) : Dig B (xs ++ ys) := fun x hx => by
  rcases List.mem_append.mp hx with hx | hx
  · exact h x hx
  · exact h' x hx
theorem Dig.left {xs ys : List Int} (h : Dig B (xs ++ ys)) : Dig B xs := fun x hx => h x (List.mem_append_left _ hx)
theorem Dig.right {xs ys : List Int} (h : Dig B (xs ++ ys)) : Dig B ys := fun x hx => h x (List.mem_append_right _ hx)
theorem Dig.take {xs : List Int} (h : Dig B xs) (n : Nat) : Dig B (xs.take n) := fun x hx => h x (List.mem_of_mem_take hx)
theorem Dig.drop {xs : List Int} (h : Dig B xs) (n : Nat) : Dig B (xs.drop n) := fun x hx => h x (List.mem_of_mem_drop hx)
theorem Dig.zeros (hB : 0 < B) (n : Nat) : Dig B (List.replicate n 0) := fun x hx => by
  rw [List.eq_of_mem_replicate hx]; exact ⟨Int.le_refl _, hB⟩
theorem Dig.get {xs : List Int} (h : Dig B xs) (hB : 0 < B) (n : Nat) : 0 ≤ xs.getD n 0 ∧ xs.getD n 0 < B := by
  rw [List.getD_eq_getElem?_getD]
  cases e : xs[n]? with
  | none => exact ⟨Int.le_refl _, hB⟩
  | some d => exact h d (List.mem_of_getElem? e)

theorem val_append (xs ys : List Int) : val B (xs ++ ys) = val B xs + B ^ xs.length * val B ys := by
  induction xs with
  | nil => simp [val]
  | cons d r ih =>
    rw [List.cons_append, val, ih, val, List.length_cons, Int.pow_succ]
    grind
theorem val_zeros (n : Nat) : val B (List.replicate n 0) = 0 := by
  induction n with
  | zero => rfl
  | succ n ih => rw [List.replicate_succ, val, ih]; simp
theorem pow_pos' (hB : 0 < B) (n : Nat) : 0 < B ^ n := Int.pow_pos hB
theorem val_nonneg (hB : 0 < B) {xs : List Int} (h : Dig B xs) : 0 ≤ val B xs := by
  induction xs with
  | nil => exact Int.le_refl _
  | cons d r ih =>
    rw [val]
    have h1 := h.head
    have h2 := Int.mul_nonneg (Int.le_of_lt hB) (ih h.tail)
    lia
theorem val_lt (hB : 0 < B) {xs : List Int} (h : Dig B xs) : val B xs < B ^ xs.length := by
  induction xs with
  | nil => simp [val]
  | cons d r ih =>
    rw [val, List.length_cons, Int.pow_succ]
    have h1 := h.head
    have h2 := ih h.tail
    have h3 : B * (val B r + 1) ≤ B * B ^ r.length := Int.mul_le_mul_of_nonneg_left h2 (Int.le_of_lt hB)
    rw [Int.mul_add, Int.mul_one] at h3
    rw [Int.mul_comm (B ^ r.length)]
    (clear hB ih h h2; lia)
theorem Norm.tail {d : Int} {r : List Int} (h : Norm (d :: r)) : Norm r := by
  unfold Norm at *
  cases r with
  | nil => simp
  | cons e q => rwa [List.getLast?_cons_cons] at h
theorem norm_nil : Norm [] := by simp [Norm]
theorem norm_pos (hB : 0 < B) {xs : List Int} (h : Dig B xs) (hn : Norm xs) (hx : xs ≠ []) : 0 < val B xs := by
  induction xs with
  | nil => exact absurd rfl hx
  | cons d r ih =>
    rw [val]
    have h1 := h.head
    by_cases hr : r = []
    · subst hr
      unfold Norm at hn
      simp at hn
      simp [val]
      lia
    · have h2 := Int.mul_pos hB (ih h.tail hn.tail hr)
      omega
theorem row_low (hB : 0 < B) : ∀ {xs : List Int}, Dig B xs → Norm xs → xs ≠ [] → B ^ (xs.length - 1) ≤ val B xs
  | [], _, _, hx => absurd rfl hx
  | [d], h, hn, _ => by
    have := norm_pos hB h hn (by simp)
    simp
    lia
  | d :: e :: r, h, hn, _ => by
    have ih := row_low hB h.tail hn.tail (by simp)
    rw [val]
    have h1 := h.head
    have h2 : B * B ^ ((e :: r).length - 1) ≤ B * val B (e :: r) := Int.mul_le_mul_of_nonneg_left ih (Int.le_of_lt hB)
    rw [show (d :: e :: r).length - 1 = ((e :: r).length - 1) + 1 by simp, Int.pow_succ, Int.mul_comm (B ^ _)]
    (clear hB h hn ih; lia)
theorem digit_unique (hB : 0 < B) {d d' v v' : Int} (h0 : 0 ≤ d) (h1 : d < B) (h0' : 0 ≤ d') (h1' : d' < B) (h : d + B * v = d' + B * v') : d = d' ∧ v = v' := by
  have e1 : (d + B * v) / B = v := by rw [Int.add_mul_ediv_left _ _ (by (with_reducible exact cpz (by assumption))), Int.ediv_eq_zero_of_lt h0 h1]; (clear hB h0 h1 h0' h1' h; lia)
  have e2 : (d' + B * v') / B = v' := by rw [Int.add_mul_ediv_left _ _ (by (with_reducible exact cpz (by assumption))), Int.ediv_eq_zero_of_lt h0' h1']; (clear hB h0 h1 h0' h1' h e1; omega)
  have e3 : v = v' := by rw [← e1, h, e2]
  subst e3
  exact ⟨by (clear hB h0 h1 h0' h1' e1 e2; lia), rfl⟩
theorem row_unique (hB : 0 < B) : ∀ {xs ys : List Int}, Dig B xs → Norm xs → Dig B ys → Norm ys → val B xs = val B ys → xs = ys
  | [], [], _, _, _, _, _ => rfl
  | [], e :: q, _, _, h, hn, he => by
    have := norm_pos hB h hn (by simp)
    rw [← he] at this
    exact absurd this (by simp [val])
  | d :: r, [], h, hn, _, _, he => by
    have := norm_pos hB h hn (by simp)
    rw [he] at this
    exact absurd this (by simp [val])
  | d :: r, e :: q, h, hn, h', hn', he => by
    rw [val, val] at he
    obtain ⟨rfl, hv⟩ := digit_unique hB h.head.1 h.head.2 h'.head.1 h'.head.2 he
    rw [row_unique hB h.tail hn.tail h'.tail hn'.tail hv]
theorem IsRow.unique {n : Int} {xs ys : List Int} (hB : 0 < B) (h : IsRow B n xs) (h' : IsRow B n ys) : xs = ys :=
  row_unique hB h.dig h.norm h'.dig h'.norm (h.eq.trans h'.eq.symm)
theorem pow_le_pow {m n : Nat} (hB : 0 < B) (h : n ≤ m) : B ^ n ≤ B ^ m := by
  obtain ⟨k, rfl⟩ := Nat.exists_eq_add_of_le h
  rw [Int.pow_add]
  have h1 : 0 < B ^ n := Int.pow_pos hB
  have h2 : 0 < B ^ k := Int.pow_pos hB
  have := Int.mul_le_mul_of_nonneg_left (show 1 ≤ B ^ k by (clear hB h h1; lia)) (Int.le_of_lt h1)
  (clear hB h h1 h2; lia)
theorem pow_lt_pow {m n : Nat} (hB : 1 < B) (h : B ^ m < B ^ n) : m < n := by
  by_cases hmn : m < n
  · exact hmn
  · exfalso
    have : B ^ n ≤ B ^ m := pow_le_pow (by (clear h hmn; lia)) (by (clear hB h; lia))
    lia
theorem IsRow.len {n : Int} {xs : List Int} {k : Nat} (hB : 1 < B) (h : IsRow B n xs) (hn : n < B ^ k) : xs.length ≤ k := by
  by_cases hx : xs = []
  · subst hx; simp
  · have h1 := row_low (by (clear hn hx; lia)) h.dig h.norm hx
    rw [h.eq] at h1
    have := pow_lt_pow hB (Int.lt_of_le_of_lt h1 hn)
    (clear hB hn hx h1; lia)
theorem IsRow.nonneg {n : Int} {xs : List Int} (hB : 0 < B) (h : IsRow B n xs) : 0 ≤ n := h.eq ▸ val_nonneg hB h.dig
theorem IsRow.nil_of {xs : List Int} (hB : 0 < B) (h : IsRow B 0 xs) : xs = [] := IsRow.unique hB h ⟨Dig.nil, norm_nil, rfl⟩
theorem Strip.row {xs ys : List Int} (h : Strip xs ys) (hd : Dig B xs) : IsRow B (val B xs) ys := by
  obtain ⟨hn, k, rfl⟩ := h
  exact ⟨hd.left, hn, by rw [val_append, val_zeros]; simp⟩

/-! bits -/
theorem band_mask {x : Int} {w : Nat} (h : 0 ≤ x) : Builtin.bitAnd x (2 ^ w - 1) = x % 2 ^ w := by
  have hp : (0 : Int) < 2 ^ w := Int.pow_pos (by decide)
  rw [PyProof.Rows.bitAnd_pp h (by lia)]
  obtain ⟨n, rfl⟩ := Int.eq_ofNat_of_zero_le h
  have e : ((2 : Int) ^ w - 1).toNat = 2 ^ w - 1 := by
    have : ((2 : Int) ^ w) = ((2 ^ w : Nat) : Int) := by push_cast; rfl
    rw [this]; (clear hp h this; lia)
  rw [e, Int.toNat_natCast, Nat.and_two_pow_sub_one_eq_mod]
  push_cast
  rfl
theorem bor_add {x y : Int} {k : Nat} (hx : 0 ≤ x) (hy : 0 ≤ y) (h : y < 2 ^ k) : Builtin.bitOr (x * 2 ^ k) y = x * 2 ^ k + y := by
  rw [PyProof.Rows.bitOr_and, PyProof.Rows.bitAnd_pp (Int.mul_nonneg hx (Int.le_of_lt (Int.pow_pos (by decide)))) hy]
  obtain ⟨n, rfl⟩ := Int.eq_ofNat_of_zero_le hx
  obtain ⟨m, rfl⟩ := Int.eq_ofNat_of_zero_le hy
  have e : ((n : Int) * 2 ^ k).toNat = n * 2 ^ k := by
    have : ((n : Int) * 2 ^ k) = ((n * 2 ^ k : Nat) : Int) := by push_cast; rfl
    rw [this, Int.toNat_natCast]
  have hm : m < 2 ^ k := by
    have : ((2 : Int) ^ k) = ((2 ^ k : Nat) : Int) := by push_cast; rfl
    rw [this] at h
    (clear hx hy e this; omega)
  have z : (n * 2 ^ k) &&& m = 0 := by
    apply Nat.eq_of_testBit_eq
    intro i
    rw [Nat.testBit_and, Nat.testBit_mul_two_pow, Nat.zero_testBit]
    by_cases hi : k ≤ i
    · rw [Nat.testBit_lt_two_pow (Nat.lt_of_lt_of_le hm (Nat.pow_le_pow_right (by decide) hi))]; simp
    · simp [hi]
  rw [e, Int.toNat_natCast, z]
  simp
theorem bor_add' {x y : Int} {k : Nat} (hx : 0 ≤ x) (hy : 0 ≤ y) (h : y < 2 ^ k) : Builtin.bitOr y (x * 2 ^ k) = y + x * 2 ^ k := by
  rw [PyProof.Rows.bitOr_comm, bor_add hx hy h, Int.add_comm]
theorem fdiv_pos {a b : Int} (h : 0 ≤ b) : a.fdiv b = a / b := Int.fdiv_eq_ediv_of_nonneg a h
theorem fmod_pos {a b : Int} (h : 0 ≤ b) : a.fmod b = a % b := Int.fmod_eq_emod_of_nonneg a h
end
end Mine
end

section
open PySem
set_option linter.unusedVariables false
set_option linter.unusedSimpArgs false
namespace Mine

theorem split_at {xs : List Int} {n : Nat} (h : n < xs.length) : xs = xs.take n ++ (xs.getD n 0 :: xs.drop (n + 1)) := by
  rw [List.getD_eq_getElem?_getD, List.getElem?_eq_getElem h]
  simp
theorem val_split {B : Int} {xs : List Int} {n : Nat} (h : n < xs.length) : val B xs = val B (xs.take n) + B ^ n * (xs.getD n 0 + B * val B (xs.drop (n + 1))) := by
  have e := congrArg (val B) (split_at h)
  rw [val_append, val, List.length_take, Nat.min_eq_left (Nat.le_of_lt h)] at e
  exact e
theorem val_td {B : Int} {xs : List Int} {n : Nat} (h : n ≤ xs.length) : val B xs = val B (xs.take n) + B ^ n * val B (xs.drop n) := by
  have e := congrArg (val B) (List.take_append_drop n xs).symm
  rw [val_append, List.length_take, Nat.min_eq_left h] at e
  exact e
theorem drop_congr {xs ys : List Int} {n : Nat} (hl : xs.length = ys.length) (h : ∀ j, n ≤ j → j < xs.length → xs.getD j 0 = ys.getD j 0) : xs.drop n = ys.drop n := by
  apply List.ext_getElem
  · simp [hl]
  · intro i h1 h2
    rw [List.getElem_drop, List.getElem_drop]
    have h3 : n + i < xs.length := by rw [List.length_drop] at h1; (clear hl h h2; omega)
    have := h (n + i) (by (clear hl h h1 h2 h3; lia)) h3
    rw [List.getD_eq_getElem?_getD, List.getD_eq_getElem?_getD, List.getElem?_eq_getElem h3, List.getElem?_eq_getElem (by (clear h h1 h2 this; lia))] at this
    simpa using this
theorem val_cmp {B : Int} (hB : 1 < B) {xs ys : List Int} (hx : Dig B xs) (hy : Dig B ys) (hl : xs.length = ys.length) {n : Nat} (hn : n < xs.length)
    (h : ∀ j, n + 1 ≤ j → j < xs.length → xs.getD j 0 = ys.getD j 0) (hlt : xs.getD n 0 < ys.getD n 0) : val B xs < val B ys := by
  rw [val_split hn, val_split (by lia : n < ys.length), drop_congr hl h]
  have h1 := val_lt (by (clear hl hn h hlt; lia)) (hx.take n)
  have h2 := val_nonneg (by lia) (hy.take n)
  rw [List.length_take, Nat.min_eq_left (by (with_reducible exact Nat.le_of_lt (by assumption)))] at h1
  have h3 : B ^ n * (xs.getD n 0 + B * val B (ys.drop (n + 1)) + 1) ≤ B ^ n * (ys.getD n 0 + B * val B (ys.drop (n + 1))) :=
    Int.mul_le_mul_of_nonneg_left (by (clear hB hl hn h h1 h2; lia)) (Int.le_of_lt (Int.pow_pos (by omega)))
  rw [Int.mul_add, Int.mul_one] at h3
  (clear hB hl hn h hlt; lia)

noncomputable def P_compare : PF := fun args H Q => ∃ a b xs ys B, args = [.ref a, .ref b] ∧ H a = some (.list (iv xs)) ∧ H b = some (.list (iv ys)) ∧ xs.length ≤ 1000 ∧ ys.length ≤ 1000 ∧ 1 < B ∧
  Dig B xs ∧ Norm xs ∧ Dig B ys ∧ Norm ys ∧ ∀ s : Int, (s < 0 ↔ val B xs < val B ys) → Q (.int s) H

noncomputable def t_compare_1b_0 : PS := (sCons (sIf (tCmp kNe (eIdx (cVar 0) (cVar 2)) (eIdx (cVar 1) (cVar 2))) (sCons (sRet (eIf (tCmp kLt (eIdx (cVar 0) (cVar 2)) (eIdx (cVar 1) (cVar 2))) (eNeg (cInt 1)) (cInt 1))) sNil) sNil) sNil)
noncomputable def t_compare_2 : PS := (sCons (sRet (cInt 0)) sNil)
noncomputable def t_compare_1 : PS := (sCons (sForR 2 (aCons (cBin oSub (eCall fLen (aCons (cVar 0) aNil)) (cInt 1)) (aCons (eNeg (cInt 1)) (aCons (eNeg (cInt 1)) aNil))) t_compare_1b_0) t_compare_2)
noncomputable def ps_compare : PS := (sCons (sIf (tCmp kNe (eCall fLen (aCons (cVar 0) aNil)) (eCall fLen (aCons (cVar 1) aNil))) (sCons (sRet (eIf (tCmp kLt (eCall fLen (aCons (cVar 0) aNil)) (eCall fLen (aCons (cVar 1) aNil))) (eNeg (cInt 1)) (cInt 1))) sNil) sNil) t_compare_1)

theorem rng_down (n : Nat) : rng ((n : Int) - 1) (-1) (-1) = n := by
  unfold rng
  rw [if_neg (by decide)]
  lia
theorem rng_up (n : Nat) : rng 0 n 1 = n := by
  unfold rng
  rw [if_pos rfl]
  lia
theorem len_lt_val {B : Int} (hB : 1 < B) {xs ys : List Int} (hx : Dig B xs) (hy : Dig B ys) (hn : Norm ys) (h : xs.length < ys.length) : val B xs < val B ys := by
  have h1 := val_lt (by lia) hx
  have h2 := row_low (by omega) hy hn (by intro e; rw [e] at h; simp at h)
  have h3 : B ^ xs.length ≤ B ^ (ys.length - 1) := pow_le_pow (by omega) (by (clear hB h1 h2; omega))
  (clear hB h; lia)

theorem pu_compare (args : List V) (H : Hp) (Q : V → Hp → Prop) (h : P_compare args H Q) : args.length = 2 ∧ ps_compare (fun i => args[i]?) H (retQ Q) := by
  obtain ⟨a, b, xs, ys, B, rfl, ha, hb, hlx, hly, hB, dx, nx, dy, ny, hQ⟩ := h
  refine ⟨rfl, ?_⟩
  (repeat (first | dsimp only [sCons, sNil, sIf, sRet, eCall, aNil, aCons, cInt, cBin, eIf, eNeg, eIdx, tCmp, oSub_i, kLt_i, kNe_i, fLen_r, vBool_b, vInt_i, vRef_r, LoopQ_next, LoopQ_ret, retQ_next, retQ_ret, cv0_2, cvl0, cv1_2, cvl1, cv2, cvl2, ps_compare] | simp only [reduceIte, if_true, if_false, Bool.false_eq_true, reduceCtorEq] | with_reducible refine head_of t_compare_1b_0.eq_1 ?_ | with_reducible refine head_of t_compare_2.eq_1 ?_ | with_reducible refine head_of t_compare_1.eq_1 ?_))
  refine len_iv ha (by (with_reducible exact c20 (by assumption))) (len_iv hb (by (with_reducible exact c20 (by assumption))) ?_)
  (repeat (first | dsimp only [sCons, sNil, sIf, sRet, eCall, aNil, aCons, cInt, cBin, eIf, eNeg, eIdx, tCmp, oSub_i, kLt_i, kNe_i, fLen_r, vBool_b, vInt_i, vRef_r, LoopQ_next, LoopQ_ret, retQ_next, retQ_ret, cv0_2, cvl0, cv1_2, cvl1, cv2, cvl2] | simp only [reduceIte, if_true, if_false, Bool.false_eq_true, reduceCtorEq] | with_reducible refine head_of t_compare_1b_0.eq_1 ?_ | with_reducible refine head_of t_compare_2.eq_1 ?_ | with_reducible refine head_of t_compare_1.eq_1 ?_))
  by_cases hl : xs.length = ys.length
  · rw [show decide ((xs.length : Int) ≠ ys.length) = false from decide_eq_false (by lia)]
    (repeat (first | dsimp only [sCons, sNil, sIf, sRet, eCall, aNil, aCons, cInt, cBin, eIf, eNeg, eIdx, tCmp, oSub_i, kLt_i, kNe_i, fLen_r, vBool_b, vInt_i, vRef_r, LoopQ_next, LoopQ_ret, retQ_next, retQ_ret, cv0_2, cvl0, cv1_2, cvl1, cv2, cvl2, sForR] | simp only [reduceIte, if_true, if_false, Bool.false_eq_true, reduceCtorEq] | with_reducible refine head_of t_compare_1b_0.eq_1 ?_ | with_reducible refine head_of t_compare_2.eq_1 ?_ | with_reducible refine head_of t_compare_1.eq_1 ?_))
    refine len_iv ha (by (with_reducible exact c20 (by assumption))) ?_
    (repeat (first | dsimp only [sCons, sNil, sIf, sRet, eCall, aNil, aCons, cInt, cBin, eIf, eNeg, eIdx, tCmp, oSub_i, kLt_i, kNe_i, fLen_r, vBool_b, vInt_i, vRef_r, LoopQ_next, LoopQ_ret, retQ_next, retQ_ret, cv0_2, cvl0, cv1_2, cvl1, cv2, cvl2] | simp only [reduceIte, if_true, if_false, Bool.false_eq_true, reduceCtorEq] | with_reducible refine head_of t_compare_1b_0.eq_1 ?_ | with_reducible refine head_of t_compare_2.eq_1 ?_ | with_reducible refine head_of t_compare_1.eq_1 ?_))
    refine ⟨_, _, _, rfl, ⟨by (clear hlx hly hB hQ hl; lia), by (clear hly hB hQ hl; lia), by (clear hlx hly hB hQ hl; lia), by (clear hlx hly hB hQ hl; lia), .inr rfl⟩, ?_⟩
    rw [rng_down]
    refine ⟨fun k m' H' => H' = H ∧ m' 0 = some (.ref a) ∧ m' 1 = some (.ref b) ∧ ∀ j, xs.length - k ≤ j → j < xs.length → xs.getD j 0 = ys.getD j 0, ⟨rfl, rfl, rfl, fun j h1 h2 => by (clear hlx hly hB hQ hl; lia)⟩, ?_, ?_⟩
    · rintro k m' H' hk ⟨rfl, m0, m1, he⟩
      refine loop_hide fun P hP => ?_
      have e1 : (xs.length : Int) - 1 + (k : Int) * -1 = ((xs.length - 1 - k : Nat) : Int) := by (clear hlx hly hB hl hQ he hP; omega)
      (repeat (first | dsimp only [sCons, sNil, sIf, sRet, eCall, aNil, aCons, cInt, cBin, eIf, eNeg, eIdx, tCmp, oSub_i, kLt_i, kNe_i, fLen_r, vBool_b, vInt_i, vRef_r, LoopQ_next, LoopQ_ret, retQ_next, retQ_ret, cv0_2, cvl0, cv1_2, cvl1, cv2, cvl2] | simp only [reduceIte, if_true, if_false, Bool.false_eq_true, reduceCtorEq, cVar_at m0, cVar_at m1, e1] | with_reducible refine head_of t_compare_1b_0.eq_1 ?_ | with_reducible refine head_of t_compare_2.eq_1 ?_ | with_reducible refine head_of t_compare_1.eq_1 ?_))
      refine idx_iv ha (by (with_reducible exact Int.natCast_nonneg _)) (by (clear hlx hly hB hl hk hQ he hP; omega)) (by (with_reducible exact c20 (by assumption))) (idx_iv hb (by (with_reducible exact Int.natCast_nonneg _)) (by omega) (by (with_reducible exact c20 (by assumption))) ?_)
      (repeat (first | dsimp only [sCons, sNil, sIf, sRet, eCall, aNil, aCons, cInt, cBin, eIf, eNeg, eIdx, tCmp, oSub_i, kLt_i, kNe_i, fLen_r, vBool_b, vInt_i, vRef_r, LoopQ_next, LoopQ_ret, retQ_next, retQ_ret, cv0_2, cvl0, cv1_2, cvl1, cv2, cvl2] | simp only [reduceIte, if_true, if_false, Bool.false_eq_true, reduceCtorEq, Int.toNat_natCast] | with_reducible refine head_of t_compare_1b_0.eq_1 ?_ | with_reducible refine head_of t_compare_2.eq_1 ?_ | with_reducible refine head_of t_compare_1.eq_1 ?_))
      by_cases hd : xs.getD (xs.length - 1 - k) 0 = ys.getD (xs.length - 1 - k) 0
      · (repeat (first | dsimp only [sCons, sNil, sIf, sRet, eCall, aNil, aCons, cInt, cBin, eIf, eNeg, eIdx, tCmp, oSub_i, kLt_i, kNe_i, fLen_r, vBool_b, vInt_i, vRef_r, LoopQ_next, LoopQ_ret, retQ_next, retQ_ret, cv0_2, cvl0, cv1_2, cvl1, cv2, cvl2] | simp only [reduceIte, if_true, if_false, Bool.false_eq_true, reduceCtorEq, hd, ne_eq, not_true_eq_false, decide_false, cVar_at m0, cVar_at m1, true_and] | with_reducible refine head_of t_compare_1b_0.eq_1 ?_ | with_reducible refine head_of t_compare_2.eq_1 ?_ | with_reducible refine head_of t_compare_1.eq_1 ?_))
        refine hP _ _ ⟨rfl, m0, m1, fun j h1 h2 => ?_⟩
        by_cases hj : j = xs.length - 1 - k
        · rw [hj]; exact hd
        · exact he j (by (clear hlx hly hB hl hk hQ he hP e1 hd h2; lia)) h2
      · (repeat (first | dsimp only [sCons, sNil, sIf, sRet, eCall, aNil, aCons, cInt, cBin, eIf, eNeg, eIdx, tCmp, oSub_i, kLt_i, kNe_i, fLen_r, vBool_b, vInt_i, vRef_r, LoopQ_next, LoopQ_ret, retQ_next, retQ_ret, cv0_2, cvl0, cv1_2, cvl1, cv2, cvl2] | simp only [reduceIte, if_true, if_false, Bool.false_eq_true, reduceCtorEq, hd, ne_eq, not_false_eq_true, decide_true, cVar_at m0, cVar_at m1] | with_reducible refine head_of t_compare_1b_0.eq_1 ?_ | with_reducible refine head_of t_compare_2.eq_1 ?_ | with_reducible refine head_of t_compare_1.eq_1 ?_))
        refine idx_iv ha (by (with_reducible exact Int.natCast_nonneg _)) (by lia) (by (with_reducible exact c20 (by assumption))) (idx_iv hb (by (with_reducible exact Int.natCast_nonneg _)) (by omega) (by (with_reducible exact c20 (by assumption))) ?_)
        (repeat (first | dsimp only [sCons, sNil, sIf, sRet, eCall, aNil, aCons, cInt, cBin, eIf, eNeg, eIdx, tCmp, oSub_i, kLt_i, kNe_i, fLen_r, vBool_b, vInt_i, vRef_r, LoopQ_next, LoopQ_ret, retQ_next, retQ_ret, cv0_2, cvl0, cv1_2, cvl1, cv2, cvl2] | simp only [reduceIte, if_true, if_false, Bool.false_eq_true, reduceCtorEq, Int.toNat_natCast] | with_reducible refine head_of t_compare_1b_0.eq_1 ?_ | with_reducible refine head_of t_compare_2.eq_1 ?_ | with_reducible refine head_of t_compare_1.eq_1 ?_))
        by_cases hlt : xs.getD (xs.length - 1 - k) 0 < ys.getD (xs.length - 1 - k) 0
        · (repeat (first | dsimp only [sCons, sNil, sIf, sRet, eCall, aNil, aCons, cInt, cBin, eIf, eNeg, eIdx, tCmp, oSub_i, kLt_i, kNe_i, fLen_r, vBool_b, vInt_i, vRef_r, LoopQ_next, LoopQ_ret, retQ_next, retQ_ret, cv0_2, cvl0, cv1_2, cvl1, cv2, cvl2] | simp only [reduceIte, if_true, if_false, Bool.false_eq_true, reduceCtorEq, hlt, decide_true] | with_reducible refine head_of t_compare_1b_0.eq_1 ?_ | with_reducible refine head_of t_compare_2.eq_1 ?_ | with_reducible refine head_of t_compare_1.eq_1 ?_))
          refine hQ _ ⟨fun _ => val_cmp hB dx dy hl (by (clear hlx hly hB hl hk hQ he hP hd hlt; omega)) (fun j h1 h2 => he j (by (clear hlx hly hB hl hk hQ he hP hd hlt h2; lia)) h2) hlt, fun _ => by decide⟩
        · (repeat (first | dsimp only [sCons, sNil, sIf, sRet, eCall, aNil, aCons, cInt, cBin, eIf, eNeg, eIdx, tCmp, oSub_i, kLt_i, kNe_i, fLen_r, vBool_b, vInt_i, vRef_r, LoopQ_next, LoopQ_ret, retQ_next, retQ_ret, cv0_2, cvl0, cv1_2, cvl1, cv2, cvl2] | simp only [reduceIte, if_true, if_false, Bool.false_eq_true, reduceCtorEq, hlt, decide_false] | with_reducible refine head_of t_compare_1b_0.eq_1 ?_ | with_reducible refine head_of t_compare_2.eq_1 ?_ | with_reducible refine head_of t_compare_1.eq_1 ?_))
          refine hQ _ ⟨fun h => absurd h (by decide), fun h => ?_⟩
          have := val_cmp hB dy dx hl.symm (n := xs.length - 1 - k) (by (clear hlx hly hB hk hQ he hP hd hlt h; omega)) (fun j h1 h2 => (he j (by lia) (by (clear hlx hly hB hk hQ he hP e1 hd hlt h h1; lia))).symm) (by (clear hlx hly hB hl hk hQ he hP e1 h; lia))
          (clear hlx hly hB hl hk hQ he hP e1 hd hlt; lia)
    · rintro m' H' ⟨rfl, m0, m1, he⟩
      (repeat (first | dsimp only [sCons, sNil, sIf, sRet, eCall, aNil, aCons, cInt, cBin, eIf, eNeg, eIdx, tCmp, oSub_i, kLt_i, kNe_i, fLen_r, vBool_b, vInt_i, vRef_r, LoopQ_next, LoopQ_ret, retQ_next, retQ_ret, cv0_2, cvl0, cv1_2, cvl1, cv2, cvl2] | simp only [reduceIte, if_true, if_false, Bool.false_eq_true, reduceCtorEq] | with_reducible refine head_of t_compare_1b_0.eq_1 ?_ | with_reducible refine head_of t_compare_2.eq_1 ?_ | with_reducible refine head_of t_compare_1.eq_1 ?_))
      refine hQ _ ⟨fun h => absurd h (by decide), fun h => ?_⟩
      have := drop_congr (n := 0) hl fun j h1 h2 => he j (by (clear hlx hly hB hl hQ he h h1 h2; lia)) h2
      rw [List.drop_zero, List.drop_zero] at this
      rw [this] at h
      (clear hlx hly hB hl hQ he; lia)
  · rw [show decide ((xs.length : Int) ≠ ys.length) = true from decide_eq_true (by lia)]
    (repeat (first | dsimp only [sCons, sNil, sIf, sRet, eCall, aNil, aCons, cInt, cBin, eIf, eNeg, eIdx, tCmp, oSub_i, kLt_i, kNe_i, fLen_r, vBool_b, vInt_i, vRef_r, LoopQ_next, LoopQ_ret, retQ_next, retQ_ret, cv0_2, cvl0, cv1_2, cvl1, cv2, cvl2] | simp only [reduceIte, if_true, if_false, Bool.false_eq_true, reduceCtorEq] | with_reducible refine head_of t_compare_1b_0.eq_1 ?_ | with_reducible refine head_of t_compare_2.eq_1 ?_ | with_reducible refine head_of t_compare_1.eq_1 ?_))
    refine len_iv ha (by (with_reducible exact c20 (by assumption))) (len_iv hb (by (with_reducible exact c20 (by assumption))) ?_)
    (repeat (first | dsimp only [sCons, sNil, sIf, sRet, eCall, aNil, aCons, cInt, cBin, eIf, eNeg, eIdx, tCmp, oSub_i, kLt_i, kNe_i, fLen_r, vBool_b, vInt_i, vRef_r, LoopQ_next, LoopQ_ret, retQ_next, retQ_ret, cv0_2, cvl0, cv1_2, cvl1, cv2, cvl2] | simp only [reduceIte, if_true, if_false, Bool.false_eq_true, reduceCtorEq] | with_reducible refine head_of t_compare_1b_0.eq_1 ?_ | with_reducible refine head_of t_compare_2.eq_1 ?_ | with_reducible refine head_of t_compare_1.eq_1 ?_))
    by_cases hlt : xs.length < ys.length
    · rw [show decide ((xs.length : Int) < ys.length) = true from decide_eq_true (by (with_reducible exact clt (by assumption)))]
      (repeat (first | dsimp only [sCons, sNil, sIf, sRet, eCall, aNil, aCons, cInt, cBin, eIf, eNeg, eIdx, tCmp, oSub_i, kLt_i, kNe_i, fLen_r, vBool_b, vInt_i, vRef_r, LoopQ_next, LoopQ_ret, retQ_next, retQ_ret, cv0_2, cvl0, cv1_2, cvl1, cv2, cvl2] | simp only [reduceIte, if_true, if_false, Bool.false_eq_true, reduceCtorEq] | with_reducible refine head_of t_compare_1b_0.eq_1 ?_ | with_reducible refine head_of t_compare_2.eq_1 ?_ | with_reducible refine head_of t_compare_1.eq_1 ?_))
      exact hQ _ ⟨fun _ => len_lt_val hB dx dy ny hlt, fun _ => by decide⟩
    · rw [show decide ((xs.length : Int) < ys.length) = false from decide_eq_false (by (clear ha hb hlx hly hB dx nx dy ny hQ hl; lia))]
      (repeat (first | dsimp only [sCons, sNil, sIf, sRet, eCall, aNil, aCons, cInt, cBin, eIf, eNeg, eIdx, tCmp, oSub_i, kLt_i, kNe_i, fLen_r, vBool_b, vInt_i, vRef_r, LoopQ_next, LoopQ_ret, retQ_next, retQ_ret, cv0_2, cvl0, cv1_2, cvl1, cv2, cvl2] | simp only [reduceIte, if_true, if_false, Bool.false_eq_true, reduceCtorEq] | with_reducible refine head_of t_compare_1b_0.eq_1 ?_ | with_reducible refine head_of t_compare_2.eq_1 ?_ | with_reducible refine head_of t_compare_1.eq_1 ?_))
      refine hQ _ ⟨fun h => absurd h (by decide), fun h => ?_⟩
      have := len_lt_val hB dy dx nx (by lia)
      (clear hlx hly hB hQ hl hlt; omega)
end Mine
end

section
open PySem
set_option linter.unusedVariables false
set_option linter.unusedSimpArgs false
namespace Mine

theorem Small.le {x : Int} (h : -(2 ^ 62) ≤ x) (h' : x ≤ 2 ^ 62) : Small x := by
  have : x.natAbs < 2 ^ 63 := by omega
  exact Nat.lt_trans this (by decide)
theorem two_le {w : Nat} (h : 1 ≤ w) : (2 : Int) ≤ 2 ^ w := by
  have := pow_le_pow (B := 2) (by decide) h
  lia
theorem le_512 {w : Nat} (h : w ≤ 9) : (2 : Int) ^ w ≤ 512 := by
  have := pow_le_pow (B := 2) (by decide) h
  lia
theorem divmod_eq {a d q r : Int} (h : a = q * d + r) (h0 : 0 ≤ r) (h1 : r < d) : a / d = q ∧ a % d = r :=
  (Int.ediv_emod_unique (by (clear h; lia))).mpr ⟨by rw [h, Int.mul_comm d]; lia, h0, h1⟩
theorem iv_zeros (n : Nat) : List.replicate n (V.int 0) = iv (List.replicate n 0) := by simp [iv]
theorem set_zeros {n : Nat} {q : Int} {qs : List Int} : (List.replicate (n + 1) 0 ++ qs).set n q = List.replicate n 0 ++ (q :: qs) := by
  rw [List.set_append_left _ _ (by simp), List.replicate_succ', List.set_append_right _ _ (by simp)]
  simp
theorem ne_fresh {H : Hp} {a b : Nat} {o : O} (h : H a = some o) (h' : H b = none) : a ≠ b := by
  rintro rfl
  rw [h] at h'
  cases h'

noncomputable def P_divrem_limb : PF := fun args H Q => ∃ a xs d, ∃ w : Nat, args = [.ref a, .int d, .int w] ∧ H a = some (.list (iv xs)) ∧ xs.length ≤ 1000 ∧ 1 ≤ w ∧ w ≤ 9 ∧ Dig (2 ^ w) xs ∧ 0 < d ∧ d ≤ 2 ^ w ∧
  ∀ t r H' qs rem, Ext H H' → H t = none → H r = none → H' t = some (.tup [.ref r, .int rem]) → H' r = some (.list (iv qs)) → IsRow (2 ^ w) (val (2 ^ w) xs / d) qs → rem = val (2 ^ w) xs % d → Q (.ref t) H'

noncomputable def t_divrem_limb_2b_2 : PS := (sCons (sAug 4 oMod (cVar 1)) sNil)
noncomputable def t_divrem_limb_2b_1 : PS := (sCons (sSetIdx (cVar 3) (cVar 5) (cBin oFdiv (cVar 4) (cVar 1))) t_divrem_limb_2b_2)
noncomputable def t_divrem_limb_2b_0 : PS := (sCons (sAssign 4 (cBin oOr (cBin oShl (cVar 4) (cVar 2)) (eIdx (cVar 0) (cVar 5)))) t_divrem_limb_2b_1)
noncomputable def t_divrem_limb_3 : PS := (sCons (sRet (eTup (aCons (eCall P_normal (aCons (cVar 3) aNil)) (aCons (cVar 4) aNil)))) sNil)
noncomputable def t_divrem_limb_2 : PS := (sCons (sForR 5 (aCons (cBin oSub (eCall fLen (aCons (cVar 0) aNil)) (cInt 1)) (aCons (eNeg (cInt 1)) (aCons (eNeg (cInt 1)) aNil))) t_divrem_limb_2b_0) t_divrem_limb_3)
noncomputable def t_divrem_limb_1 : PS := (sCons (sAssign2 3 4 (cBin oMul (eList (aCons (cInt 0) aNil)) (eCall fLen (aCons (cVar 0) aNil))) (cInt 0)) t_divrem_limb_2)
noncomputable def ps_divrem_limb : PS := (sCons (sIf (tCmp kEq (cVar 1) (cInt 0)) (sCons sNever sNil) sNil) t_divrem_limb_1)

theorem pu_divrem_limb (args : List V) (H : Hp) (Q : V → Hp → Prop) (h : P_divrem_limb args H Q) : args.length = 3 ∧ ps_divrem_limb (fun i => args[i]?) H (retQ Q) := by
  obtain ⟨a, xs, d, w, rfl, ha, hl, hw, hw9, dx, hd, hdB, hQ⟩ := h
  refine ⟨rfl, ?_⟩
  have hB := two_le hw
  have hB9 := le_512 hw9
  (repeat (first | dsimp only [sCons, sNil, sAssign, sAssign2, sSetIdx, sAug, sIf, sRet, sNever, eCall, aNil, aCons, cInt, cBin, eNeg, eList, eTup, eIdx, tCmp, oSub_i, oMul_i, oFdiv_i, oMod_i, oShl_i, oOr_i, kEq_i, oMul_r, fLen_r, vBool_b, vInt_i, vRef_r, LoopQ_next, LoopQ_ret, retQ_next, retQ_ret, cv0_3, cv0_4, cv0_5, cvl0, cv1_3, cv1_4, cv1_5, cvl1, cv2_3, cv2_4, cv2_5, cvl2, cv3, cv3_4, cv3_5, cvl3, cv4, cv4_3, cv4_5, cvl4, cv5, cv5_3, cv5_4, ps_divrem_limb] | simp only [reduceIte, if_true, if_false, Bool.false_eq_true, reduceCtorEq] | with_reducible refine head_of t_divrem_limb_2b_2.eq_1 ?_ | with_reducible refine head_of t_divrem_limb_2b_1.eq_1 ?_ | with_reducible refine head_of t_divrem_limb_2b_0.eq_1 ?_ | with_reducible refine head_of t_divrem_limb_3.eq_1 ?_ | with_reducible refine head_of t_divrem_limb_2.eq_1 ?_ | with_reducible refine head_of t_divrem_limb_1.eq_1 ?_))
  rw [show decide (d = 0) = false from decide_eq_false (by (with_reducible exact cpz (by assumption)))]
  (repeat (first | dsimp only [sCons, sNil, sAssign, sAssign2, sSetIdx, sAug, sIf, sRet, sNever, eCall, aNil, aCons, cInt, cBin, eNeg, eList, eTup, eIdx, tCmp, oSub_i, oMul_i, oFdiv_i, oMod_i, oShl_i, oOr_i, kEq_i, oMul_r, fLen_r, vBool_b, vInt_i, vRef_r, LoopQ_next, LoopQ_ret, retQ_next, retQ_ret, cv0_3, cv0_4, cv0_5, cvl0, cv1_3, cv1_4, cv1_5, cvl1, cv2_3, cv2_4, cv2_5, cvl2, cv3, cv3_4, cv3_5, cvl3, cv4, cv4_3, cv4_5, cvl4, cv5, cv5_3, cv5_4] | simp only [reduceIte, if_true, if_false, Bool.false_eq_true, reduceCtorEq] | with_reducible refine head_of t_divrem_limb_2b_2.eq_1 ?_ | with_reducible refine head_of t_divrem_limb_2b_1.eq_1 ?_ | with_reducible refine head_of t_divrem_limb_2b_0.eq_1 ?_ | with_reducible refine head_of t_divrem_limb_3.eq_1 ?_ | with_reducible refine head_of t_divrem_limb_2.eq_1 ?_ | with_reducible refine head_of t_divrem_limb_1.eq_1 ?_))
  refine ⟨by decide, fun r0 h0 => ?_⟩
  have na0 := ne_fresh ha h0
  refine len_iv (by rw [updH_ne _ _ na0]; exact ha) (by (with_reducible exact c20 (by assumption))) ?_
  (repeat (first | dsimp only [sCons, sNil, sAssign, sAssign2, sSetIdx, sAug, sIf, sRet, sNever, eCall, aNil, aCons, cInt, cBin, eNeg, eList, eTup, eIdx, tCmp, oSub_i, oMul_i, oFdiv_i, oMod_i, oShl_i, oOr_i, kEq_i, oMul_r, fLen_r, vBool_b, vInt_i, vRef_r, LoopQ_next, LoopQ_ret, retQ_next, retQ_ret, cv0_3, cv0_4, cv0_5, cvl0, cv1_3, cv1_4, cv1_5, cvl1, cv2_3, cv2_4, cv2_5, cvl2, cv3, cv3_4, cv3_5, cvl3, cv4, cv4_3, cv4_5, cvl4, cv5, cv5_3, cv5_4] | simp only [reduceIte, if_true, if_false, Bool.false_eq_true, reduceCtorEq] | with_reducible refine head_of t_divrem_limb_2b_2.eq_1 ?_ | with_reducible refine head_of t_divrem_limb_2b_1.eq_1 ?_ | with_reducible refine head_of t_divrem_limb_2b_0.eq_1 ?_ | with_reducible refine head_of t_divrem_limb_3.eq_1 ?_ | with_reducible refine head_of t_divrem_limb_2.eq_1 ?_ | with_reducible refine head_of t_divrem_limb_1.eq_1 ?_))
  refine ⟨.int 0, updH_same .., by (with_reducible exact Int.natCast_nonneg _), by lia, fun r1 h1 => ?_⟩
  have h1' : H r1 = none := by
    by_cases e : r1 = r0
    · subst e; exact h0
    · rw [updH_ne _ _ e] at h1; exact h1
  have na1 := ne_fresh ha h1'
  have x1 : Ext H (updH (updH H r0 (O.list [V.int 0])) r1 (O.list (List.replicate (xs.length : Int).toNat (V.int 0)))) := (Ext.upd h0).trans (Ext.upd h1)
  (repeat (first | dsimp only [sCons, sNil, sAssign, sAssign2, sSetIdx, sAug, sIf, sRet, sNever, eCall, aNil, aCons, cInt, cBin, eNeg, eList, eTup, eIdx, tCmp, oSub_i, oMul_i, oFdiv_i, oMod_i, oShl_i, oOr_i, kEq_i, oMul_r, fLen_r, vBool_b, vInt_i, vRef_r, LoopQ_next, LoopQ_ret, retQ_next, retQ_ret, cv0_3, cv0_4, cv0_5, cvl0, cv1_3, cv1_4, cv1_5, cvl1, cv2_3, cv2_4, cv2_5, cvl2, cv3, cv3_4, cv3_5, cvl3, cv4, cv4_3, cv4_5, cvl4, cv5, cv5_3, cv5_4, sForR] | simp only [reduceIte, if_true, if_false, Bool.false_eq_true, reduceCtorEq] | with_reducible refine head_of t_divrem_limb_2b_2.eq_1 ?_ | with_reducible refine head_of t_divrem_limb_2b_1.eq_1 ?_ | with_reducible refine head_of t_divrem_limb_2b_0.eq_1 ?_ | with_reducible refine head_of t_divrem_limb_3.eq_1 ?_ | with_reducible refine head_of t_divrem_limb_2.eq_1 ?_ | with_reducible refine head_of t_divrem_limb_1.eq_1 ?_))
  refine len_iv (x1 _ _ ha) (by (with_reducible exact c20 (by assumption))) ?_
  (repeat (first | dsimp only [sCons, sNil, sAssign, sAssign2, sSetIdx, sAug, sIf, sRet, sNever, eCall, aNil, aCons, cInt, cBin, eNeg, eList, eTup, eIdx, tCmp, oSub_i, oMul_i, oFdiv_i, oMod_i, oShl_i, oOr_i, kEq_i, oMul_r, fLen_r, vBool_b, vInt_i, vRef_r, LoopQ_next, LoopQ_ret, retQ_next, retQ_ret, cv0_3, cv0_4, cv0_5, cvl0, cv1_3, cv1_4, cv1_5, cvl1, cv2_3, cv2_4, cv2_5, cvl2, cv3, cv3_4, cv3_5, cvl3, cv4, cv4_3, cv4_5, cvl4, cv5, cv5_3, cv5_4] | simp only [reduceIte, if_true, if_false, Bool.false_eq_true, reduceCtorEq] | with_reducible refine head_of t_divrem_limb_2b_2.eq_1 ?_ | with_reducible refine head_of t_divrem_limb_2b_1.eq_1 ?_ | with_reducible refine head_of t_divrem_limb_2b_0.eq_1 ?_ | with_reducible refine head_of t_divrem_limb_3.eq_1 ?_ | with_reducible refine head_of t_divrem_limb_2.eq_1 ?_ | with_reducible refine head_of t_divrem_limb_1.eq_1 ?_))
  refine ⟨_, _, _, rfl, ⟨by (clear hl hw hw9 hd hdB hQ hB hB9 na0 na1; lia), by lia, by (clear hl hw hw9 hd hdB hQ hB hB9 na0 na1; lia), by (clear hl hw hw9 hd hdB hQ hB hB9 na0 na1; lia), .inr rfl⟩, ?_⟩
  rw [rng_down]
  refine ⟨fun k m' H' => m' 0 = some (.ref a) ∧ m' 1 = some (.int d) ∧ m' 2 = some (.int w) ∧ m' 3 = some (.ref r1) ∧ Ext H H' ∧ k ≤ xs.length ∧ ∃ qs rem, m' 4 = some (.int rem) ∧
    H' r1 = some (.list (iv (List.replicate (xs.length - k) 0 ++ qs))) ∧ qs.length = k ∧ Dig (2 ^ w) qs ∧ 0 ≤ rem ∧ rem < d ∧ val (2 ^ w) (xs.drop (xs.length - k)) = val (2 ^ w) qs * d + rem,
    ⟨rfl, rfl, rfl, rfl, x1, Nat.zero_le _, [], 0, rfl, ?_, rfl, Dig.nil, by (with_reducible exact Int.le_refl _), hd, ?_⟩, ?_, ?_⟩
  · rw [updH_same, Int.toNat_natCast, iv_zeros]; simp
  · simp [val]
  · intro k m' H' hk hI
    refine loop_hide fun P hP => ?_
    obtain ⟨m0, m1, m2, m3, x2, hkl, qs, rem, m4, hr, hql, dq, hr0, hrd, hv⟩ := hI
    have hat : (xs.length : Int) - 1 + (k : Int) * -1 = ((xs.length - 1 - k : Nat) : Int) := by (clear hl hw hw9 hd hdB hQ hB hB9 na0 na1 hP hkl hql hr0 hrd hv; omega)
    generalize hn : xs.length - 1 - k = n at hat
    have hn1 : xs.length - k = n + 1 := by (clear hl hw hw9 hd hdB hQ hB hB9 na0 na1 hk hP hkl hql hr0 hrd hv hn; lia)
    rw [hn1] at hr hv
    have hxn := dx.get (by (with_reducible exact cpos)) n
    (repeat (first | dsimp only [sCons, sNil, sAssign, sAssign2, sSetIdx, sAug, sIf, sRet, sNever, eCall, aNil, aCons, cInt, cBin, eNeg, eList, eTup, eIdx, tCmp, oSub_i, oMul_i, oFdiv_i, oMod_i, oShl_i, oOr_i, kEq_i, oMul_r, fLen_r, vBool_b, vInt_i, vRef_r, LoopQ_next, LoopQ_ret, retQ_next, retQ_ret, cv0_3, cv0_4, cv0_5, cvl0, cv1_3, cv1_4, cv1_5, cvl1, cv2_3, cv2_4, cv2_5, cvl2, cv3, cv3_4, cv3_5, cvl3, cv4, cv4_3, cv4_5, cvl4, cv5, cv5_3, cv5_4] | simp only [reduceIte, if_true, if_false, Bool.false_eq_true, reduceCtorEq, cVar_at m0, cVar_at m1, cVar_at m2, cVar_at m3, cVar_at m4, hat] | with_reducible refine head_of t_divrem_limb_2b_2.eq_1 ?_ | with_reducible refine head_of t_divrem_limb_2b_1.eq_1 ?_ | with_reducible refine head_of t_divrem_limb_2b_0.eq_1 ?_ | with_reducible refine head_of t_divrem_limb_3.eq_1 ?_ | with_reducible refine head_of t_divrem_limb_2.eq_1 ?_ | with_reducible refine head_of t_divrem_limb_1.eq_1 ?_))
    refine ⟨by (with_reducible exact Int.natCast_nonneg _), by (with_reducible exact cw (by assumption)), by (clear hl hw hw9 hd hQ hB na0 na1 hk hP hkl hql hv hn hat hn1 hxn; lia), idx_iv (x2 _ _ ha) (by (with_reducible exact Int.natCast_nonneg _)) (by (clear hl hw hw9 hd hdB hQ hB hB9 na0 na1 hk hP hkl hql hr0 hrd hv hn hn1 hxn; lia)) (by (with_reducible exact c20 (by assumption))) ?_⟩
    rw [Int.toNat_natCast, Int.toNat_natCast]
    (repeat (first | dsimp only [sCons, sNil, sAssign, sAssign2, sSetIdx, sAug, sIf, sRet, sNever, eCall, aNil, aCons, cInt, cBin, eNeg, eList, eTup, eIdx, tCmp, oSub_i, oMul_i, oFdiv_i, oMod_i, oShl_i, oOr_i, kEq_i, oMul_r, fLen_r, vBool_b, vInt_i, vRef_r, LoopQ_next, LoopQ_ret, retQ_next, retQ_ret, cv0_3, cv0_4, cv0_5, cvl0, cv1_3, cv1_4, cv1_5, cvl1, cv2_3, cv2_4, cv2_5, cvl2, cv3, cv3_4, cv3_5, cvl3, cv4, cv4_3, cv4_5, cvl4, cv5, cv5_3, cv5_4] | simp only [reduceIte, if_true, if_false, Bool.false_eq_true, reduceCtorEq, cVar_at m0, cVar_at m1, cVar_at m2, cVar_at m3, cVar_at m4, hat] | with_reducible refine head_of t_divrem_limb_2b_2.eq_1 ?_ | with_reducible refine head_of t_divrem_limb_2b_1.eq_1 ?_ | with_reducible refine head_of t_divrem_limb_2b_0.eq_1 ?_ | with_reducible refine head_of t_divrem_limb_3.eq_1 ?_ | with_reducible refine head_of t_divrem_limb_2.eq_1 ?_ | with_reducible refine head_of t_divrem_limb_1.eq_1 ?_))
    rw [bor_add hr0 hxn.1 hxn.2]
    generalize hx : rem * 2 ^ w + xs.getD n 0 = x
    have hx0 : 0 ≤ x := by have := Int.mul_nonneg hr0 (show (0 : Int) ≤ 2 ^ w by (with_reducible exact cposn)); (clear hl hw hw9 hd hdB hQ hB hB9 na0 na1 hk hP hkl hql hr0 hrd hv hn hat hn1; omega)
    have hxB : x < d * 2 ^ w := by
      have : (rem + 1) * 2 ^ w ≤ d * 2 ^ w := Int.mul_le_mul_of_nonneg_right (by (clear hl hw hw9 hd hdB hQ hB hB9 na0 na1 hk hP hkl hql hr0 hv hn hat hn1 hxn hx hx0; lia)) (by (with_reducible exact cposn))
      rw [Int.add_mul, Int.one_mul] at this
      (clear hl hw hw9 hd hdB hQ hB hB9 na0 na1 hk hP hkl hql hr0 hrd hv hn hat hn1 hx0; omega)
    refine ⟨by (with_reducible exact cpz (by assumption)), Small.le (by (with_reducible exact cm62' (by assumption))) (by (clear hl hw hw9 hd hQ hB na0 na1 hk hP hkl hql hr0 hrd hv hn hat hn1 hxn hx hx0 hxB; lia)), ?_⟩
    rw [fdiv_pos (by (with_reducible exact Int.le_of_lt (by assumption)))]
    refine set_iv hr (by (with_reducible exact Int.natCast_nonneg _)) (by simp; (clear hl hw hw9 hd hdB hQ hB hB9 na0 na1 hk hP hkl hql hr0 hrd hv hn hat hn1 hxn hx hx0 hxB; lia)) (by simp; (clear hw hw9 hd hdB hQ hB hB9 na0 na1 hk hP hkl hr0 hrd hv hn hat hxn hx hx0 hxB; lia)) ?_
    (repeat (first | dsimp only [sCons, sNil, sAssign, sAssign2, sSetIdx, sAug, sIf, sRet, sNever, eCall, aNil, aCons, cInt, cBin, eNeg, eList, eTup, eIdx, tCmp, oSub_i, oMul_i, oFdiv_i, oMod_i, oShl_i, oOr_i, kEq_i, oMul_r, fLen_r, vBool_b, vInt_i, vRef_r, LoopQ_next, LoopQ_ret, retQ_next, retQ_ret, cv0_3, cv0_4, cv0_5, cvl0, cv1_3, cv1_4, cv1_5, cvl1, cv2_3, cv2_4, cv2_5, cvl2, cv3, cv3_4, cv3_5, cvl3, cv4, cv4_3, cv4_5, cvl4, cv5, cv5_3, cv5_4] | simp only [reduceIte, if_true, if_false, Bool.false_eq_true, reduceCtorEq, cVar_at m0, cVar_at m1, cVar_at m2, cVar_at m3, cVar_at m4, hat] | with_reducible refine head_of t_divrem_limb_2b_2.eq_1 ?_ | with_reducible refine head_of t_divrem_limb_2b_1.eq_1 ?_ | with_reducible refine head_of t_divrem_limb_2b_0.eq_1 ?_ | with_reducible refine head_of t_divrem_limb_3.eq_1 ?_ | with_reducible refine head_of t_divrem_limb_2.eq_1 ?_ | with_reducible refine head_of t_divrem_limb_1.eq_1 ?_))
    refine ⟨by (with_reducible exact cpz (by assumption)), ?_⟩
    rw [fmod_pos (by (with_reducible exact Int.le_of_lt (by assumption))), Int.toNat_natCast, set_zeros]
    have nr1 : ∀ b o, H b = some o → b ≠ r1 := fun b o hb => ne_fresh hb h1'
    refine hP _ _ ⟨m0, m1, m2, m3, fun b o hb => by rw [updH_ne _ _ (nr1 b o hb)]; exact x2 b o hb, by (clear hl hw hw9 hd hdB hQ hB hB9 na0 na1 hk hP hkl hql hr0 hrd hv hn hat hxn hx hx0 hxB nr1; lia), (x / d) :: qs, x % d, rfl, ?_, by rw [List.length_cons, hql], ?_, Int.emod_nonneg _ (by (with_reducible exact cpz (by assumption))), Int.emod_lt_of_pos _ hd, ?_⟩
    · rw [updH_same, show xs.length - (k + 1) = n by (clear hl hw hw9 hd hdB hQ hB hB9 na0 na1 hk hP hkl hql hr0 hrd hv hn hn1 hxn hx hx0 hxB nr1; lia)]
    · refine Dig.cons (Int.ediv_nonneg hx0 (by (with_reducible exact Int.le_of_lt (by assumption)))) ?_ dq
      exact Int.ediv_lt_of_lt_mul hd (by rw [Int.mul_comm]; exact hxB)
    · rw [show xs.length - (k + 1) = n by lia]
      have e1 := Int.emod_add_mul_ediv x d
      have e2 : xs.drop n = xs.getD n 0 :: xs.drop (n + 1) := by
        rw [List.getD_eq_getElem?_getD, List.getElem?_eq_getElem (by (clear hl hw hw9 hd hdB hQ hB hB9 na0 na1 hk hP hkl hql hr0 hrd hv hn hn1 hxn hx hx0 hxB nr1 e1; lia))]
        simp
      rw [e2, val, hv, val]
      grind
  · rintro m' H' ⟨m0, m1, m2, m3, x2, hkl, qs, rem, m4, hr, hql, dq, hr0, hrd, hv⟩
    rw [Nat.sub_self] at hr hv
    rw [List.drop_zero] at hv
    simp only [List.replicate_zero, List.nil_append] at hr
    (repeat (first | dsimp only [sCons, sNil, sAssign, sAssign2, sSetIdx, sAug, sIf, sRet, sNever, eCall, aNil, aCons, cInt, cBin, eNeg, eList, eTup, eIdx, tCmp, oSub_i, oMul_i, oFdiv_i, oMod_i, oShl_i, oOr_i, kEq_i, oMul_r, fLen_r, vBool_b, vInt_i, vRef_r, LoopQ_next, LoopQ_ret, retQ_next, retQ_ret, cv0_3, cv0_4, cv0_5, cvl0, cv1_3, cv1_4, cv1_5, cvl1, cv2_3, cv2_4, cv2_5, cvl2, cv3, cv3_4, cv3_5, cvl3, cv4, cv4_3, cv4_5, cvl4, cv5, cv5_3, cv5_4] | simp only [reduceIte, if_true, if_false, Bool.false_eq_true, reduceCtorEq, cVar_at m3, cVar_at m4] | with_reducible refine head_of t_divrem_limb_2b_2.eq_1 ?_ | with_reducible refine head_of t_divrem_limb_2b_1.eq_1 ?_ | with_reducible refine head_of t_divrem_limb_2b_0.eq_1 ?_ | with_reducible refine head_of t_divrem_limb_3.eq_1 ?_ | with_reducible refine head_of t_divrem_limb_2.eq_1 ?_ | with_reducible refine head_of t_divrem_limb_1.eq_1 ?_))
    refine ⟨r1, qs, rfl, hr, by (clear hw hw9 hd hdB hQ hB hB9 na0 na1 hkl hr0 hrd hv; lia), fun r H2 ys hs x3 hr2 hr3 => ?_⟩
    (repeat (first | dsimp only [sCons, sNil, sAssign, sAssign2, sSetIdx, sAug, sIf, sRet, sNever, eCall, aNil, aCons, cInt, cBin, eNeg, eList, eTup, eIdx, tCmp, oSub_i, oMul_i, oFdiv_i, oMod_i, oShl_i, oOr_i, kEq_i, oMul_r, fLen_r, vBool_b, vInt_i, vRef_r, LoopQ_next, LoopQ_ret, retQ_next, retQ_ret, cv0_3, cv0_4, cv0_5, cvl0, cv1_3, cv1_4, cv1_5, cvl1, cv2_3, cv2_4, cv2_5, cvl2, cv3, cv3_4, cv3_5, cvl3, cv4, cv4_3, cv4_5, cvl4, cv5, cv5_3, cv5_4] | simp only [reduceIte, if_true, if_false, Bool.false_eq_true, reduceCtorEq, cVar_at m3, cVar_at m4] | with_reducible refine head_of t_divrem_limb_2b_2.eq_1 ?_ | with_reducible refine head_of t_divrem_limb_2b_1.eq_1 ?_ | with_reducible refine head_of t_divrem_limb_2b_0.eq_1 ?_ | with_reducible refine head_of t_divrem_limb_3.eq_1 ?_ | with_reducible refine head_of t_divrem_limb_2.eq_1 ?_ | with_reducible refine head_of t_divrem_limb_1.eq_1 ?_))
    refine ⟨by simp, fun t ht => ?_⟩
    obtain ⟨e1, e2⟩ := divmod_eq hv hr0 hrd
    have hxt : ∀ b : Nat, H' b = none → H b = none := fun b hb => by
      cases e : H b with
      | none => rfl
      | some o => rw [x2 b o e] at hb; cases hb
    have hx2t : ∀ b : Nat, H2 b = none → H' b = none := fun b hb => by
      cases e : H' b with
      | none => rfl
      | some o => rw [x3 b o e] at hb; cases hb
    refine hQ t r _ ys rem ((x2.trans x3).trans (Ext.upd ht)) (hxt t (hx2t t ht)) (hxt r hr2) (updH_same ..) ?_ ?_ e2.symm
    · rw [updH_ne _ _ (ne_fresh hr3 ht)]; exact hr3
    · rw [e1]; exact hs.row dq
end Mine
end

section
open PySem
set_option linter.unusedVariables false
set_option linter.unusedSimpArgs false
namespace Mine

theorem Ext.free {H H' : Hp} (x : Ext H H') {b : Nat} (h : H' b = none) : H b = none := by
  cases e : H b with
  | none => rfl
  | some o => rw [x b o e] at h; cases h
theorem Ext.over {H H' : Hp} (x : Ext H H') {r : Nat} {o : O} (h : H r = none) : Ext H (updH H' r o) := fun b ob hb => by
  rw [updH_ne _ _ (ne_fresh hb h)]; exact x b ob hb
theorem take_succ {xs : List Int} {k : Nat} (h : k < xs.length) : xs.take (k + 1) = xs.take k ++ [xs.getD k 0] := by
  rw [List.take_add_one, List.getD_eq_getElem?_getD, List.getElem?_eq_getElem h]
  rfl
theorem val_snoc {B : Int} (xs : List Int) (d : Int) : val B (xs ++ [d]) = val B xs + B ^ xs.length * d := by
  rw [val_append]; simp [val]
theorem val_take_succ {B : Int} {xs : List Int} {k : Nat} (h : k < xs.length) : val B (xs.take (k + 1)) = val B (xs.take k) + B ^ k * xs.getD k 0 := by
  rw [take_succ h, val_snoc, List.length_take, Nat.min_eq_left (by (with_reducible exact Nat.le_of_lt (by assumption)))]
theorem Dig.snoc {B : Int} {xs : List Int} {d : Int} (h : Dig B xs) (h0 : 0 ≤ d) (h1 : d < B) : Dig B (xs ++ [d]) := h.append (Dig.cons h0 h1 Dig.nil)

noncomputable def P_shift_left : PF := fun args H Q => ∃ a xs, ∃ n w : Nat, args = [.ref a, .int n, .int w] ∧ H a = some (.list (iv xs)) ∧ xs.length ≤ 1000 ∧ 1 ≤ w ∧ w ≤ 9 ∧ n < w ∧ Dig (2 ^ w) xs ∧
  ∀ r H' ys, Ext H H' → H r = none → H' r = some (.list (iv ys)) → Dig (2 ^ w) ys → val (2 ^ w) ys = val (2 ^ w) xs * 2 ^ n → (ys.length = xs.length ∨ (ys.length = xs.length + 1 ∧ (2 ^ w) ^ xs.length ≤ val (2 ^ w) ys)) → Q (.ref r) H'

noncomputable def t_shift_left_5 : PS := (sCons (sRet (cVar 5)) sNil)
noncomputable def t_shift_left_3b_2 : PS := (sCons (sAug 6 oShr (cVar 2)) sNil)
noncomputable def t_shift_left_3b_1 : PS := (sCons (sExpr (eApp (cVar 5) (cBin oAnd (cVar 6) (cVar 7)))) t_shift_left_3b_2)
noncomputable def t_shift_left_3b_0 : PS := (sCons (sAug 6 oOr (cBin oShl (cVar 8) (cVar 4))) t_shift_left_3b_1)
noncomputable def t_shift_left_4 : PS := (sCons (sIf (tCmp kGt (cVar 6) (cInt 0)) (sCons (sExpr (eApp (cVar 5) (cVar 6))) sNil) sNil) t_shift_left_5)
noncomputable def t_shift_left_3 : PS := (sCons (sForL 8 (cVar 0) t_shift_left_3b_0) t_shift_left_4)
noncomputable def t_shift_left_2 : PS := (sCons (sAssign3 5 6 7 (cBin oMul (eList (aCons (cInt 0) aNil)) (cVar 3)) (cInt 0) (cBin oSub (cBin oShl (cInt 1) (cVar 2)) (cInt 1))) t_shift_left_3)
noncomputable def t_shift_left_1 : PS := (sCons (sAssign2 3 4 (cBin oFdiv (cVar 1) (cVar 2)) (cBin oMod (cVar 1) (cVar 2))) t_shift_left_2)
noncomputable def ps_shift_left : PS := (sCons (sIf (tCmp kEq (eCall fLen (aCons (cVar 0) aNil)) (cInt 0)) (sCons (sRet (eList aNil)) sNil) sNil) t_shift_left_1)

theorem small_div {n w : Nat} (h : n < w) : (n : Int).fdiv w = 0 ∧ (n : Int).fmod w = n := by
  rw [fdiv_pos (by (with_reducible exact Int.natCast_nonneg _)), fmod_pos (by (with_reducible exact Int.natCast_nonneg _))]
  exact ⟨Int.ediv_eq_zero_of_lt (by (with_reducible exact Int.natCast_nonneg _)) (by (with_reducible exact clt (by assumption))), Int.emod_eq_of_lt (by (with_reducible exact Int.natCast_nonneg _)) (by (with_reducible exact clt (by assumption)))⟩
theorem iv_at {xs : List Int} {k : Nat} {v : V} (h : (iv xs)[k]? = some v) : k < xs.length ∧ v = .int (xs.getD k 0) := by
  have hk : k < xs.length := by
    have := (List.getElem?_eq_some_iff.mp h).1
    rwa [iv_length] at this
  rw [iv_get hk] at h
  cases h
  exact ⟨hk, rfl⟩

theorem pu_shift_left (args : List V) (H : Hp) (Q : V → Hp → Prop) (h : P_shift_left args H Q) : args.length = 3 ∧ ps_shift_left (fun i => args[i]?) H (retQ Q) := by
  obtain ⟨a, xs, n, w, rfl, ha, hl, hw, hw9, hnw, dx, hQ⟩ := h
  refine ⟨rfl, ?_⟩
  have hB := two_le hw
  have hB9 := le_512 hw9
  have hpn : (0 : Int) < 2 ^ n := Int.pow_pos (by decide)
  have hpw : (2 : Int) ^ n * 2 ^ (w - n) = 2 ^ w := by rw [← Int.pow_add]; congr 1; (clear hl hw hw9 hQ hB hB9 hpn; lia)
  have hpq : (2 : Int) ≤ 2 ^ (w - n) := two_le (by (clear hl hw hw9 hQ hB hB9 hpn hpw; lia))
  have hnB : (2 : Int) ^ n ≤ 2 ^ w := pow_le_pow (by decide) (by (with_reducible exact Nat.le_of_lt (by assumption)))
  (repeat (first | dsimp only [sCons, sNil, sAssign2, sAssign3, sAug, sIf, sRet, sExpr, eCall, aNil, aCons, cInt, cBin, eList, eApp, tCmp, oSub_i, oMul_i, oFdiv_i, oMod_i, oShl_i, oShr_i, oAnd_i, oOr_i, kGt_i, kEq_i, oMul_r, fLen_r, vBool_b, vInt_i, vRef_r, LoopQ_next, LoopQ_ret, retQ_next, retQ_ret, cv0_3, cv0_4, cv0_5, cv0_6, cv0_7, cv0_8, cvl0, cv1_3, cv1_4, cv1_5, cv1_6, cv1_7, cv1_8, cvl1, cv2_3, cv2_4, cv2_5, cv2_6, cv2_7, cv2_8, cvl2, cv3, cv3_4, cv3_5, cv3_6, cv3_7, cv3_8, cvl3, cv4, cv4_3, cv4_5, cv4_6, cv4_7, cv4_8, cvl4, cv5, cv5_3, cv5_4, cv5_6, cv5_7, cv5_8, cv6, cv6_3, cv6_4, cv6_5, cv6_7, cv6_8, cv7, cv7_3, cv7_4, cv7_5, cv7_6, cv7_8, cv8, cv8_3, cv8_4, cv8_5, cv8_6, cv8_7, ps_shift_left] | simp only [reduceIte, if_true, if_false, Bool.false_eq_true, reduceCtorEq] | with_reducible refine head_of t_shift_left_5.eq_1 ?_ | with_reducible refine head_of t_shift_left_3b_2.eq_1 ?_ | with_reducible refine head_of t_shift_left_3b_1.eq_1 ?_ | with_reducible refine head_of t_shift_left_3b_0.eq_1 ?_ | with_reducible refine head_of t_shift_left_4.eq_1 ?_ | with_reducible refine head_of t_shift_left_3.eq_1 ?_ | with_reducible refine head_of t_shift_left_2.eq_1 ?_ | with_reducible refine head_of t_shift_left_1.eq_1 ?_))
  refine len_iv ha (by (with_reducible exact c20 (by assumption))) ?_
  (repeat (first | dsimp only [sCons, sNil, sAssign2, sAssign3, sAug, sIf, sRet, sExpr, eCall, aNil, aCons, cInt, cBin, eList, eApp, tCmp, oSub_i, oMul_i, oFdiv_i, oMod_i, oShl_i, oShr_i, oAnd_i, oOr_i, kGt_i, kEq_i, oMul_r, fLen_r, vBool_b, vInt_i, vRef_r, LoopQ_next, LoopQ_ret, retQ_next, retQ_ret, cv0_3, cv0_4, cv0_5, cv0_6, cv0_7, cv0_8, cvl0, cv1_3, cv1_4, cv1_5, cv1_6, cv1_7, cv1_8, cvl1, cv2_3, cv2_4, cv2_5, cv2_6, cv2_7, cv2_8, cvl2, cv3, cv3_4, cv3_5, cv3_6, cv3_7, cv3_8, cvl3, cv4, cv4_3, cv4_5, cv4_6, cv4_7, cv4_8, cvl4, cv5, cv5_3, cv5_4, cv5_6, cv5_7, cv5_8, cv6, cv6_3, cv6_4, cv6_5, cv6_7, cv6_8, cv7, cv7_3, cv7_4, cv7_5, cv7_6, cv7_8, cv8, cv8_3, cv8_4, cv8_5, cv8_6, cv8_7] | simp only [reduceIte, if_true, if_false, Bool.false_eq_true, reduceCtorEq] | with_reducible refine head_of t_shift_left_5.eq_1 ?_ | with_reducible refine head_of t_shift_left_3b_2.eq_1 ?_ | with_reducible refine head_of t_shift_left_3b_1.eq_1 ?_ | with_reducible refine head_of t_shift_left_3b_0.eq_1 ?_ | with_reducible refine head_of t_shift_left_4.eq_1 ?_ | with_reducible refine head_of t_shift_left_3.eq_1 ?_ | with_reducible refine head_of t_shift_left_2.eq_1 ?_ | with_reducible refine head_of t_shift_left_1.eq_1 ?_))
  by_cases hx : xs = []
  · subst hx
    (repeat (first | dsimp only [sCons, sNil, sAssign2, sAssign3, sAug, sIf, sRet, sExpr, eCall, aNil, aCons, cInt, cBin, eList, eApp, tCmp, oSub_i, oMul_i, oFdiv_i, oMod_i, oShl_i, oShr_i, oAnd_i, oOr_i, kGt_i, kEq_i, oMul_r, fLen_r, vBool_b, vInt_i, vRef_r, LoopQ_next, LoopQ_ret, retQ_next, retQ_ret, cv0_3, cv0_4, cv0_5, cv0_6, cv0_7, cv0_8, cvl0, cv1_3, cv1_4, cv1_5, cv1_6, cv1_7, cv1_8, cvl1, cv2_3, cv2_4, cv2_5, cv2_6, cv2_7, cv2_8, cvl2, cv3, cv3_4, cv3_5, cv3_6, cv3_7, cv3_8, cvl3, cv4, cv4_3, cv4_5, cv4_6, cv4_7, cv4_8, cvl4, cv5, cv5_3, cv5_4, cv5_6, cv5_7, cv5_8, cv6, cv6_3, cv6_4, cv6_5, cv6_7, cv6_8, cv7, cv7_3, cv7_4, cv7_5, cv7_6, cv7_8, cv8, cv8_3, cv8_4, cv8_5, cv8_6, cv8_7] | simp only [reduceIte, if_true, if_false, Bool.false_eq_true, reduceCtorEq, List.length_nil, Int.ofNat_zero, Int.natCast_zero, decide_true, Nat.cast_ofNat_Int] | with_reducible refine head_of t_shift_left_5.eq_1 ?_ | with_reducible refine head_of t_shift_left_3b_2.eq_1 ?_ | with_reducible refine head_of t_shift_left_3b_1.eq_1 ?_ | with_reducible refine head_of t_shift_left_3b_0.eq_1 ?_ | with_reducible refine head_of t_shift_left_4.eq_1 ?_ | with_reducible refine head_of t_shift_left_3.eq_1 ?_ | with_reducible refine head_of t_shift_left_2.eq_1 ?_ | with_reducible refine head_of t_shift_left_1.eq_1 ?_))
    refine ⟨by simp, fun r hr => ?_⟩
    exact hQ r _ [] (Ext.upd hr) hr (updH_same ..) Dig.nil (by simp [val]) (.inl rfl)
  · have hxl : 0 < xs.length := List.length_pos_iff.mpr hx
    rw [show decide ((xs.length : Int) = 0) = false from decide_eq_false (by (clear hl hw hw9 hnw hQ hB hB9 hpn hpw hpq hnB hx; lia))]
    (repeat (first | dsimp only [sCons, sNil, sAssign2, sAssign3, sAug, sIf, sRet, sExpr, eCall, aNil, aCons, cInt, cBin, eList, eApp, tCmp, oSub_i, oMul_i, oFdiv_i, oMod_i, oShl_i, oShr_i, oAnd_i, oOr_i, kGt_i, kEq_i, oMul_r, fLen_r, vBool_b, vInt_i, vRef_r, LoopQ_next, LoopQ_ret, retQ_next, retQ_ret, cv0_3, cv0_4, cv0_5, cv0_6, cv0_7, cv0_8, cvl0, cv1_3, cv1_4, cv1_5, cv1_6, cv1_7, cv1_8, cvl1, cv2_3, cv2_4, cv2_5, cv2_6, cv2_7, cv2_8, cvl2, cv3, cv3_4, cv3_5, cv3_6, cv3_7, cv3_8, cvl3, cv4, cv4_3, cv4_5, cv4_6, cv4_7, cv4_8, cvl4, cv5, cv5_3, cv5_4, cv5_6, cv5_7, cv5_8, cv6, cv6_3, cv6_4, cv6_5, cv6_7, cv6_8, cv7, cv7_3, cv7_4, cv7_5, cv7_6, cv7_8, cv8, cv8_3, cv8_4, cv8_5, cv8_6, cv8_7] | simp only [reduceIte, if_true, if_false, Bool.false_eq_true, reduceCtorEq] | with_reducible refine head_of t_shift_left_5.eq_1 ?_ | with_reducible refine head_of t_shift_left_3b_2.eq_1 ?_ | with_reducible refine head_of t_shift_left_3b_1.eq_1 ?_ | with_reducible refine head_of t_shift_left_3b_0.eq_1 ?_ | with_reducible refine head_of t_shift_left_4.eq_1 ?_ | with_reducible refine head_of t_shift_left_3.eq_1 ?_ | with_reducible refine head_of t_shift_left_2.eq_1 ?_ | with_reducible refine head_of t_shift_left_1.eq_1 ?_))
    refine ⟨by (clear hl hw9 hnw hQ hB hB9 hpn hpw hpq hnB hx hxl; lia), Small.le (by (clear hl hw hw9 hnw hQ hB hB9 hpn hpw hpq hnB hx hxl; lia)) (by (clear hl hw hnw hQ hB hB9 hpn hpw hpq hnB hx hxl; lia)), by lia, by simp, fun r0 h0 => ?_⟩
    (repeat (first | dsimp only [sCons, sNil, sAssign2, sAssign3, sAug, sIf, sRet, sExpr, eCall, aNil, aCons, cInt, cBin, eList, eApp, tCmp, oSub_i, oMul_i, oFdiv_i, oMod_i, oShl_i, oShr_i, oAnd_i, oOr_i, kGt_i, kEq_i, oMul_r, fLen_r, vBool_b, vInt_i, vRef_r, LoopQ_next, LoopQ_ret, retQ_next, retQ_ret, cv0_3, cv0_4, cv0_5, cv0_6, cv0_7, cv0_8, cvl0, cv1_3, cv1_4, cv1_5, cv1_6, cv1_7, cv1_8, cvl1, cv2_3, cv2_4, cv2_5, cv2_6, cv2_7, cv2_8, cvl2, cv3, cv3_4, cv3_5, cv3_6, cv3_7, cv3_8, cvl3, cv4, cv4_3, cv4_5, cv4_6, cv4_7, cv4_8, cvl4, cv5, cv5_3, cv5_4, cv5_6, cv5_7, cv5_8, cv6, cv6_3, cv6_4, cv6_5, cv6_7, cv6_8, cv7, cv7_3, cv7_4, cv7_5, cv7_6, cv7_8, cv8, cv8_3, cv8_4, cv8_5, cv8_6, cv8_7] | simp only [reduceIte, if_true, if_false, Bool.false_eq_true, reduceCtorEq] | with_reducible refine head_of t_shift_left_5.eq_1 ?_ | with_reducible refine head_of t_shift_left_3b_2.eq_1 ?_ | with_reducible refine head_of t_shift_left_3b_1.eq_1 ?_ | with_reducible refine head_of t_shift_left_3b_0.eq_1 ?_ | with_reducible refine head_of t_shift_left_4.eq_1 ?_ | with_reducible refine head_of t_shift_left_3.eq_1 ?_ | with_reducible refine head_of t_shift_left_2.eq_1 ?_ | with_reducible refine head_of t_shift_left_1.eq_1 ?_))
    refine ⟨.int 0, updH_same .., by rw [(small_div hnw).1]; (with_reducible exact Int.le_refl _), by rw [(small_div hnw).1]; (with_reducible exact cposn), fun r1 h1 => ?_⟩
    have h1' : H r1 = none := (Ext.upd h0).free h1
    rw [(small_div hnw).1, (small_div hnw).2]
    have x1 : Ext H (updH (updH H r0 (O.list [V.int 0])) r1 (O.list (List.replicate (Int.toNat 0) (V.int 0)))) := (Ext.upd h0).trans (Ext.upd h1)
    (repeat (first | dsimp only [sCons, sNil, sAssign2, sAssign3, sAug, sIf, sRet, sExpr, eCall, aNil, aCons, cInt, cBin, eList, eApp, tCmp, oSub_i, oMul_i, oFdiv_i, oMod_i, oShl_i, oShr_i, oAnd_i, oOr_i, kGt_i, kEq_i, oMul_r, fLen_r, vBool_b, vInt_i, vRef_r, LoopQ_next, LoopQ_ret, retQ_next, retQ_ret, cv0_3, cv0_4, cv0_5, cv0_6, cv0_7, cv0_8, cvl0, cv1_3, cv1_4, cv1_5, cv1_6, cv1_7, cv1_8, cvl1, cv2_3, cv2_4, cv2_5, cv2_6, cv2_7, cv2_8, cvl2, cv3, cv3_4, cv3_5, cv3_6, cv3_7, cv3_8, cvl3, cv4, cv4_3, cv4_5, cv4_6, cv4_7, cv4_8, cvl4, cv5, cv5_3, cv5_4, cv5_6, cv5_7, cv5_8, cv6, cv6_3, cv6_4, cv6_5, cv6_7, cv6_8, cv7, cv7_3, cv7_4, cv7_5, cv7_6, cv7_8, cv8, cv8_3, cv8_4, cv8_5, cv8_6, cv8_7] | simp only [reduceIte, if_true, if_false, Bool.false_eq_true, reduceCtorEq] | with_reducible refine head_of t_shift_left_5.eq_1 ?_ | with_reducible refine head_of t_shift_left_3b_2.eq_1 ?_ | with_reducible refine head_of t_shift_left_3b_1.eq_1 ?_ | with_reducible refine head_of t_shift_left_3b_0.eq_1 ?_ | with_reducible refine head_of t_shift_left_4.eq_1 ?_ | with_reducible refine head_of t_shift_left_3.eq_1 ?_ | with_reducible refine head_of t_shift_left_2.eq_1 ?_ | with_reducible refine head_of t_shift_left_1.eq_1 ?_))
    refine ⟨by (with_reducible exact Int.natCast_nonneg _), by (with_reducible exact cw (by assumption)), by decide, ?_⟩
    (repeat (first | dsimp only [sCons, sNil, sAssign2, sAssign3, sAug, sIf, sRet, sExpr, eCall, aNil, aCons, cInt, cBin, eList, eApp, tCmp, oSub_i, oMul_i, oFdiv_i, oMod_i, oShl_i, oShr_i, oAnd_i, oOr_i, kGt_i, kEq_i, oMul_r, fLen_r, vBool_b, vInt_i, vRef_r, LoopQ_next, LoopQ_ret, retQ_next, retQ_ret, cv0_3, cv0_4, cv0_5, cv0_6, cv0_7, cv0_8, cvl0, cv1_3, cv1_4, cv1_5, cv1_6, cv1_7, cv1_8, cvl1, cv2_3, cv2_4, cv2_5, cv2_6, cv2_7, cv2_8, cvl2, cv3, cv3_4, cv3_5, cv3_6, cv3_7, cv3_8, cvl3, cv4, cv4_3, cv4_5, cv4_6, cv4_7, cv4_8, cvl4, cv5, cv5_3, cv5_4, cv5_6, cv5_7, cv5_8, cv6, cv6_3, cv6_4, cv6_5, cv6_7, cv6_8, cv7, cv7_3, cv7_4, cv7_5, cv7_6, cv7_8, cv8, cv8_3, cv8_4, cv8_5, cv8_6, cv8_7, sForL] | simp only [reduceIte, if_true, if_false, Bool.false_eq_true, reduceCtorEq, Int.one_mul, Int.toNat_natCast] | with_reducible refine head_of t_shift_left_5.eq_1 ?_ | with_reducible refine head_of t_shift_left_3b_2.eq_1 ?_ | with_reducible refine head_of t_shift_left_3b_1.eq_1 ?_ | with_reducible refine head_of t_shift_left_3b_0.eq_1 ?_ | with_reducible refine head_of t_shift_left_4.eq_1 ?_ | with_reducible refine head_of t_shift_left_3.eq_1 ?_ | with_reducible refine head_of t_shift_left_2.eq_1 ?_ | with_reducible refine head_of t_shift_left_1.eq_1 ?_))
    refine ⟨_, x1 _ _ ha, fun k m' H' => m' 2 = some (.int w) ∧ m' 4 = some (.int n) ∧ m' 5 = some (.ref r1) ∧ m' 7 = some (.int (2 ^ w - 1)) ∧ Ext H H' ∧ ∃ ys c, m' 6 = some (.int c) ∧ H' r1 = some (.list (iv ys)) ∧
      ys.length = k ∧ Dig (2 ^ w) ys ∧ 0 ≤ c ∧ c < 2 ^ n ∧ val (2 ^ w) ys + (2 ^ w) ^ k * c = val (2 ^ w) (xs.take k) * 2 ^ n,
      ⟨rfl, rfl, rfl, rfl, x1, [], 0, rfl, updH_same .., rfl, Dig.nil, by (with_reducible exact Int.le_refl _), hpn, by simp [val]⟩, ?_, ?_, ?_⟩
    · rintro k m' H' ⟨_, _, _, _, x2, _⟩
      exact x2 _ _ ha
    · intro k v m' H' hv hI
      refine loop_hide fun P hP => ?_
      obtain ⟨m2, m4, m5, m7, x2, ys, c, m6, hr, hyl, dy, hc0, hc1, hval⟩ := hI
      obtain ⟨hk, rfl⟩ := iv_at hv
      have hxk := dx.get (by (with_reducible exact cpos)) k
      (repeat (first | dsimp only [sCons, sNil, sAssign2, sAssign3, sAug, sIf, sRet, sExpr, eCall, aNil, aCons, cInt, cBin, eList, eApp, tCmp, oSub_i, oMul_i, oFdiv_i, oMod_i, oShl_i, oShr_i, oAnd_i, oOr_i, kGt_i, kEq_i, oMul_r, fLen_r, vBool_b, vInt_i, vRef_r, LoopQ_next, LoopQ_ret, retQ_next, retQ_ret, cv0_3, cv0_4, cv0_5, cv0_6, cv0_7, cv0_8, cvl0, cv1_3, cv1_4, cv1_5, cv1_6, cv1_7, cv1_8, cvl1, cv2_3, cv2_4, cv2_5, cv2_6, cv2_7, cv2_8, cvl2, cv3, cv3_4, cv3_5, cv3_6, cv3_7, cv3_8, cvl3, cv4, cv4_3, cv4_5, cv4_6, cv4_7, cv4_8, cvl4, cv5, cv5_3, cv5_4, cv5_6, cv5_7, cv5_8, cv6, cv6_3, cv6_4, cv6_5, cv6_7, cv6_8, cv7, cv7_3, cv7_4, cv7_5, cv7_6, cv7_8, cv8, cv8_3, cv8_4, cv8_5, cv8_6, cv8_7] | simp only [reduceIte, if_true, if_false, Bool.false_eq_true, reduceCtorEq, cVar_at m2, cVar_at m4, cVar_at m5, cVar_at m6, cVar_at m7] | with_reducible refine head_of t_shift_left_5.eq_1 ?_ | with_reducible refine head_of t_shift_left_3b_2.eq_1 ?_ | with_reducible refine head_of t_shift_left_3b_1.eq_1 ?_ | with_reducible refine head_of t_shift_left_3b_0.eq_1 ?_ | with_reducible refine head_of t_shift_left_4.eq_1 ?_ | with_reducible refine head_of t_shift_left_3.eq_1 ?_ | with_reducible refine head_of t_shift_left_2.eq_1 ?_ | with_reducible refine head_of t_shift_left_1.eq_1 ?_))
      refine ⟨by (with_reducible exact Int.natCast_nonneg _), by (clear hl hw hQ hB hB9 hpn hpw hpq hnB hx hxl hP hyl hc0 hc1 hval hk hxk; lia), by (clear hl hw hw9 hnw hQ hB hpn hpw hpq hnB hx hxl hP hyl hc0 hc1 hval hk; lia), ?_⟩
      rw [Int.toNat_natCast, bor_add' hxk.1 hc0 hc1]
      generalize ht : c + xs.getD k 0 * 2 ^ n = t
      have ht0 : 0 ≤ t := by have := Int.mul_nonneg hxk.1 (show (0 : Int) ≤ 2 ^ n by (with_reducible exact cposn)); (clear hl hw hw9 hnw hQ hB hB9 hpn hpw hpq hnB hx hxl hP hyl hc1 hval hk hxk; lia)
      have htB : t < 2 ^ w * 2 ^ n := by
        have : (xs.getD k 0 + 1) * 2 ^ n ≤ 2 ^ w * 2 ^ n := Int.mul_le_mul_of_nonneg_right (by (clear hl hw hw9 hnw hQ hB hB9 hpn hpw hpq hnB hx hxl hP hyl hc0 hc1 hval hk ht ht0 ha dx h0 h1 h1' x1 m2 m4 m5 m7 x2 m6 hr dy hv; lia)) (by (with_reducible exact cposn))
        rw [Int.add_mul, Int.one_mul] at this
        (clear hl hw hw9 hnw hQ hB hB9 hpn hpw hpq hnB hx hxl hP hyl hc0 hval hk hxk ht0; lia)
      (repeat (first | dsimp only [sCons, sNil, sAssign2, sAssign3, sAug, sIf, sRet, sExpr, eCall, aNil, aCons, cInt, cBin, eList, eApp, tCmp, oSub_i, oMul_i, oFdiv_i, oMod_i, oShl_i, oShr_i, oAnd_i, oOr_i, kGt_i, kEq_i, oMul_r, fLen_r, vBool_b, vInt_i, vRef_r, LoopQ_next, LoopQ_ret, retQ_next, retQ_ret, cv0_3, cv0_4, cv0_5, cv0_6, cv0_7, cv0_8, cvl0, cv1_3, cv1_4, cv1_5, cv1_6, cv1_7, cv1_8, cvl1, cv2_3, cv2_4, cv2_5, cv2_6, cv2_7, cv2_8, cvl2, cv3, cv3_4, cv3_5, cv3_6, cv3_7, cv3_8, cvl3, cv4, cv4_3, cv4_5, cv4_6, cv4_7, cv4_8, cvl4, cv5, cv5_3, cv5_4, cv5_6, cv5_7, cv5_8, cv6, cv6_3, cv6_4, cv6_5, cv6_7, cv6_8, cv7, cv7_3, cv7_4, cv7_5, cv7_6, cv7_8, cv8, cv8_3, cv8_4, cv8_5, cv8_6, cv8_7] | simp only [reduceIte, if_true, if_false, Bool.false_eq_true, reduceCtorEq, cVar_at m2, cVar_at m4, cVar_at m5, cVar_at m6, cVar_at m7] | with_reducible refine head_of t_shift_left_5.eq_1 ?_ | with_reducible refine head_of t_shift_left_3b_2.eq_1 ?_ | with_reducible refine head_of t_shift_left_3b_1.eq_1 ?_ | with_reducible refine head_of t_shift_left_3b_0.eq_1 ?_ | with_reducible refine head_of t_shift_left_4.eq_1 ?_ | with_reducible refine head_of t_shift_left_3.eq_1 ?_ | with_reducible refine head_of t_shift_left_2.eq_1 ?_ | with_reducible refine head_of t_shift_left_1.eq_1 ?_))
      refine ⟨isL_iv hr, app_iv hr (by (clear hw hw9 hnw hQ hB hB9 hpn hpw hpq hnB hx hxl hP hc0 hc1 hval hxk ht ht0 htB; lia)) ?_⟩
      (repeat (first | dsimp only [sCons, sNil, sAssign2, sAssign3, sAug, sIf, sRet, sExpr, eCall, aNil, aCons, cInt, cBin, eList, eApp, tCmp, oSub_i, oMul_i, oFdiv_i, oMod_i, oShl_i, oShr_i, oAnd_i, oOr_i, kGt_i, kEq_i, oMul_r, fLen_r, vBool_b, vInt_i, vRef_r, LoopQ_next, LoopQ_ret, retQ_next, retQ_ret, cv0_3, cv0_4, cv0_5, cv0_6, cv0_7, cv0_8, cvl0, cv1_3, cv1_4, cv1_5, cv1_6, cv1_7, cv1_8, cvl1, cv2_3, cv2_4, cv2_5, cv2_6, cv2_7, cv2_8, cvl2, cv3, cv3_4, cv3_5, cv3_6, cv3_7, cv3_8, cvl3, cv4, cv4_3, cv4_5, cv4_6, cv4_7, cv4_8, cvl4, cv5, cv5_3, cv5_4, cv5_6, cv5_7, cv5_8, cv6, cv6_3, cv6_4, cv6_5, cv6_7, cv6_8, cv7, cv7_3, cv7_4, cv7_5, cv7_6, cv7_8, cv8, cv8_3, cv8_4, cv8_5, cv8_6, cv8_7] | simp only [reduceIte, if_true, if_false, Bool.false_eq_true, reduceCtorEq, cVar_at m2, cVar_at m4, cVar_at m5, cVar_at m6, cVar_at m7] | with_reducible refine head_of t_shift_left_5.eq_1 ?_ | with_reducible refine head_of t_shift_left_3b_2.eq_1 ?_ | with_reducible refine head_of t_shift_left_3b_1.eq_1 ?_ | with_reducible refine head_of t_shift_left_3b_0.eq_1 ?_ | with_reducible refine head_of t_shift_left_4.eq_1 ?_ | with_reducible refine head_of t_shift_left_3.eq_1 ?_ | with_reducible refine head_of t_shift_left_2.eq_1 ?_ | with_reducible refine head_of t_shift_left_1.eq_1 ?_))
      refine ⟨by (with_reducible exact Int.natCast_nonneg _), ?_⟩
      rw [Int.toNat_natCast, band_mask ht0, fdiv_pos (by (with_reducible exact cposn))]
      refine hP _ _ ⟨m2, m4, m5, m7, x2.over h1', _, _, rfl, updH_same .., by simp [hyl], dy.snoc (Int.emod_nonneg _ (by (clear hl hw hw9 hnw hQ hB9 hpn hpw hpq hnB hx hxl hP hyl hc0 hc1 hval hk hxk ht ht0 htB; lia))) (Int.emod_lt_of_pos _ (by (with_reducible exact cpos))), Int.ediv_nonneg ht0 (by (with_reducible exact cposn)), ?_, ?_⟩
      · exact Int.ediv_lt_of_lt_mul (by (with_reducible exact cpos)) (by rw [Int.mul_comm]; exact htB)
      · rw [val_snoc, hyl, val_take_succ hk, Int.pow_succ]
        have e1 := Int.emod_add_mul_ediv t (2 ^ w)
        grind
    · rintro m' H' ⟨m2, m4, m5, m7, x2, ys, c, m6, hr, hyl, dy, hc0, hc1, hval⟩
      rw [iv_length] at hyl hval
      rw [List.take_length] at hval
      (repeat (first | dsimp only [sCons, sNil, sAssign2, sAssign3, sAug, sIf, sRet, sExpr, eCall, aNil, aCons, cInt, cBin, eList, eApp, tCmp, oSub_i, oMul_i, oFdiv_i, oMod_i, oShl_i, oShr_i, oAnd_i, oOr_i, kGt_i, kEq_i, oMul_r, fLen_r, vBool_b, vInt_i, vRef_r, LoopQ_next, LoopQ_ret, retQ_next, retQ_ret, cv0_3, cv0_4, cv0_5, cv0_6, cv0_7, cv0_8, cvl0, cv1_3, cv1_4, cv1_5, cv1_6, cv1_7, cv1_8, cvl1, cv2_3, cv2_4, cv2_5, cv2_6, cv2_7, cv2_8, cvl2, cv3, cv3_4, cv3_5, cv3_6, cv3_7, cv3_8, cvl3, cv4, cv4_3, cv4_5, cv4_6, cv4_7, cv4_8, cvl4, cv5, cv5_3, cv5_4, cv5_6, cv5_7, cv5_8, cv6, cv6_3, cv6_4, cv6_5, cv6_7, cv6_8, cv7, cv7_3, cv7_4, cv7_5, cv7_6, cv7_8, cv8, cv8_3, cv8_4, cv8_5, cv8_6, cv8_7] | simp only [reduceIte, if_true, if_false, Bool.false_eq_true, reduceCtorEq, cVar_at m6] | with_reducible refine head_of t_shift_left_5.eq_1 ?_ | with_reducible refine head_of t_shift_left_3b_2.eq_1 ?_ | with_reducible refine head_of t_shift_left_3b_1.eq_1 ?_ | with_reducible refine head_of t_shift_left_3b_0.eq_1 ?_ | with_reducible refine head_of t_shift_left_4.eq_1 ?_ | with_reducible refine head_of t_shift_left_3.eq_1 ?_ | with_reducible refine head_of t_shift_left_2.eq_1 ?_ | with_reducible refine head_of t_shift_left_1.eq_1 ?_))
      by_cases hc : c = 0
      · subst hc
        (repeat (first | dsimp only [sCons, sNil, sAssign2, sAssign3, sAug, sIf, sRet, sExpr, eCall, aNil, aCons, cInt, cBin, eList, eApp, tCmp, oSub_i, oMul_i, oFdiv_i, oMod_i, oShl_i, oShr_i, oAnd_i, oOr_i, kGt_i, kEq_i, oMul_r, fLen_r, vBool_b, vInt_i, vRef_r, LoopQ_next, LoopQ_ret, retQ_next, retQ_ret, cv0_3, cv0_4, cv0_5, cv0_6, cv0_7, cv0_8, cvl0, cv1_3, cv1_4, cv1_5, cv1_6, cv1_7, cv1_8, cvl1, cv2_3, cv2_4, cv2_5, cv2_6, cv2_7, cv2_8, cvl2, cv3, cv3_4, cv3_5, cv3_6, cv3_7, cv3_8, cvl3, cv4, cv4_3, cv4_5, cv4_6, cv4_7, cv4_8, cvl4, cv5, cv5_3, cv5_4, cv5_6, cv5_7, cv5_8, cv6, cv6_3, cv6_4, cv6_5, cv6_7, cv6_8, cv7, cv7_3, cv7_4, cv7_5, cv7_6, cv7_8, cv8, cv8_3, cv8_4, cv8_5, cv8_6, cv8_7] | simp only [reduceIte, if_true, if_false, Bool.false_eq_true, reduceCtorEq, Int.lt_irrefl, decide_false, cVar_at m5] | with_reducible refine head_of t_shift_left_5.eq_1 ?_ | with_reducible refine head_of t_shift_left_3b_2.eq_1 ?_ | with_reducible refine head_of t_shift_left_3b_1.eq_1 ?_ | with_reducible refine head_of t_shift_left_3b_0.eq_1 ?_ | with_reducible refine head_of t_shift_left_4.eq_1 ?_ | with_reducible refine head_of t_shift_left_3.eq_1 ?_ | with_reducible refine head_of t_shift_left_2.eq_1 ?_ | with_reducible refine head_of t_shift_left_1.eq_1 ?_))
        exact hQ r1 H' ys x2 h1' hr dy (by (clear hl hw hw9 hnw hQ hB hB9 hpn hpw hpq hnB hx hxl hyl hc0 hc1; lia)) (.inl hyl)
      · rw [show decide (0 < c) = true from decide_eq_true (by (clear hl hw hw9 hnw hQ hB hB9 hpn hpw hpq hnB hx hxl hyl hc1 hval; lia))]
        (repeat (first | dsimp only [sCons, sNil, sAssign2, sAssign3, sAug, sIf, sRet, sExpr, eCall, aNil, aCons, cInt, cBin, eList, eApp, tCmp, oSub_i, oMul_i, oFdiv_i, oMod_i, oShl_i, oShr_i, oAnd_i, oOr_i, kGt_i, kEq_i, oMul_r, fLen_r, vBool_b, vInt_i, vRef_r, LoopQ_next, LoopQ_ret, retQ_next, retQ_ret, cv0_3, cv0_4, cv0_5, cv0_6, cv0_7, cv0_8, cvl0, cv1_3, cv1_4, cv1_5, cv1_6, cv1_7, cv1_8, cvl1, cv2_3, cv2_4, cv2_5, cv2_6, cv2_7, cv2_8, cvl2, cv3, cv3_4, cv3_5, cv3_6, cv3_7, cv3_8, cvl3, cv4, cv4_3, cv4_5, cv4_6, cv4_7, cv4_8, cvl4, cv5, cv5_3, cv5_4, cv5_6, cv5_7, cv5_8, cv6, cv6_3, cv6_4, cv6_5, cv6_7, cv6_8, cv7, cv7_3, cv7_4, cv7_5, cv7_6, cv7_8, cv8, cv8_3, cv8_4, cv8_5, cv8_6, cv8_7] | simp only [reduceIte, if_true, if_false, Bool.false_eq_true, reduceCtorEq, cVar_at m5, cVar_at m6] | with_reducible refine head_of t_shift_left_5.eq_1 ?_ | with_reducible refine head_of t_shift_left_3b_2.eq_1 ?_ | with_reducible refine head_of t_shift_left_3b_1.eq_1 ?_ | with_reducible refine head_of t_shift_left_3b_0.eq_1 ?_ | with_reducible refine head_of t_shift_left_4.eq_1 ?_ | with_reducible refine head_of t_shift_left_3.eq_1 ?_ | with_reducible refine head_of t_shift_left_2.eq_1 ?_ | with_reducible refine head_of t_shift_left_1.eq_1 ?_))
        refine ⟨isL_iv hr, app_iv hr (by (clear hw hw9 hnw hQ hB hB9 hpn hpw hpq hnB hx hxl hc0 hc1 hval hc; lia)) ?_⟩
        (repeat (first | dsimp only [sCons, sNil, sAssign2, sAssign3, sAug, sIf, sRet, sExpr, eCall, aNil, aCons, cInt, cBin, eList, eApp, tCmp, oSub_i, oMul_i, oFdiv_i, oMod_i, oShl_i, oShr_i, oAnd_i, oOr_i, kGt_i, kEq_i, oMul_r, fLen_r, vBool_b, vInt_i, vRef_r, LoopQ_next, LoopQ_ret, retQ_next, retQ_ret, cv0_3, cv0_4, cv0_5, cv0_6, cv0_7, cv0_8, cvl0, cv1_3, cv1_4, cv1_5, cv1_6, cv1_7, cv1_8, cvl1, cv2_3, cv2_4, cv2_5, cv2_6, cv2_7, cv2_8, cvl2, cv3, cv3_4, cv3_5, cv3_6, cv3_7, cv3_8, cvl3, cv4, cv4_3, cv4_5, cv4_6, cv4_7, cv4_8, cvl4, cv5, cv5_3, cv5_4, cv5_6, cv5_7, cv5_8, cv6, cv6_3, cv6_4, cv6_5, cv6_7, cv6_8, cv7, cv7_3, cv7_4, cv7_5, cv7_6, cv7_8, cv8, cv8_3, cv8_4, cv8_5, cv8_6, cv8_7] | simp only [reduceIte, if_true, if_false, Bool.false_eq_true, reduceCtorEq, cVar_at m5] | with_reducible refine head_of t_shift_left_5.eq_1 ?_ | with_reducible refine head_of t_shift_left_3b_2.eq_1 ?_ | with_reducible refine head_of t_shift_left_3b_1.eq_1 ?_ | with_reducible refine head_of t_shift_left_3b_0.eq_1 ?_ | with_reducible refine head_of t_shift_left_4.eq_1 ?_ | with_reducible refine head_of t_shift_left_3.eq_1 ?_ | with_reducible refine head_of t_shift_left_2.eq_1 ?_ | with_reducible refine head_of t_shift_left_1.eq_1 ?_))
        have hv : val (2 ^ w) (ys ++ [c]) = val (2 ^ w) xs * 2 ^ n := by rw [val_snoc, hyl]; exact hval
        refine hQ r1 _ (ys ++ [c]) (x2.over h1') h1' (updH_same ..) (dy.snoc hc0 (by (with_reducible exact Int.lt_of_lt_of_le (by assumption) (by assumption)))) hv (.inr ⟨by simp [hyl], ?_⟩)
        rw [val_snoc, hyl]
        have h2 := val_nonneg (by (with_reducible exact cpos)) dy
        have h3 := Int.mul_le_mul_of_nonneg_left (show 1 ≤ c by (clear hl hw hw9 hnw hQ hB hB9 hpn hpw hpq hnB hx hxl hyl hc1 hval hv h2; lia)) (Int.le_of_lt (pow_pos' (show (0 : Int) < 2 ^ w by (with_reducible exact cpos)) xs.length))
        (clear hl hw hw9 hnw hQ hB hB9 hpn hpw hpq hnB hx hxl hyl hc0 hc1 hval hc hv; lia)
end Mine
end

section
open PySem
set_option linter.unusedVariables false
set_option linter.unusedSimpArgs false
namespace Mine

noncomputable def P_shift_right : PF := fun args H Q => ∃ a xs, ∃ n w : Nat, args = [.ref a, .int n, .int w] ∧ H a = some (.list (iv xs)) ∧ xs.length ≤ 1000 ∧ 1 ≤ w ∧ w ≤ 9 ∧ n < w ∧ Dig (2 ^ w) xs ∧
  ∀ r H' ys, Ext H H' → H r = none → H' r = some (.list (iv ys)) → IsRow (2 ^ w) (val (2 ^ w) xs / 2 ^ n) ys → Q (.ref r) H'

noncomputable def t_shift_right_2b_1 : PS := (sCons (sExpr (eApp (cVar 5) (cBin oAnd (cBin oOr (cBin oShr (eIdx (cVar 0) (cVar 7)) (cVar 4)) (cBin oShl (cVar 8) (cBin oSub (cVar 2) (cVar 4)))) (cVar 6)))) sNil)
noncomputable def t_shift_right_2b_0 : PS := (sCons (sAssign 8 (eIf (tCmp kLt (cBin oAdd (cVar 7) (cInt 1)) (eCall fLen (aCons (cVar 0) aNil))) (eIdx (cVar 0) (cBin oAdd (cVar 7) (cInt 1))) (cInt 0))) t_shift_right_2b_1)
noncomputable def t_shift_right_3 : PS := (sCons (sRet (eCall P_normal (aCons (cVar 5) aNil))) sNil)
noncomputable def t_shift_right_2 : PS := (sCons (sForR 7 (aCons (cVar 3) (aCons (eCall fLen (aCons (cVar 0) aNil)) aNil)) t_shift_right_2b_0) t_shift_right_3)
noncomputable def t_shift_right_1 : PS := (sCons (sAssign2 5 6 (eList aNil) (cBin oSub (cBin oShl (cInt 1) (cVar 2)) (cInt 1))) t_shift_right_2)
noncomputable def ps_shift_right : PS := (sCons (sAssign2 3 4 (cBin oFdiv (cVar 1) (cVar 2)) (cBin oMod (cVar 1) (cVar 2))) t_shift_right_1)

theorem if_idx {a k : Nat} {H : Hp} {xs : List Int} {K : V → Hp → Prop} (ha : H a = some (.list (iv xs))) (hl : xs.length ≤ 2 ^ 20) (h : K (.int (xs.getD ((k : Int) + 1).toNat 0)) H) :
    if decide ((k : Int) + 1 < xs.length) = true then idxK a ((k : Int) + 1) H K else K (.int 0) H := by
  by_cases hk : (k : Int) + 1 < xs.length
  · rw [if_pos (decide_eq_true hk)]
    exact idx_iv ha (by lia) hk hl h
  · rw [if_neg (by simpa using hk)]
    rw [List.getD_eq_getElem?_getD, List.getElem?_eq_none (by lia)] at h
    exact h
theorem shr_digit {p q B x y : Int} (hp : 0 < p) (hq : 0 < q) (hB : p * q = B) (hx0 : 0 ≤ x) (hx : x < B) (hy0 : 0 ≤ y) :
    x / p + 0 < q ∧ (x / p + y * q) % B = x / p + (y % p) * q ∧ 0 ≤ x / p + (y % p) * q ∧ x / p + (y % p) * q < B := by
  have h1 : x / p < q := Int.ediv_lt_of_lt_mul hp (by rw [Int.mul_comm, hB]; exact hx)
  have h0 : 0 ≤ x / p := Int.ediv_nonneg hx0 (by (with_reducible exact Int.le_of_lt (by assumption)))
  have h2 := Int.emod_nonneg y (show p ≠ 0 by (with_reducible exact cpz (by assumption)))
  have h3 := Int.emod_lt_of_pos y hp
  have h4 : (y % p + 1) * q ≤ p * q := Int.mul_le_mul_of_nonneg_right (by (clear hp hq hB hx0 hx hy0 h1 h0 h2; lia)) (by (with_reducible exact Int.le_of_lt (by assumption)))
  have h5 : 0 ≤ (y % p) * q := Int.mul_nonneg h2 (by (with_reducible exact Int.le_of_lt (by assumption)))
  rw [Int.add_mul, Int.one_mul, hB] at h4
  refine ⟨by (clear hp hq hB hx0 hx hy0 h0 h2 h3 h4 h5; lia), ?_, by (clear hp hq hB hx0 hx hy0 h1 h2 h3 h4; lia), by (clear hp hq hB hx0 hx hy0 h0 h2 h3 h5; lia)⟩
  have e : x / p + y * q = (x / p + (y % p) * q) + B * (y / p) := by
    have := Int.emod_add_mul_ediv y p
    grind
  rw [e, Int.add_mul_emod_self_left, Int.emod_eq_of_lt (by (clear hp hq hB hx0 hx hy0 h1 h2 h3 h4 e; omega)) (by (clear hp hq hB hx0 hx hy0 h0 h2 h3 h5 e; omega))]

theorem pu_shift_right (args : List V) (H : Hp) (Q : V → Hp → Prop) (h : P_shift_right args H Q) : args.length = 3 ∧ ps_shift_right (fun i => args[i]?) H (retQ Q) := by
  obtain ⟨a, xs, n, w, rfl, ha, hl, hw, hw9, hnw, dx, hQ⟩ := h
  refine ⟨rfl, ?_⟩
  have hB := two_le hw
  have hB9 := le_512 hw9
  have hpn : (0 : Int) < 2 ^ n := Int.pow_pos (by decide)
  have hpw : (2 : Int) ^ n * 2 ^ (w - n) = 2 ^ w := by rw [← Int.pow_add]; congr 1; (clear hl hw hw9 hQ hB hB9 hpn; lia)
  have hpq : (2 : Int) ≤ 2 ^ (w - n) := two_le (by (clear hl hw hw9 hQ hB hB9 hpn hpw; lia))
  have hnB : (2 : Int) ^ n ≤ 2 ^ w := pow_le_pow (by decide) (by (with_reducible exact Nat.le_of_lt (by assumption)))
  (repeat (first | dsimp only [sCons, sNil, sAssign, sAssign2, sRet, sExpr, eCall, aNil, aCons, cInt, cBin, eIf, eList, eIdx, eApp, tCmp, oAdd_i, oSub_i, oFdiv_i, oMod_i, oShl_i, oShr_i, oAnd_i, oOr_i, kLt_i, oAdd_r, fLen_r, vBool_b, vInt_i, vRef_r, LoopQ_next, LoopQ_ret, retQ_next, retQ_ret, cv0_3, cv0_4, cv0_5, cv0_6, cv0_7, cv0_8, cvl0, cv1_3, cv1_4, cv1_5, cv1_6, cv1_7, cv1_8, cvl1, cv2_3, cv2_4, cv2_5, cv2_6, cv2_7, cv2_8, cvl2, cv3, cv3_4, cv3_5, cv3_6, cv3_7, cv3_8, cvl3, cv4, cv4_3, cv4_5, cv4_6, cv4_7, cv4_8, cvl4, cv5, cv5_3, cv5_4, cv5_6, cv5_7, cv5_8, cv6, cv6_3, cv6_4, cv6_5, cv6_7, cv6_8, cv7, cv7_3, cv7_4, cv7_5, cv7_6, cv7_8, cv8, cv8_3, cv8_4, cv8_5, cv8_6, cv8_7, ps_shift_right] | simp only [reduceIte, if_true, if_false, Bool.false_eq_true, reduceCtorEq] | with_reducible refine head_of t_shift_right_2b_1.eq_1 ?_ | with_reducible refine head_of t_shift_right_2b_0.eq_1 ?_ | with_reducible refine head_of t_shift_right_3.eq_1 ?_ | with_reducible refine head_of t_shift_right_2.eq_1 ?_ | with_reducible refine head_of t_shift_right_1.eq_1 ?_))
  refine ⟨by (clear hl hw9 hnw hQ hB hB9 hpn hpw hpq hnB; lia), Small.le (by (clear hl hw hw9 hnw hQ hB hB9 hpn hpw hpq hnB; lia)) (by (clear hl hw hnw hQ hB hB9 hpn hpw hpq hnB; lia)), by lia, by simp, fun r1 h1 => ?_⟩
  rw [(small_div hnw).1, (small_div hnw).2]
  (repeat (first | dsimp only [sCons, sNil, sAssign, sAssign2, sRet, sExpr, eCall, aNil, aCons, cInt, cBin, eIf, eList, eIdx, eApp, tCmp, oAdd_i, oSub_i, oFdiv_i, oMod_i, oShl_i, oShr_i, oAnd_i, oOr_i, kLt_i, oAdd_r, fLen_r, vBool_b, vInt_i, vRef_r, LoopQ_next, LoopQ_ret, retQ_next, retQ_ret, cv0_3, cv0_4, cv0_5, cv0_6, cv0_7, cv0_8, cvl0, cv1_3, cv1_4, cv1_5, cv1_6, cv1_7, cv1_8, cvl1, cv2_3, cv2_4, cv2_5, cv2_6, cv2_7, cv2_8, cvl2, cv3, cv3_4, cv3_5, cv3_6, cv3_7, cv3_8, cvl3, cv4, cv4_3, cv4_5, cv4_6, cv4_7, cv4_8, cvl4, cv5, cv5_3, cv5_4, cv5_6, cv5_7, cv5_8, cv6, cv6_3, cv6_4, cv6_5, cv6_7, cv6_8, cv7, cv7_3, cv7_4, cv7_5, cv7_6, cv7_8, cv8, cv8_3, cv8_4, cv8_5, cv8_6, cv8_7] | simp only [reduceIte, if_true, if_false, Bool.false_eq_true, reduceCtorEq] | with_reducible refine head_of t_shift_right_2b_1.eq_1 ?_ | with_reducible refine head_of t_shift_right_2b_0.eq_1 ?_ | with_reducible refine head_of t_shift_right_3.eq_1 ?_ | with_reducible refine head_of t_shift_right_2.eq_1 ?_ | with_reducible refine head_of t_shift_right_1.eq_1 ?_))
  refine ⟨by (with_reducible exact Int.natCast_nonneg _), by (with_reducible exact cw (by assumption)), by decide, ?_⟩
  (repeat (first | dsimp only [sCons, sNil, sAssign, sAssign2, sRet, sExpr, eCall, aNil, aCons, cInt, cBin, eIf, eList, eIdx, eApp, tCmp, oAdd_i, oSub_i, oFdiv_i, oMod_i, oShl_i, oShr_i, oAnd_i, oOr_i, kLt_i, oAdd_r, fLen_r, vBool_b, vInt_i, vRef_r, LoopQ_next, LoopQ_ret, retQ_next, retQ_ret, cv0_3, cv0_4, cv0_5, cv0_6, cv0_7, cv0_8, cvl0, cv1_3, cv1_4, cv1_5, cv1_6, cv1_7, cv1_8, cvl1, cv2_3, cv2_4, cv2_5, cv2_6, cv2_7, cv2_8, cvl2, cv3, cv3_4, cv3_5, cv3_6, cv3_7, cv3_8, cvl3, cv4, cv4_3, cv4_5, cv4_6, cv4_7, cv4_8, cvl4, cv5, cv5_3, cv5_4, cv5_6, cv5_7, cv5_8, cv6, cv6_3, cv6_4, cv6_5, cv6_7, cv6_8, cv7, cv7_3, cv7_4, cv7_5, cv7_6, cv7_8, cv8, cv8_3, cv8_4, cv8_5, cv8_6, cv8_7, sForR] | simp only [reduceIte, if_true, if_false, Bool.false_eq_true, reduceCtorEq, Int.one_mul, Int.toNat_natCast] | with_reducible refine head_of t_shift_right_2b_1.eq_1 ?_ | with_reducible refine head_of t_shift_right_2b_0.eq_1 ?_ | with_reducible refine head_of t_shift_right_3.eq_1 ?_ | with_reducible refine head_of t_shift_right_2.eq_1 ?_ | with_reducible refine head_of t_shift_right_1.eq_1 ?_))
  have x1 : Ext H (updH H r1 (O.list [])) := Ext.upd h1
  refine len_iv (x1 _ _ ha) (by (with_reducible exact c20 (by assumption))) ?_
  (repeat (first | dsimp only [sCons, sNil, sAssign, sAssign2, sRet, sExpr, eCall, aNil, aCons, cInt, cBin, eIf, eList, eIdx, eApp, tCmp, oAdd_i, oSub_i, oFdiv_i, oMod_i, oShl_i, oShr_i, oAnd_i, oOr_i, kLt_i, oAdd_r, fLen_r, vBool_b, vInt_i, vRef_r, LoopQ_next, LoopQ_ret, retQ_next, retQ_ret, cv0_3, cv0_4, cv0_5, cv0_6, cv0_7, cv0_8, cvl0, cv1_3, cv1_4, cv1_5, cv1_6, cv1_7, cv1_8, cvl1, cv2_3, cv2_4, cv2_5, cv2_6, cv2_7, cv2_8, cvl2, cv3, cv3_4, cv3_5, cv3_6, cv3_7, cv3_8, cvl3, cv4, cv4_3, cv4_5, cv4_6, cv4_7, cv4_8, cvl4, cv5, cv5_3, cv5_4, cv5_6, cv5_7, cv5_8, cv6, cv6_3, cv6_4, cv6_5, cv6_7, cv6_8, cv7, cv7_3, cv7_4, cv7_5, cv7_6, cv7_8, cv8, cv8_3, cv8_4, cv8_5, cv8_6, cv8_7] | simp only [reduceIte, if_true, if_false, Bool.false_eq_true, reduceCtorEq] | with_reducible refine head_of t_shift_right_2b_1.eq_1 ?_ | with_reducible refine head_of t_shift_right_2b_0.eq_1 ?_ | with_reducible refine head_of t_shift_right_3.eq_1 ?_ | with_reducible refine head_of t_shift_right_2.eq_1 ?_ | with_reducible refine head_of t_shift_right_1.eq_1 ?_))
  refine ⟨_, _, _, rfl, ⟨by (clear hl hw hw9 hnw hQ hB hB9 hpn hpw hpq hnB; lia), by (with_reducible exact cposn), by (clear hl hw hw9 hnw hQ hB hB9 hpn hpw hpq hnB; lia), by (clear hw hw9 hnw hQ hB hB9 hpn hpw hpq hnB; lia), .inl rfl⟩, ?_⟩
  rw [rng_up]
  refine ⟨fun k m' H' => m' 0 = some (.ref a) ∧ m' 2 = some (.int w) ∧ m' 4 = some (.int n) ∧ m' 5 = some (.ref r1) ∧ m' 6 = some (.int (2 ^ w - 1)) ∧ Ext H H' ∧ k ≤ xs.length ∧ ∃ ys, H' r1 = some (.list (iv ys)) ∧
      ys.length = k ∧ Dig (2 ^ w) ys ∧ 2 ^ n * val (2 ^ w) ys + xs.getD 0 0 % 2 ^ n = val (2 ^ w) (xs.take k) + (2 ^ w) ^ k * (xs.getD k 0 % 2 ^ n),
      ⟨rfl, rfl, rfl, rfl, rfl, x1, Nat.zero_le _, [], updH_same .., rfl, Dig.nil, by simp [val]⟩, ?_, ?_⟩
  · intro k m' H' hk hI
    refine loop_hide fun P hP => ?_
    obtain ⟨m0, m2, m4, m5, m6, x2, hkl, ys, hr, hyl, dy, hval⟩ := hI
    have hxk := dx.get (by (with_reducible exact cpos)) k
    have hxk1 := dx.get (by (with_reducible exact cpos)) (k + 1)
    obtain ⟨d1, d2, d3, d4⟩ := shr_digit hpn (show (0 : Int) < 2 ^ (w - n) by (with_reducible exact cpos)) hpw hxk.1 hxk.2 hxk1.1
    have e0 : (0 : Int) + (k : Int) * 1 = k := by (clear hl hw hw9 hnw hQ hB hB9 hpn hpw hpq hnB hk hP hkl hyl hval hxk hxk1 d1 d2 d3 d4; lia)
    (repeat (first | dsimp only [sCons, sNil, sAssign, sAssign2, sRet, sExpr, eCall, aNil, aCons, cInt, cBin, eIf, eList, eIdx, eApp, tCmp, oAdd_i, oSub_i, oFdiv_i, oMod_i, oShl_i, oShr_i, oAnd_i, oOr_i, kLt_i, oAdd_r, fLen_r, vBool_b, vInt_i, vRef_r, LoopQ_next, LoopQ_ret, retQ_next, retQ_ret, cv0_3, cv0_4, cv0_5, cv0_6, cv0_7, cv0_8, cvl0, cv1_3, cv1_4, cv1_5, cv1_6, cv1_7, cv1_8, cvl1, cv2_3, cv2_4, cv2_5, cv2_6, cv2_7, cv2_8, cvl2, cv3, cv3_4, cv3_5, cv3_6, cv3_7, cv3_8, cvl3, cv4, cv4_3, cv4_5, cv4_6, cv4_7, cv4_8, cvl4, cv5, cv5_3, cv5_4, cv5_6, cv5_7, cv5_8, cv6, cv6_3, cv6_4, cv6_5, cv6_7, cv6_8, cv7, cv7_3, cv7_4, cv7_5, cv7_6, cv7_8, cv8, cv8_3, cv8_4, cv8_5, cv8_6, cv8_7] | simp only [reduceIte, if_true, if_false, Bool.false_eq_true, reduceCtorEq, cVar_at m0, cVar_at m2, cVar_at m4, cVar_at m5, cVar_at m6, e0] | with_reducible refine head_of t_shift_right_2b_1.eq_1 ?_ | with_reducible refine head_of t_shift_right_2b_0.eq_1 ?_ | with_reducible refine head_of t_shift_right_3.eq_1 ?_ | with_reducible refine head_of t_shift_right_2.eq_1 ?_ | with_reducible refine head_of t_shift_right_1.eq_1 ?_))
    refine len_iv (x2 _ _ ha) (by (with_reducible exact c20 (by assumption))) ?_
    (repeat (first | dsimp only [sCons, sNil, sAssign, sAssign2, sRet, sExpr, eCall, aNil, aCons, cInt, cBin, eIf, eList, eIdx, eApp, tCmp, oAdd_i, oSub_i, oFdiv_i, oMod_i, oShl_i, oShr_i, oAnd_i, oOr_i, kLt_i, oAdd_r, fLen_r, vBool_b, vInt_i, vRef_r, LoopQ_next, LoopQ_ret, retQ_next, retQ_ret, cv0_3, cv0_4, cv0_5, cv0_6, cv0_7, cv0_8, cvl0, cv1_3, cv1_4, cv1_5, cv1_6, cv1_7, cv1_8, cvl1, cv2_3, cv2_4, cv2_5, cv2_6, cv2_7, cv2_8, cvl2, cv3, cv3_4, cv3_5, cv3_6, cv3_7, cv3_8, cvl3, cv4, cv4_3, cv4_5, cv4_6, cv4_7, cv4_8, cvl4, cv5, cv5_3, cv5_4, cv5_6, cv5_7, cv5_8, cv6, cv6_3, cv6_4, cv6_5, cv6_7, cv6_8, cv7, cv7_3, cv7_4, cv7_5, cv7_6, cv7_8, cv8, cv8_3, cv8_4, cv8_5, cv8_6, cv8_7] | simp only [reduceIte, if_true, if_false, Bool.false_eq_true, reduceCtorEq] | with_reducible refine head_of t_shift_right_2b_1.eq_1 ?_ | with_reducible refine head_of t_shift_right_2b_0.eq_1 ?_ | with_reducible refine head_of t_shift_right_3.eq_1 ?_ | with_reducible refine head_of t_shift_right_2.eq_1 ?_ | with_reducible refine head_of t_shift_right_1.eq_1 ?_))
    refine if_idx (x2 _ _ ha) (by (with_reducible exact c20 (by assumption))) ?_
    rw [show ((k : Int) + 1).toNat = k + 1 by (clear hl hw hw9 hnw hQ hB hB9 hpn hpw hpq hnB hk hP hkl hval hxk hxk1 d1 d2 d3 d4 e0; lia)]
    (repeat (first | dsimp only [sCons, sNil, sAssign, sAssign2, sRet, sExpr, eCall, aNil, aCons, cInt, cBin, eIf, eList, eIdx, eApp, tCmp, oAdd_i, oSub_i, oFdiv_i, oMod_i, oShl_i, oShr_i, oAnd_i, oOr_i, kLt_i, oAdd_r, fLen_r, vBool_b, vInt_i, vRef_r, LoopQ_next, LoopQ_ret, retQ_next, retQ_ret, cv0_3, cv0_4, cv0_5, cv0_6, cv0_7, cv0_8, cvl0, cv1_3, cv1_4, cv1_5, cv1_6, cv1_7, cv1_8, cvl1, cv2_3, cv2_4, cv2_5, cv2_6, cv2_7, cv2_8, cvl2, cv3, cv3_4, cv3_5, cv3_6, cv3_7, cv3_8, cvl3, cv4, cv4_3, cv4_5, cv4_6, cv4_7, cv4_8, cvl4, cv5, cv5_3, cv5_4, cv5_6, cv5_7, cv5_8, cv6, cv6_3, cv6_4, cv6_5, cv6_7, cv6_8, cv7, cv7_3, cv7_4, cv7_5, cv7_6, cv7_8, cv8, cv8_3, cv8_4, cv8_5, cv8_6, cv8_7] | simp only [reduceIte, if_true, if_false, Bool.false_eq_true, reduceCtorEq, cVar_at m0, cVar_at m2, cVar_at m4, cVar_at m5, cVar_at m6, e0] | with_reducible refine head_of t_shift_right_2b_1.eq_1 ?_ | with_reducible refine head_of t_shift_right_2b_0.eq_1 ?_ | with_reducible refine head_of t_shift_right_3.eq_1 ?_ | with_reducible refine head_of t_shift_right_2.eq_1 ?_ | with_reducible refine head_of t_shift_right_1.eq_1 ?_))
    refine ⟨isL_iv hr, idx_iv (x2 _ _ ha) (by (with_reducible exact Int.natCast_nonneg _)) (by (with_reducible exact clt (by assumption))) (by (with_reducible exact c20 (by assumption))) ?_⟩
    (repeat (first | dsimp only [sCons, sNil, sAssign, sAssign2, sRet, sExpr, eCall, aNil, aCons, cInt, cBin, eIf, eList, eIdx, eApp, tCmp, oAdd_i, oSub_i, oFdiv_i, oMod_i, oShl_i, oShr_i, oAnd_i, oOr_i, kLt_i, oAdd_r, fLen_r, vBool_b, vInt_i, vRef_r, LoopQ_next, LoopQ_ret, retQ_next, retQ_ret, cv0_3, cv0_4, cv0_5, cv0_6, cv0_7, cv0_8, cvl0, cv1_3, cv1_4, cv1_5, cv1_6, cv1_7, cv1_8, cvl1, cv2_3, cv2_4, cv2_5, cv2_6, cv2_7, cv2_8, cvl2, cv3, cv3_4, cv3_5, cv3_6, cv3_7, cv3_8, cvl3, cv4, cv4_3, cv4_5, cv4_6, cv4_7, cv4_8, cvl4, cv5, cv5_3, cv5_4, cv5_6, cv5_7, cv5_8, cv6, cv6_3, cv6_4, cv6_5, cv6_7, cv6_8, cv7, cv7_3, cv7_4, cv7_5, cv7_6, cv7_8, cv8, cv8_3, cv8_4, cv8_5, cv8_6, cv8_7] | simp only [reduceIte, if_true, if_false, Bool.false_eq_true, reduceCtorEq, cVar_at m0, cVar_at m2, cVar_at m4, cVar_at m5, cVar_at m6, e0, Int.toNat_natCast] | with_reducible refine head_of t_shift_right_2b_1.eq_1 ?_ | with_reducible refine head_of t_shift_right_2b_0.eq_1 ?_ | with_reducible refine head_of t_shift_right_3.eq_1 ?_ | with_reducible refine head_of t_shift_right_2.eq_1 ?_ | with_reducible refine head_of t_shift_right_1.eq_1 ?_))
    refine ⟨by (with_reducible exact Int.natCast_nonneg _), by (clear hl hw hw9 hQ hB hB9 hpn hpw hpq hnB hk hP hkl hyl hval hxk hxk1 d1 d2 d3 d4 e0; lia), by (clear hl hw hnw hQ hB hB9 hpn hpw hpq hnB hk hP hkl hyl hval hxk hxk1 d1 d2 d3 d4 e0; lia), by (clear hl hw hw9 hnw hQ hB hpn hpw hpq hnB hk hP hkl hyl hval hxk d1 d2 d3 d4 e0; lia), ?_⟩
    rw [show ((w : Int) - n).toNat = w - n by (clear hl hw hw9 hQ hB hB9 hpn hpw hpq hnB hk hP hkl hyl hval hxk hxk1 d1 d2 d3 d4 e0; lia), fdiv_pos (by (with_reducible exact cposn))]
    have u0 : 0 ≤ xs.getD k 0 / 2 ^ n := Int.ediv_nonneg hxk.1 (by (with_reducible exact cposn))
    rw [bor_add' hxk1.1 u0 (by (clear hl hw hw9 hnw hQ hB hB9 hpn hpw hpq hnB hk hP hkl hyl hval hxk hxk1 d2 d3 d4 e0 u0; lia)), band_mask (by have := Int.mul_nonneg hxk1.1 (show (0 : Int) ≤ 2 ^ (w - n) by (with_reducible exact cposn)); (clear hl hw hw9 hnw hQ hB hB9 hpn hpw hpq hnB hk hP hkl hyl hval hxk hxk1 d1 d2 d3 d4 e0; lia)), d2]
    refine app_iv hr (by (clear hw hw9 hnw hQ hB hB9 hpn hpw hpq hnB hP hkl hval hxk hxk1 d1 d2 d3 d4 e0 u0; lia)) ?_
    (repeat (first | dsimp only [sCons, sNil, sAssign, sAssign2, sRet, sExpr, eCall, aNil, aCons, cInt, cBin, eIf, eList, eIdx, eApp, tCmp, oAdd_i, oSub_i, oFdiv_i, oMod_i, oShl_i, oShr_i, oAnd_i, oOr_i, kLt_i, oAdd_r, fLen_r, vBool_b, vInt_i, vRef_r, LoopQ_next, LoopQ_ret, retQ_next, retQ_ret, cv0_3, cv0_4, cv0_5, cv0_6, cv0_7, cv0_8, cvl0, cv1_3, cv1_4, cv1_5, cv1_6, cv1_7, cv1_8, cvl1, cv2_3, cv2_4, cv2_5, cv2_6, cv2_7, cv2_8, cvl2, cv3, cv3_4, cv3_5, cv3_6, cv3_7, cv3_8, cvl3, cv4, cv4_3, cv4_5, cv4_6, cv4_7, cv4_8, cvl4, cv5, cv5_3, cv5_4, cv5_6, cv5_7, cv5_8, cv6, cv6_3, cv6_4, cv6_5, cv6_7, cv6_8, cv7, cv7_3, cv7_4, cv7_5, cv7_6, cv7_8, cv8, cv8_3, cv8_4, cv8_5, cv8_6, cv8_7] | simp only [reduceIte, if_true, if_false, Bool.false_eq_true, reduceCtorEq, cVar_at m0, cVar_at m2, cVar_at m4, cVar_at m5, cVar_at m6, e0] | with_reducible refine head_of t_shift_right_2b_1.eq_1 ?_ | with_reducible refine head_of t_shift_right_2b_0.eq_1 ?_ | with_reducible refine head_of t_shift_right_3.eq_1 ?_ | with_reducible refine head_of t_shift_right_2.eq_1 ?_ | with_reducible refine head_of t_shift_right_1.eq_1 ?_))
    refine hP _ _ ⟨m0, m2, m4, m5, m6, x2.over h1, by (clear hl hw hw9 hnw hQ hB hB9 hpn hpw hpq hnB hP hkl hyl hval hxk hxk1 d1 d2 d3 d4 e0 u0; lia), _, updH_same .., by simp [hyl], dy.snoc d3 d4, ?_⟩
    rw [val_snoc, hyl, val_take_succ (by (with_reducible assumption)), Int.pow_succ]
    have e1 := Int.emod_add_mul_ediv (xs.getD k 0) (2 ^ n)
    grind
  · rintro m' H' ⟨m0, m2, m4, m5, m6, x2, hkl, ys, hr, hyl, dy, hval⟩
    rw [List.take_length, show xs.getD xs.length 0 = 0 by simp, Int.zero_emod, Int.mul_zero, Int.add_zero] at hval
    (repeat (first | dsimp only [sCons, sNil, sAssign, sAssign2, sRet, sExpr, eCall, aNil, aCons, cInt, cBin, eIf, eList, eIdx, eApp, tCmp, oAdd_i, oSub_i, oFdiv_i, oMod_i, oShl_i, oShr_i, oAnd_i, oOr_i, kLt_i, oAdd_r, fLen_r, vBool_b, vInt_i, vRef_r, LoopQ_next, LoopQ_ret, retQ_next, retQ_ret, cv0_3, cv0_4, cv0_5, cv0_6, cv0_7, cv0_8, cvl0, cv1_3, cv1_4, cv1_5, cv1_6, cv1_7, cv1_8, cvl1, cv2_3, cv2_4, cv2_5, cv2_6, cv2_7, cv2_8, cvl2, cv3, cv3_4, cv3_5, cv3_6, cv3_7, cv3_8, cvl3, cv4, cv4_3, cv4_5, cv4_6, cv4_7, cv4_8, cvl4, cv5, cv5_3, cv5_4, cv5_6, cv5_7, cv5_8, cv6, cv6_3, cv6_4, cv6_5, cv6_7, cv6_8, cv7, cv7_3, cv7_4, cv7_5, cv7_6, cv7_8, cv8, cv8_3, cv8_4, cv8_5, cv8_6, cv8_7] | simp only [reduceIte, if_true, if_false, Bool.false_eq_true, reduceCtorEq, cVar_at m5] | with_reducible refine head_of t_shift_right_2b_1.eq_1 ?_ | with_reducible refine head_of t_shift_right_2b_0.eq_1 ?_ | with_reducible refine head_of t_shift_right_3.eq_1 ?_ | with_reducible refine head_of t_shift_right_2.eq_1 ?_ | with_reducible refine head_of t_shift_right_1.eq_1 ?_))
    refine ⟨r1, ys, rfl, hr, by (clear hw hw9 hnw hQ hB hB9 hpn hpw hpq hnB hkl hval; lia), fun r H2 zs hs x3 hr2 hr3 => ?_⟩
    (repeat (first | dsimp only [sCons, sNil, sAssign, sAssign2, sRet, sExpr, eCall, aNil, aCons, cInt, cBin, eIf, eList, eIdx, eApp, tCmp, oAdd_i, oSub_i, oFdiv_i, oMod_i, oShl_i, oShr_i, oAnd_i, oOr_i, kLt_i, oAdd_r, fLen_r, vBool_b, vInt_i, vRef_r, LoopQ_next, LoopQ_ret, retQ_next, retQ_ret, cv0_3, cv0_4, cv0_5, cv0_6, cv0_7, cv0_8, cvl0, cv1_3, cv1_4, cv1_5, cv1_6, cv1_7, cv1_8, cvl1, cv2_3, cv2_4, cv2_5, cv2_6, cv2_7, cv2_8, cvl2, cv3, cv3_4, cv3_5, cv3_6, cv3_7, cv3_8, cvl3, cv4, cv4_3, cv4_5, cv4_6, cv4_7, cv4_8, cvl4, cv5, cv5_3, cv5_4, cv5_6, cv5_7, cv5_8, cv6, cv6_3, cv6_4, cv6_5, cv6_7, cv6_8, cv7, cv7_3, cv7_4, cv7_5, cv7_6, cv7_8, cv8, cv8_3, cv8_4, cv8_5, cv8_6, cv8_7] | simp only [reduceIte, if_true, if_false, Bool.false_eq_true, reduceCtorEq] | with_reducible refine head_of t_shift_right_2b_1.eq_1 ?_ | with_reducible refine head_of t_shift_right_2b_0.eq_1 ?_ | with_reducible refine head_of t_shift_right_3.eq_1 ?_ | with_reducible refine head_of t_shift_right_2.eq_1 ?_ | with_reducible refine head_of t_shift_right_1.eq_1 ?_))
    have hm0 := Int.emod_nonneg (xs.getD 0 0) (show (2 : Int) ^ n ≠ 0 by (with_reducible exact cpz (by assumption)))
    have hm1 := Int.emod_lt_of_pos (xs.getD 0 0) hpn
    have := divmod_eq (a := val (2 ^ w) xs) (q := val (2 ^ w) ys) (by rw [← hval, Int.mul_comm (2 ^ n)]) hm0 hm1
    refine hQ r H2 zs (x2.trans x3) (x2.free hr2) hr3 ?_
    rw [this.1]
    exact hs.row dy

/-! bits, divrem_small -/
noncomputable def P_bits : PF := fun args H Q => ∃ a x, ∃ w : Int, args = [.ref a, .int w] ∧ H a = some (.list (iv [x])) ∧ Small w ∧ Q (.int (Builtin.Int.intBits x)) H


noncomputable def ps_bits : PS := (sCons (sRet (eIf (tCmp kGt (eCall fLen (aCons (cVar 0) aNil)) (cInt 0)) (cBin oAdd (cBin oMul (cBin oSub (eCall fLen (aCons (cVar 0) aNil)) (cInt 1)) (cVar 1)) (eBits (eIdx (cVar 0) (eNeg (cInt 1))))) (cInt 0))) sNil)

theorem pu_bits (args : List V) (H : Hp) (Q : V → Hp → Prop) (h : P_bits args H Q) : args.length = 2 ∧ ps_bits (fun i => args[i]?) H (retQ Q) := by
  obtain ⟨a, x, w, rfl, ha, hw, hQ⟩ := h
  refine ⟨rfl, ?_⟩
  (repeat (first | dsimp only [sCons, sNil, sRet, eCall, aNil, aCons, cInt, cBin, eIf, eNeg, eIdx, eBits, tCmp, oAdd_i, oSub_i, oMul_i, kGt_i, oAdd_r, oMul_r, fLen_r, vBool_b, vInt_i, vRef_r, LoopQ_next, LoopQ_ret, retQ_next, retQ_ret, cvl0, cvl1, ps_bits] | simp only [reduceIte, if_true, if_false, Bool.false_eq_true, reduceCtorEq]))
  refine len_iv ha (by simp) ?_
  (repeat (first | dsimp only [sCons, sNil, sRet, eCall, aNil, aCons, cInt, cBin, eIf, eNeg, eIdx, eBits, tCmp, oAdd_i, oSub_i, oMul_i, kGt_i, oAdd_r, oMul_r, fLen_r, vBool_b, vInt_i, vRef_r, LoopQ_next, LoopQ_ret, retQ_next, retQ_ret, cvl0, cvl1] | simp only [reduceIte, if_true, if_false, Bool.false_eq_true, reduceCtorEq, List.length_cons, List.length_nil, Nat.zero_add]))
  rw [show decide ((0 : Int) < ((1 : Nat) : Int)) = true from rfl]
  (repeat (first | dsimp only [sCons, sNil, sRet, eCall, aNil, aCons, cInt, cBin, eIf, eNeg, eIdx, eBits, tCmp, oAdd_i, oSub_i, oMul_i, kGt_i, oAdd_r, oMul_r, fLen_r, vBool_b, vInt_i, vRef_r, LoopQ_next, LoopQ_ret, retQ_next, retQ_ret, cvl0, cvl1] | simp only [reduceIte, if_true, if_false, Bool.false_eq_true, reduceCtorEq]))
  refine len_iv ha (by simp) ?_
  (repeat (first | dsimp only [sCons, sNil, sRet, eCall, aNil, aCons, cInt, cBin, eIf, eNeg, eIdx, eBits, tCmp, oAdd_i, oSub_i, oMul_i, kGt_i, oAdd_r, oMul_r, fLen_r, vBool_b, vInt_i, vRef_r, LoopQ_next, LoopQ_ret, retQ_next, retQ_ret, cvl0, cvl1] | simp only [reduceIte, if_true, if_false, Bool.false_eq_true, reduceCtorEq, List.length_cons, List.length_nil, Nat.zero_add]))
  refine ⟨Small.le (by decide) (by decide), hw, ⟨_, .int x, ha, .inr ⟨rfl, rfl, by simp [iv]⟩, ?_⟩⟩
  (repeat (first | dsimp only [sCons, sNil, sRet, eCall, aNil, aCons, cInt, cBin, eIf, eNeg, eIdx, eBits, tCmp, oAdd_i, oSub_i, oMul_i, kGt_i, oAdd_r, oMul_r, fLen_r, vBool_b, vInt_i, vRef_r, LoopQ_next, LoopQ_ret, retQ_next, retQ_ret, cvl0, cvl1] | simp only [reduceIte, if_true, if_false, Bool.false_eq_true, reduceCtorEq]))
  rw [show (((1 : Nat) : Int) - 1) * w + (Builtin.Int.intBits x : Int) = Builtin.Int.intBits x by simp]
  exact hQ

noncomputable def P_divrem_small : PF := fun args H Q => ∃ a b xs d, ∃ w : Nat, args = [.ref a, .ref b, .int w] ∧ H a = some (.list (iv xs)) ∧ H b = some (.list (iv [d])) ∧ xs.length ≤ 1000 ∧ 1 ≤ w ∧ w ≤ 9 ∧ Dig (2 ^ w) xs ∧ 0 < d ∧ d < 2 ^ w ∧
  ∀ t r1 r2 H' qs rs, Ext H H' → H' t = some (.tup [.ref r1, .ref r2]) → H' r1 = some (.list (iv qs)) → H' r2 = some (.list (iv rs)) → IsRow (2 ^ w) (val (2 ^ w) xs / d) qs → IsRow (2 ^ w) (val (2 ^ w) xs % d) rs → Q (.ref t) H'

noncomputable def t_divrem_small_1 : PS := (sCons (sRet (eTup (aCons (cVar 3) (aCons (eIf (tCmp kGt (cVar 4) (cInt 0)) (eList (aCons (cVar 4) aNil)) (eList aNil)) aNil)))) sNil)
noncomputable def ps_divrem_small : PS := (sCons (sUnpack 3 4 (eCall P_divrem_limb (aCons (cVar 0) (aCons (eIdx (cVar 1) (cInt 0)) (aCons (cVar 2) aNil))))) t_divrem_small_1)

theorem pu_divrem_small (args : List V) (H : Hp) (Q : V → Hp → Prop) (h : P_divrem_small args H Q) : args.length = 3 ∧ ps_divrem_small (fun i => args[i]?) H (retQ Q) := by
  obtain ⟨a, b, xs, d, w, rfl, ha, hb, hl, hw, hw9, dx, hd, hdB, hQ⟩ := h
  refine ⟨rfl, ?_⟩
  have hB := two_le hw
  (repeat (first | dsimp only [sCons, sNil, sUnpack, sRet, eCall, aNil, aCons, cInt, eIf, eList, eTup, eIdx, tCmp, kGt_i, vBool_b, vInt_i, vRef_r, LoopQ_next, LoopQ_ret, retQ_next, retQ_ret, cv0_3, cv0_4, cvl0, cv1_3, cv1_4, cvl1, cv2_3, cv2_4, cvl2, cv3, cv3_4, cvl3, cv4, cv4_3, cvl4, ps_divrem_small] | simp only [reduceIte, if_true, if_false, Bool.false_eq_true, reduceCtorEq] | with_reducible refine head_of t_divrem_small_1.eq_1 ?_))
  refine idx_iv hb (by decide) (by simp) (by simp) ?_
  (repeat (first | dsimp only [sCons, sNil, sUnpack, sRet, eCall, aNil, aCons, cInt, eIf, eList, eTup, eIdx, tCmp, kGt_i, vBool_b, vInt_i, vRef_r, LoopQ_next, LoopQ_ret, retQ_next, retQ_ret, cv0_3, cv0_4, cvl0, cv1_3, cv1_4, cvl1, cv2_3, cv2_4, cvl2, cv3, cv3_4, cvl3, cv4, cv4_3, cvl4] | simp only [reduceIte, if_true, if_false, Bool.false_eq_true, reduceCtorEq] | with_reducible refine head_of t_divrem_small_1.eq_1 ?_))
  refine ⟨a, xs, d, w, rfl, ha, hl, hw, hw9, dx, hd, by (with_reducible exact Int.le_of_lt (by assumption)), fun t r H1 qs rem x1 ht0 hr0 ht hr hq hrem => ?_⟩
  (repeat (first | dsimp only [sCons, sNil, sUnpack, sRet, eCall, aNil, aCons, cInt, eIf, eList, eTup, eIdx, tCmp, kGt_i, vBool_b, vInt_i, vRef_r, LoopQ_next, LoopQ_ret, retQ_next, retQ_ret, cv0_3, cv0_4, cvl0, cv1_3, cv1_4, cvl1, cv2_3, cv2_4, cvl2, cv3, cv3_4, cvl3, cv4, cv4_3, cvl4] | simp only [reduceIte, if_true, if_false, Bool.false_eq_true, reduceCtorEq] | with_reducible refine head_of t_divrem_small_1.eq_1 ?_))
  refine ⟨_, _, ht, ?_⟩
  (repeat (first | dsimp only [sCons, sNil, sUnpack, sRet, eCall, aNil, aCons, cInt, eIf, eList, eTup, eIdx, tCmp, kGt_i, vBool_b, vInt_i, vRef_r, LoopQ_next, LoopQ_ret, retQ_next, retQ_ret, cv0_3, cv0_4, cvl0, cv1_3, cv1_4, cvl1, cv2_3, cv2_4, cvl2, cv3, cv3_4, cvl3, cv4, cv4_3, cvl4] | simp only [reduceIte, if_true, if_false, Bool.false_eq_true, reduceCtorEq] | with_reducible refine head_of t_divrem_small_1.eq_1 ?_))
  have hm0 := Int.emod_nonneg (val (2 ^ w) xs) (show d ≠ 0 by (with_reducible exact cpz (by assumption)))
  have hm1 := Int.emod_lt_of_pos (val (2 ^ w) xs) hd
  rw [← hrem] at hm0 hm1
  by_cases h0 : rem = 0
  · subst h0
    (repeat (first | dsimp only [sCons, sNil, sUnpack, sRet, eCall, aNil, aCons, cInt, eIf, eList, eTup, eIdx, tCmp, kGt_i, vBool_b, vInt_i, vRef_r, LoopQ_next, LoopQ_ret, retQ_next, retQ_ret, cv0_3, cv0_4, cvl0, cv1_3, cv1_4, cvl1, cv2_3, cv2_4, cvl2, cv3, cv3_4, cvl3, cv4, cv4_3, cvl4] | simp only [reduceIte, if_true, if_false, Bool.false_eq_true, reduceCtorEq, Int.lt_irrefl, decide_false] | with_reducible refine head_of t_divrem_small_1.eq_1 ?_))
    refine ⟨by simp, fun r2 hr2 => ⟨by simp, fun t2 ht2 => ?_⟩⟩
    have nt : t2 ≠ r2 := by rintro rfl; rw [updH_same] at ht2; cases ht2
    have hr' : updH H1 r2 (.list []) r = some (.list (iv qs)) := (Ext.upd hr2) _ _ hr
    refine hQ t2 r r2 _ qs [] (x1.trans ((Ext.upd hr2).trans (Ext.upd ht2))) (updH_same ..) ((Ext.upd ht2) _ _ hr') ?_ hq ⟨Dig.nil, norm_nil, hrem⟩
    rw [updH_ne _ _ nt.symm, updH_same]
    rfl
  · rw [show decide (0 < rem) = true from decide_eq_true (by (clear hl hw hw9 hd hdB hQ hB hrem hm1; lia))]
    (repeat (first | dsimp only [sCons, sNil, sUnpack, sRet, eCall, aNil, aCons, cInt, eIf, eList, eTup, eIdx, tCmp, kGt_i, vBool_b, vInt_i, vRef_r, LoopQ_next, LoopQ_ret, retQ_next, retQ_ret, cv0_3, cv0_4, cvl0, cv1_3, cv1_4, cvl1, cv2_3, cv2_4, cvl2, cv3, cv3_4, cvl3, cv4, cv4_3, cvl4] | simp only [reduceIte, if_true, if_false, Bool.false_eq_true, reduceCtorEq] | with_reducible refine head_of t_divrem_small_1.eq_1 ?_))
    refine ⟨by simp, fun r2 hr2 => ⟨by simp, fun t2 ht2 => ?_⟩⟩
    have nt : t2 ≠ r2 := by rintro rfl; rw [updH_same] at ht2; cases ht2
    have hr' : updH H1 r2 (.list [V.int rem]) r = some (.list (iv qs)) := (Ext.upd hr2) _ _ hr
    refine hQ t2 r r2 _ qs [rem] (x1.trans ((Ext.upd hr2).trans (Ext.upd ht2))) (updH_same ..) ((Ext.upd ht2) _ _ hr') ?_ hq ⟨Dig.cons hm0 (by (clear hl hw hw9 hd hQ hB hrem hm0 h0 nt; lia)) Dig.nil, by simp [Norm]; (with_reducible assumption), by simp [val, hrem]⟩
    rw [updH_ne _ _ nt.symm, updH_same]
    rfl
end Mine
end

section
open PySem
set_option linter.unusedVariables false
set_option linter.unusedSimpArgs false
namespace Mine

noncomputable def P_guessed_limb : PF := fun args H Q => ∃ a t0 t1 t2 f s, ∃ w : Nat, args = [.ref a, .int f, .int s, .int w] ∧ H a = some (.list (iv [t0, t1, t2])) ∧ 1 ≤ w ∧ w ≤ 9 ∧
  Dig (2 ^ w) [t0, t1, t2] ∧ 0 < f ∧ f < 2 ^ w ∧ 0 ≤ s ∧ s < 2 ^ w ∧
  ∀ g : Int, 0 ≤ g → g ≤ 2 ^ w - 1 → g * (f * 2 ^ w + s) ≤ (t2 * 2 ^ w + t1) * 2 ^ w + t0 → ((t2 * 2 ^ w + t1) * 2 ^ w + t0 < (g + 1) * (f * 2 ^ w + s) ∨ g = 2 ^ w - 1) → Q (.int g) H

noncomputable def t_guessed_limb_3b_1 : PS := (sCons (sAug 7 oIAdd (cVar 1)) sNil)
noncomputable def t_guessed_limb_3b_0 : PS := (sCons (sAug 6 oSub (cInt 1)) t_guessed_limb_3b_1)
noncomputable def t_guessed_limb_4 : PS := (sCons (sRet (cVar 6)) sNil)
noncomputable def t_guessed_limb_3 : PS := (sCons (sWhile (tAnd (tCmp kLt (cVar 7) (cVar 5)) (tAnd (tCmp kGt (cBin oMul (cVar 6) (cVar 2)) (cBin oOr (cBin oShl (cVar 7) (cVar 3)) (eIdx (cVar 0) (cInt 0)))) tAndNil)) t_guessed_limb_3b_0) t_guessed_limb_4)
noncomputable def t_guessed_limb_2 : PS := (sCons (sAssign 7 (cBin oSub (cVar 4) (cBin oMul (cVar 6) (cVar 1)))) t_guessed_limb_3)
noncomputable def t_guessed_limb_1 : PS := (sCons (sAssign 6 (eCall fMin (aCons (cBin oFdiv (cVar 4) (cVar 1)) (aCons (cBin oSub (cVar 5) (cInt 1)) aNil)))) t_guessed_limb_2)
noncomputable def ps_guessed_limb : PS := (sCons (sAssign2 4 5 (cBin oOr (cBin oShl (eIdx (cVar 0) (cInt 2)) (cVar 3)) (eIdx (cVar 0) (cInt 1))) (cBin oShl (cInt 1) (cVar 3))) t_guessed_limb_1)

theorem pu_guessed_limb (args : List V) (H : Hp) (Q : V → Hp → Prop) (h : P_guessed_limb args H Q) : args.length = 4 ∧ ps_guessed_limb (fun i => args[i]?) H (retQ Q) := by
  obtain ⟨a, t0, t1, t2, f, s, w, rfl, ha, hw, hw9, dt, hf, hfB, hs, hsB, hQ⟩ := h
  refine ⟨rfl, ?_⟩
  have hB := two_le hw
  have hB9 := le_512 hw9
  have d0 := dt.head
  have d1 := dt.tail.head
  have d2 := dt.tail.tail.head
  (repeat (first | dsimp only [sCons, sNil, sAssign, sAssign2, sAug, sRet, eCall, aNil, aCons, cInt, cBin, eIdx, tCmp, tAnd, tAndNil, oSub_i, oMul_i, oFdiv_i, oShl_i, oOr_i, oIAdd_i, kLt_i, kGt_i, oMul_r, fMin_i, vBool_b, vInt_i, vRef_r, LoopQ_next, LoopQ_ret, retQ_next, retQ_ret, cv0_4, cv0_5, cv0_6, cv0_7, cvl0, cv1_4, cv1_5, cv1_6, cv1_7, cvl1, cv2_4, cv2_5, cv2_6, cv2_7, cvl2, cv3_4, cv3_5, cv3_6, cv3_7, cvl3, cv4, cv4_5, cv4_6, cv4_7, cvl4, cv5, cv5_4, cv5_6, cv5_7, cv6, cv6_4, cv6_5, cv6_7, cv7, cv7_4, cv7_5, cv7_6, ps_guessed_limb] | simp only [reduceIte, if_true, if_false, Bool.false_eq_true, reduceCtorEq] | with_reducible refine head_of t_guessed_limb_3b_1.eq_1 ?_ | with_reducible refine head_of t_guessed_limb_3b_0.eq_1 ?_ | with_reducible refine head_of t_guessed_limb_4.eq_1 ?_ | with_reducible refine head_of t_guessed_limb_3.eq_1 ?_ | with_reducible refine head_of t_guessed_limb_2.eq_1 ?_ | with_reducible refine head_of t_guessed_limb_1.eq_1 ?_))
  refine idx_iv ha (by decide) (by simp) (by simp) ?_
  (repeat (first | dsimp only [sCons, sNil, sAssign, sAssign2, sAug, sRet, eCall, aNil, aCons, cInt, cBin, eIdx, tCmp, tAnd, tAndNil, oSub_i, oMul_i, oFdiv_i, oShl_i, oOr_i, oIAdd_i, kLt_i, kGt_i, oMul_r, fMin_i, vBool_b, vInt_i, vRef_r, LoopQ_next, LoopQ_ret, retQ_next, retQ_ret, cv0_4, cv0_5, cv0_6, cv0_7, cvl0, cv1_4, cv1_5, cv1_6, cv1_7, cvl1, cv2_4, cv2_5, cv2_6, cv2_7, cvl2, cv3_4, cv3_5, cv3_6, cv3_7, cvl3, cv4, cv4_5, cv4_6, cv4_7, cvl4, cv5, cv5_4, cv5_6, cv5_7, cv6, cv6_4, cv6_5, cv6_7, cv7, cv7_4, cv7_5, cv7_6] | simp only [reduceIte, if_true, if_false, Bool.false_eq_true, reduceCtorEq] | with_reducible refine head_of t_guessed_limb_3b_1.eq_1 ?_ | with_reducible refine head_of t_guessed_limb_3b_0.eq_1 ?_ | with_reducible refine head_of t_guessed_limb_4.eq_1 ?_ | with_reducible refine head_of t_guessed_limb_3.eq_1 ?_ | with_reducible refine head_of t_guessed_limb_2.eq_1 ?_ | with_reducible refine head_of t_guessed_limb_1.eq_1 ?_))
  simp only [show ((2 : Int)).toNat = 2 from rfl, List.getD_cons_succ, List.getD_cons_zero, Int.toNat_natCast]
  refine ⟨by (with_reducible exact Int.natCast_nonneg _), by (with_reducible exact cw (by assumption)), by (clear hw hw9 hf hfB hs hsB hQ hB d0 d1; lia), idx_iv ha (by decide) (by simp) (by simp) ?_⟩
  (repeat (first | dsimp only [sCons, sNil, sAssign, sAssign2, sAug, sRet, eCall, aNil, aCons, cInt, cBin, eIdx, tCmp, tAnd, tAndNil, oSub_i, oMul_i, oFdiv_i, oShl_i, oOr_i, oIAdd_i, kLt_i, kGt_i, oMul_r, fMin_i, vBool_b, vInt_i, vRef_r, LoopQ_next, LoopQ_ret, retQ_next, retQ_ret, cv0_4, cv0_5, cv0_6, cv0_7, cvl0, cv1_4, cv1_5, cv1_6, cv1_7, cvl1, cv2_4, cv2_5, cv2_6, cv2_7, cvl2, cv3_4, cv3_5, cv3_6, cv3_7, cvl3, cv4, cv4_5, cv4_6, cv4_7, cvl4, cv5, cv5_4, cv5_6, cv5_7, cv6, cv6_4, cv6_5, cv6_7, cv7, cv7_4, cv7_5, cv7_6] | simp only [reduceIte, if_true, if_false, Bool.false_eq_true, reduceCtorEq] | with_reducible refine head_of t_guessed_limb_3b_1.eq_1 ?_ | with_reducible refine head_of t_guessed_limb_3b_0.eq_1 ?_ | with_reducible refine head_of t_guessed_limb_4.eq_1 ?_ | with_reducible refine head_of t_guessed_limb_3.eq_1 ?_ | with_reducible refine head_of t_guessed_limb_2.eq_1 ?_ | with_reducible refine head_of t_guessed_limb_1.eq_1 ?_))
  simp only [show ((1 : Int)).toNat = 1 from rfl, List.getD_cons_succ, List.getD_cons_zero, Int.toNat_natCast, Int.one_mul]
  rw [bor_add d2.1 d1.1 d1.2]
  generalize hBe : (2 : Int) ^ w = B at *
  generalize hh : t2 * B + t1 = h at *
  have hB512 : B ≤ 512 := hB9
  have hh0 : 0 ≤ h := by have := Int.mul_nonneg d2.1 (show 0 ≤ B by (with_reducible exact cpn (by assumption))); (clear hw hw9 hf hs hBe hfB hsB hB hB9 d0 d2 hQ hB512; omega)
  have hhB : h < B * B := by
    have : (t2 + 1) * B ≤ B * B := Int.mul_le_mul_of_nonneg_right (by (clear hw hw9 hf hs hBe hfB hsB hB hB9 d0 d1 hh hQ hB512 hh0; lia)) (by (with_reducible exact cpn (by assumption)))
    rw [Int.add_mul, Int.one_mul] at this
    (clear hw hw9 hf hs hBe hfB hsB hB hB9 d0 d2 hQ hB512 hh0; omega)
  have hBB : B * B ≤ 512 * 512 := Int.mul_le_mul hB9 hB9 (by (with_reducible exact cpn (by assumption))) (by decide)
  refine ⟨by (with_reducible exact Int.natCast_nonneg _), by (with_reducible exact cw (by assumption)), by decide, ?_⟩
  (repeat (first | dsimp only [sCons, sNil, sAssign, sAssign2, sAug, sRet, eCall, aNil, aCons, cInt, cBin, eIdx, tCmp, tAnd, tAndNil, oSub_i, oMul_i, oFdiv_i, oShl_i, oOr_i, oIAdd_i, kLt_i, kGt_i, oMul_r, fMin_i, vBool_b, vInt_i, vRef_r, LoopQ_next, LoopQ_ret, retQ_next, retQ_ret, cv0_4, cv0_5, cv0_6, cv0_7, cvl0, cv1_4, cv1_5, cv1_6, cv1_7, cvl1, cv2_4, cv2_5, cv2_6, cv2_7, cvl2, cv3_4, cv3_5, cv3_6, cv3_7, cvl3, cv4, cv4_5, cv4_6, cv4_7, cvl4, cv5, cv5_4, cv5_6, cv5_7, cv6, cv6_4, cv6_5, cv6_7, cv7, cv7_4, cv7_5, cv7_6] | simp only [reduceIte, if_true, if_false, Bool.false_eq_true, reduceCtorEq, Int.one_mul, Int.toNat_natCast, hBe] | with_reducible refine head_of t_guessed_limb_3b_1.eq_1 ?_ | with_reducible refine head_of t_guessed_limb_3b_0.eq_1 ?_ | with_reducible refine head_of t_guessed_limb_4.eq_1 ?_ | with_reducible refine head_of t_guessed_limb_3.eq_1 ?_ | with_reducible refine head_of t_guessed_limb_2.eq_1 ?_ | with_reducible refine head_of t_guessed_limb_1.eq_1 ?_))
  refine ⟨by (with_reducible exact cpz (by assumption)), Small.le (by (with_reducible exact cm62' (by assumption))) (by (with_reducible exact c62 (by assumption) (by assumption))), ?_⟩
  rw [fdiv_pos (by (with_reducible exact Int.le_of_lt (by assumption)))]
  have q0 : 0 ≤ h / f := Int.ediv_nonneg hh0 (by (with_reducible exact Int.le_of_lt (by assumption)))
  have e1 := Int.emod_add_mul_ediv h f
  have m0 := Int.emod_nonneg h (show f ≠ 0 by (with_reducible exact cpz (by assumption)))
  have m1 := Int.emod_lt_of_pos h hf
  generalize hg0 : (if B - 1 < h / f then B - 1 else h / f) = g0
  have hg : 0 ≤ g0 ∧ g0 ≤ B - 1 ∧ g0 ≤ h / f ∧ (g0 = h / f ∨ g0 = B - 1) := by
    subst hg0
    split <;> omega
  have hr0 : 0 ≤ h - g0 * f := by
    have : g0 * f ≤ (h / f) * f := Int.mul_le_mul_of_nonneg_right hg.2.2.1 (by (with_reducible exact Int.le_of_lt (by assumption)))
    rw [Int.mul_comm (h / f)] at this
    (clear hw hw9 hf hs hBe hfB hsB hB hB9 d0 d1 d2 hh hQ hB512 hh0 hhB hBB q0 m1 hg0 hg; lia)
  have hinit : h * B + t0 < (g0 + 1) * (f * B + s) ∨ g0 = B - 1 := by
    rcases hg.2.2.2 with e | e
    · left
      rw [e]
      have h1 : h + 1 ≤ (h / f + 1) * f := by rw [Int.add_mul, Int.one_mul, Int.mul_comm (h / f)]; (clear hw hw9 hf hs hBe hfB hsB hB hB9 d0 d1 d2 hh hQ hB512 hh0 hhB hBB q0 m0 hg0 hg hr0 e; lia)
      have h2 : (h + 1) * B ≤ (h / f + 1) * f * B := Int.mul_le_mul_of_nonneg_right h1 (by (with_reducible exact cpn (by assumption)))
      have h3 : 0 ≤ (h / f + 1) * s := Int.mul_nonneg (by (clear hw hw9 hf hs hBe hfB hsB hB hB9 d0 d1 d2 hh hQ hB512 hh0 hhB hBB e1 m0 m1 hg0 hg hr0 e h1 h2; lia)) hs
      have h4 : (h / f + 1) * (f * B + s) = (h / f + 1) * f * B + (h / f + 1) * s := by grind
      rw [Int.add_mul, Int.one_mul] at h2
      (clear hw hw9 hf hs hBe hfB hsB hB hB9 d1 d2 hh hQ hB512 hh0 hhB hBB q0 e1 m0 m1 hg0 hg hr0 e h1; lia)
    · exact .inr e
  (repeat (first | dsimp only [sCons, sNil, sAssign, sAssign2, sAug, sRet, eCall, aNil, aCons, cInt, cBin, eIdx, tCmp, tAnd, tAndNil, oSub_i, oMul_i, oFdiv_i, oShl_i, oOr_i, oIAdd_i, kLt_i, kGt_i, oMul_r, fMin_i, vBool_b, vInt_i, vRef_r, LoopQ_next, LoopQ_ret, retQ_next, retQ_ret, cv0_4, cv0_5, cv0_6, cv0_7, cvl0, cv1_4, cv1_5, cv1_6, cv1_7, cvl1, cv2_4, cv2_5, cv2_6, cv2_7, cvl2, cv3_4, cv3_5, cv3_6, cv3_7, cvl3, cv4, cv4_5, cv4_6, cv4_7, cvl4, cv5, cv5_4, cv5_6, cv5_7, cv6, cv6_4, cv6_5, cv6_7, cv7, cv7_4, cv7_5, cv7_6] | simp only [reduceIte, if_true, if_false, Bool.false_eq_true, reduceCtorEq] | with_reducible refine head_of t_guessed_limb_3b_1.eq_1 ?_ | with_reducible refine head_of t_guessed_limb_3b_0.eq_1 ?_ | with_reducible refine head_of t_guessed_limb_4.eq_1 ?_ | with_reducible refine head_of t_guessed_limb_3.eq_1 ?_ | with_reducible refine head_of t_guessed_limb_2.eq_1 ?_ | with_reducible refine head_of t_guessed_limb_1.eq_1 ?_))
  refine ⟨Small.le (by (clear hw hw9 hf hs hBe hfB hsB hB hB9 d0 d1 d2 hh hQ hB512 hh0 hhB hBB q0 e1 m0 m1 hg0 hr0 hinit; lia)) (by (clear hw hw9 hf hs hBe hfB hsB hB d0 d1 d2 hh hQ hB512 hh0 hhB hBB q0 e1 m0 m1 hg0 hr0 hinit; lia)), Small.le (by (with_reducible exact cm62' (by assumption))) (by (with_reducible exact c62 (by assumption) (by assumption))), ?_⟩
  (repeat (first | dsimp only [sCons, sNil, sAssign, sAssign2, sAug, sRet, eCall, aNil, aCons, cInt, cBin, eIdx, tCmp, tAnd, tAndNil, oSub_i, oMul_i, oFdiv_i, oShl_i, oOr_i, oIAdd_i, kLt_i, kGt_i, oMul_r, fMin_i, vBool_b, vInt_i, vRef_r, LoopQ_next, LoopQ_ret, retQ_next, retQ_ret, cv0_4, cv0_5, cv0_6, cv0_7, cvl0, cv1_4, cv1_5, cv1_6, cv1_7, cvl1, cv2_4, cv2_5, cv2_6, cv2_7, cvl2, cv3_4, cv3_5, cv3_6, cv3_7, cvl3, cv4, cv4_5, cv4_6, cv4_7, cvl4, cv5, cv5_4, cv5_6, cv5_7, cv6, cv6_4, cv6_5, cv6_7, cv7, cv7_4, cv7_5, cv7_6] | simp only [reduceIte, if_true, if_false, Bool.false_eq_true, reduceCtorEq] | with_reducible refine head_of t_guessed_limb_3b_1.eq_1 ?_ | with_reducible refine head_of t_guessed_limb_3b_0.eq_1 ?_ | with_reducible refine head_of t_guessed_limb_4.eq_1 ?_ | with_reducible refine head_of t_guessed_limb_3.eq_1 ?_ | with_reducible refine head_of t_guessed_limb_2.eq_1 ?_ | with_reducible refine head_of t_guessed_limb_1.eq_1 ?_))
  refine while_hide (fun n m' H' => H' = H ∧ m' 0 = some (.ref a) ∧ m' 1 = some (.int f) ∧ m' 2 = some (.int s) ∧ m' 3 = some (.int w) ∧ m' 5 = some (.int B) ∧ m' 6 = some (.int n) ∧ m' 7 = some (.int (h - n * f)) ∧
    0 ≤ h - n * f ∧ (n : Int) ≤ B - 1 ∧ (h * B + t0 < ((n : Int) + 1) * (f * B + s) ∨ (n : Int) = B - 1)) ⟨g0.toNat, ?_⟩ ?_
  · rw [Int.toNat_of_nonneg hg.1]
    exact ⟨rfl, rfl, rfl, rfl, rfl, rfl, rfl, rfl, hr0, hg.2.1, hinit⟩
  · rintro n m' H' ⟨rfl, n0, n1, n2, n3, n5, n6, n7, hr, hn, hinv⟩ P hP
    (repeat (first | dsimp only [sCons, sNil, sAssign, sAssign2, sAug, sRet, eCall, aNil, aCons, cInt, cBin, eIdx, tCmp, tAnd, tAndNil, oSub_i, oMul_i, oFdiv_i, oShl_i, oOr_i, oIAdd_i, kLt_i, kGt_i, oMul_r, fMin_i, vBool_b, vInt_i, vRef_r, LoopQ_next, LoopQ_ret, retQ_next, retQ_ret, cv0_4, cv0_5, cv0_6, cv0_7, cvl0, cv1_4, cv1_5, cv1_6, cv1_7, cvl1, cv2_4, cv2_5, cv2_6, cv2_7, cvl2, cv3_4, cv3_5, cv3_6, cv3_7, cvl3, cv4, cv4_5, cv4_6, cv4_7, cvl4, cv5, cv5_4, cv5_6, cv5_7, cv6, cv6_4, cv6_5, cv6_7, cv7, cv7_4, cv7_5, cv7_6] | simp only [reduceIte, if_true, if_false, Bool.false_eq_true, reduceCtorEq, cVar_at n0, cVar_at n1, cVar_at n2, cVar_at n3, cVar_at n5, cVar_at n6, cVar_at n7] | with_reducible refine head_of t_guessed_limb_3b_1.eq_1 ?_ | with_reducible refine head_of t_guessed_limb_3b_0.eq_1 ?_ | with_reducible refine head_of t_guessed_limb_4.eq_1 ?_ | with_reducible refine head_of t_guessed_limb_3.eq_1 ?_ | with_reducible refine head_of t_guessed_limb_2.eq_1 ?_ | with_reducible refine head_of t_guessed_limb_1.eq_1 ?_))
    have fin : (n : Int) * s ≤ (h - n * f) * B + t0 → Q (V.int n) H' := fun hle => by
      refine hQ n (by (with_reducible exact Int.natCast_nonneg _)) hn ?_ hinv
      have : (n : Int) * (f * B + s) = n * f * B + n * s := by grind
      have e : (h - n * f) * B = h * B - n * f * B := by grind
      (clear hw hw9 hf hs hBe hfB hsB hB hB9 d0 d1 d2 hh hB512 hh0 hhB hBB q0 e1 m0 m1 hg0 hg hr0 hinit hQ hr hn hinv hP dt ha n0 n1 n2 n3 n5 n6 n7 this e; lia)
    by_cases hb : h - n * f < B
    · rw [decide_eq_true hb]
      (repeat (first | dsimp only [sCons, sNil, sAssign, sAssign2, sAug, sRet, eCall, aNil, aCons, cInt, cBin, eIdx, tCmp, tAnd, tAndNil, oSub_i, oMul_i, oFdiv_i, oShl_i, oOr_i, oIAdd_i, kLt_i, kGt_i, oMul_r, fMin_i, vBool_b, vInt_i, vRef_r, LoopQ_next, LoopQ_ret, retQ_next, retQ_ret, cv0_4, cv0_5, cv0_6, cv0_7, cvl0, cv1_4, cv1_5, cv1_6, cv1_7, cvl1, cv2_4, cv2_5, cv2_6, cv2_7, cvl2, cv3_4, cv3_5, cv3_6, cv3_7, cvl3, cv4, cv4_5, cv4_6, cv4_7, cvl4, cv5, cv5_4, cv5_6, cv5_7, cv6, cv6_4, cv6_5, cv6_7, cv7, cv7_4, cv7_5, cv7_6] | simp only [reduceIte, if_true, if_false, Bool.false_eq_true, reduceCtorEq, cVar_at n0, cVar_at n1, cVar_at n2, cVar_at n3, cVar_at n5, cVar_at n6, cVar_at n7] | with_reducible refine head_of t_guessed_limb_3b_1.eq_1 ?_ | with_reducible refine head_of t_guessed_limb_3b_0.eq_1 ?_ | with_reducible refine head_of t_guessed_limb_4.eq_1 ?_ | with_reducible refine head_of t_guessed_limb_3.eq_1 ?_ | with_reducible refine head_of t_guessed_limb_2.eq_1 ?_ | with_reducible refine head_of t_guessed_limb_1.eq_1 ?_))
      refine ⟨Small.le (by (clear hw hw9 hf hs hBe hfB hsB hB hB9 d0 d1 d2 hh hB512 hh0 hhB hBB q0 e1 m0 m1 hg0 hg hr0 hinit hQ hr hn hinv hP fin hb; lia)) (by (clear hw hw9 hf hs hBe hfB hsB hB d0 d1 d2 hh hB512 hh0 hhB hBB q0 e1 m0 m1 hg0 hg hr0 hinit hQ hr hinv hP fin hb; lia)), Small.le (by (with_reducible exact cm62 (by assumption))) (by (with_reducible exact c62 (by assumption) (by assumption))), by (with_reducible exact Int.natCast_nonneg _), by (with_reducible exact cw (by assumption)), by (clear hw hw9 hf hs hBe hfB hsB hB d0 d1 d2 hh hB512 hh0 hhB hBB q0 e1 m0 m1 hg0 hg hr0 hinit hQ hn hinv hP fin; omega), idx_iv ha (by decide) (by simp) (by simp) ?_⟩
      simp only [show ((0 : Int)).toNat = 0 from rfl, List.getD_cons_zero, Int.toNat_natCast]
      (repeat (first | dsimp only [sCons, sNil, sAssign, sAssign2, sAug, sRet, eCall, aNil, aCons, cInt, cBin, eIdx, tCmp, tAnd, tAndNil, oSub_i, oMul_i, oFdiv_i, oShl_i, oOr_i, oIAdd_i, kLt_i, kGt_i, oMul_r, fMin_i, vBool_b, vInt_i, vRef_r, LoopQ_next, LoopQ_ret, retQ_next, retQ_ret, cv0_4, cv0_5, cv0_6, cv0_7, cvl0, cv1_4, cv1_5, cv1_6, cv1_7, cvl1, cv2_4, cv2_5, cv2_6, cv2_7, cvl2, cv3_4, cv3_5, cv3_6, cv3_7, cvl3, cv4, cv4_5, cv4_6, cv4_7, cvl4, cv5, cv5_4, cv5_6, cv5_7, cv6, cv6_4, cv6_5, cv6_7, cv7, cv7_4, cv7_5, cv7_6] | simp only [reduceIte, if_true, if_false, Bool.false_eq_true, reduceCtorEq, hBe] | with_reducible refine head_of t_guessed_limb_3b_1.eq_1 ?_ | with_reducible refine head_of t_guessed_limb_3b_0.eq_1 ?_ | with_reducible refine head_of t_guessed_limb_4.eq_1 ?_ | with_reducible refine head_of t_guessed_limb_3.eq_1 ?_ | with_reducible refine head_of t_guessed_limb_2.eq_1 ?_ | with_reducible refine head_of t_guessed_limb_1.eq_1 ?_))
      have hor := bor_add (x := h - n * f) (y := t0) (k := w) hr d0.1 (by (clear hw hw9 hf hs hfB hsB hB hB9 d1 d2 hh hB512 hh0 hhB hBB q0 e1 m0 m1 hg0 hg hr0 hinit hQ hr hn hinv hP fin hb; lia))
      rw [hBe] at hor
      rw [hor]
      by_cases hgt : (h - n * f) * B + t0 < n * s
      · rw [decide_eq_true hgt]
        (repeat (first | dsimp only [sCons, sNil, sAssign, sAssign2, sAug, sRet, eCall, aNil, aCons, cInt, cBin, eIdx, tCmp, tAnd, tAndNil, oSub_i, oMul_i, oFdiv_i, oShl_i, oOr_i, oIAdd_i, kLt_i, kGt_i, oMul_r, fMin_i, vBool_b, vInt_i, vRef_r, LoopQ_next, LoopQ_ret, retQ_next, retQ_ret, cv0_4, cv0_5, cv0_6, cv0_7, cvl0, cv1_4, cv1_5, cv1_6, cv1_7, cvl1, cv2_4, cv2_5, cv2_6, cv2_7, cvl2, cv3_4, cv3_5, cv3_6, cv3_7, cvl3, cv4, cv4_5, cv4_6, cv4_7, cvl4, cv5, cv5_4, cv5_6, cv5_7, cv6, cv6_4, cv6_5, cv6_7, cv7, cv7_4, cv7_5, cv7_6] | simp only [reduceIte, if_true, if_false, Bool.false_eq_true, reduceCtorEq, cVar_at n0, cVar_at n1, cVar_at n2, cVar_at n3, cVar_at n5, cVar_at n6, cVar_at n7] | with_reducible refine head_of t_guessed_limb_3b_1.eq_1 ?_ | with_reducible refine head_of t_guessed_limb_3b_0.eq_1 ?_ | with_reducible refine head_of t_guessed_limb_4.eq_1 ?_ | with_reducible refine head_of t_guessed_limb_3.eq_1 ?_ | with_reducible refine head_of t_guessed_limb_2.eq_1 ?_ | with_reducible refine head_of t_guessed_limb_1.eq_1 ?_))
        have hn0 : n ≠ 0 := by
          rintro rfl
          have := Int.mul_nonneg hr (show 0 ≤ B by (with_reducible exact cpn (by assumption)))
          simp at hgt this
          (clear hw hw9 hf hs hBe hfB hsB hB hB9 d1 d2 hh hB512 hh0 hhB hBB q0 e1 m0 m1 hg0 hg hr0 hinit hQ hr hn hinv hP fin hb hor; omega)
        have en : ((n - 1 : Nat) : Int) = n - 1 := by (clear hw hw9 hf hs hBe hfB hsB hB hB9 d0 d1 d2 hh hB512 hh0 hhB hBB q0 e1 m0 m1 hg0 hg hr0 hinit hQ hr hn hinv hP fin hb hor hgt; lia)
        have ef : h - (((n : Int) - 1) * f) = h - n * f + f := by grind
        refine hP (n - 1) _ _ (by (clear hw hw9 hf hs hBe hfB hsB hB hB9 d0 d1 d2 hh hB512 hh0 hhB hBB q0 e1 m0 m1 hg0 hg hr0 hinit hQ hr hn hinv hP fin hb hor hgt hn0 ef; omega)) ?_
        rw [en, ef]
        refine ⟨rfl, n0, n1, n2, n3, n5, rfl, rfl, by (clear hw hw9 hs hBe hfB hsB hB hB9 d0 d1 d2 hh hB512 hh0 hhB hBB q0 e1 m0 m1 hg0 hg hr0 hinit hQ hn hinv hP fin hb hor hgt hn0 en ef dt ha n0 n1 n2 n3 n5 n6 n7; lia), by (clear hw hw9 hf hs hBe hfB hsB hB hB9 d0 d1 d2 hh hB512 hh0 hhB hBB q0 e1 m0 m1 hg0 hg hr0 hinit hQ hr hinv hP fin hb hor hgt hn0 en ef; lia), .inl ?_⟩
        have : ((n : Int) - 1 + 1) * (f * B + s) = n * f * B + n * s := by grind
        have e : (h - n * f) * B = h * B - n * f * B := by grind
        (clear hw hw9 hf hs hBe hfB hsB hB hB9 d0 d1 d2 hh hB512 hh0 hhB hBB q0 e1 m0 m1 hg0 hg hr0 hinit hQ hr hn hinv hP fin hb hor hn0 en ef dt ha n0 n1 n2 n3 n5 n6 n7 this e; lia)
      · rw [decide_eq_false hgt]
        (repeat (first | dsimp only [sCons, sNil, sAssign, sAssign2, sAug, sRet, eCall, aNil, aCons, cInt, cBin, eIdx, tCmp, tAnd, tAndNil, oSub_i, oMul_i, oFdiv_i, oShl_i, oOr_i, oIAdd_i, kLt_i, kGt_i, oMul_r, fMin_i, vBool_b, vInt_i, vRef_r, LoopQ_next, LoopQ_ret, retQ_next, retQ_ret, cv0_4, cv0_5, cv0_6, cv0_7, cvl0, cv1_4, cv1_5, cv1_6, cv1_7, cvl1, cv2_4, cv2_5, cv2_6, cv2_7, cvl2, cv3_4, cv3_5, cv3_6, cv3_7, cvl3, cv4, cv4_5, cv4_6, cv4_7, cvl4, cv5, cv5_4, cv5_6, cv5_7, cv6, cv6_4, cv6_5, cv6_7, cv7, cv7_4, cv7_5, cv7_6] | simp only [reduceIte, if_true, if_false, Bool.false_eq_true, reduceCtorEq, cVar_at n6] | with_reducible refine head_of t_guessed_limb_3b_1.eq_1 ?_ | with_reducible refine head_of t_guessed_limb_3b_0.eq_1 ?_ | with_reducible refine head_of t_guessed_limb_4.eq_1 ?_ | with_reducible refine head_of t_guessed_limb_3.eq_1 ?_ | with_reducible refine head_of t_guessed_limb_2.eq_1 ?_ | with_reducible refine head_of t_guessed_limb_1.eq_1 ?_))
        exact fin (by (clear hw hw9 hf hs hBe hfB hsB hB hB9 d0 d1 d2 hh hB512 hh0 hhB hBB q0 e1 m0 m1 hg0 hg hr0 hinit hQ hr hn hinv hP fin hb hor; omega))
    · rw [decide_eq_false hb]
      (repeat (first | dsimp only [sCons, sNil, sAssign, sAssign2, sAug, sRet, eCall, aNil, aCons, cInt, cBin, eIdx, tCmp, tAnd, tAndNil, oSub_i, oMul_i, oFdiv_i, oShl_i, oOr_i, oIAdd_i, kLt_i, kGt_i, oMul_r, fMin_i, vBool_b, vInt_i, vRef_r, LoopQ_next, LoopQ_ret, retQ_next, retQ_ret, cv0_4, cv0_5, cv0_6, cv0_7, cvl0, cv1_4, cv1_5, cv1_6, cv1_7, cvl1, cv2_4, cv2_5, cv2_6, cv2_7, cvl2, cv3_4, cv3_5, cv3_6, cv3_7, cvl3, cv4, cv4_5, cv4_6, cv4_7, cvl4, cv5, cv5_4, cv5_6, cv5_7, cv6, cv6_4, cv6_5, cv6_7, cv7, cv7_4, cv7_5, cv7_6] | simp only [reduceIte, if_true, if_false, Bool.false_eq_true, reduceCtorEq, cVar_at n6] | with_reducible refine head_of t_guessed_limb_3b_1.eq_1 ?_ | with_reducible refine head_of t_guessed_limb_3b_0.eq_1 ?_ | with_reducible refine head_of t_guessed_limb_4.eq_1 ?_ | with_reducible refine head_of t_guessed_limb_3.eq_1 ?_ | with_reducible refine head_of t_guessed_limb_2.eq_1 ?_ | with_reducible refine head_of t_guessed_limb_1.eq_1 ?_))
      refine fin ?_
      have h1 : (n : Int) * s ≤ (B - 1) * (B - 1) := Int.mul_le_mul hn (by (clear hw hw9 hf hs hBe hfB hB hB9 d0 d1 d2 hh hB512 hh0 hhB hBB q0 e1 m0 m1 hg0 hg hr0 hinit hQ hr hn hinv hP fin hb; lia)) hs (by (clear hw hw9 hf hs hBe hfB hsB hB9 d0 d1 d2 hh hB512 hh0 hhB hBB q0 e1 m0 m1 hg0 hg hr0 hinit hQ hr hn hinv hP fin hb; lia))
      have h2 : B * B ≤ (h - n * f) * B := Int.mul_le_mul_of_nonneg_right (by (clear hw hw9 hf hs hBe hfB hsB hB hB9 d0 d1 d2 hh hB512 hh0 hhB hBB q0 e1 m0 m1 hg0 hg hr0 hinit hQ hr hn hinv hP fin h1; omega)) (by (with_reducible exact cpn (by assumption)))
      have h3 : (B - 1) * (B - 1) = B * B - 2 * B + 1 := by grind
      (clear hw hw9 hf hs hBe hfB hsB hB hB9 d1 d2 hh hB512 hh0 hhB hBB q0 e1 m0 m1 hg0 hg hr0 hinit hQ hr hn hinv hP fin hb dt ha n0 n1 n2 n3 n5 n6 n7 h3; lia)
end Mine
end

section
open PySem
set_option linter.unusedVariables false
set_option linter.unusedSimpArgs false
namespace Mine

theorem updH_updH (H : Hp) (r : Nat) (o o' : O) : updH (updH H r o) r o' = updH H r o' := by
  funext b
  unfold updH
  split <;> rfl
theorem updH_self {H : Hp} {r : Nat} {o : O} (h : H r = some o) : updH H r o = H := by
  funext b
  unfold updH
  split
  · rename_i e; rw [e, h]
  · rfl
theorem drop_cons {xs : List Int} {k : Nat} (h : k < xs.length) : xs.drop k = xs.getD k 0 :: xs.drop (k + 1) := by
  rw [List.getD_eq_getElem?_getD, List.getElem?_eq_getElem h]
  simp
theorem mid_get (pre S : List Int) (x : Int) (r : List Int) : (pre ++ S ++ (x :: r)).getD (pre.length + S.length) 0 = x := by
  rw [List.getD_eq_getElem?_getD, List.getElem?_append_right (by simp)]
  simp
theorem mid_set (pre S : List Int) (x y : Int) (r : List Int) : (pre ++ S ++ (x :: r)).set (pre.length + S.length) y = pre ++ (S ++ [y]) ++ r := by
  rw [List.set_append_right _ _ (by simp)]
  simp

noncomputable def P_take_away : PF := fun args H Q => ∃ r b pre seg post bs g, ∃ w : Nat, args = [.ref r, .ref b, .int g, .int (pre.length : Nat), .int w] ∧ seg.length = bs.length + 1 ∧
  H r = some (.list (iv (pre ++ seg ++ post))) ∧ H b = some (.list (iv bs)) ∧ r ≠ b ∧ (pre ++ seg ++ post).length ≤ 1000 ∧ 1 ≤ w ∧ w ≤ 9 ∧ Dig (2 ^ w) seg ∧ Dig (2 ^ w) bs ∧ 0 ≤ g ∧ g < 2 ^ w ∧
  ∀ S (lack : Int), S.length = bs.length + 1 → Dig (2 ^ w) S → (lack = 0 ∨ lack = 1) → val (2 ^ w) S = val (2 ^ w) seg - g * val (2 ^ w) bs + lack * (2 ^ w) ^ (bs.length + 1) → Q (.int lack) (updH H r (.list (iv (pre ++ S ++ post))))

noncomputable def t_take_away_4 : PS := (sCons (sRet (eIf (tCmp kLt (cVar 9) (cInt 0)) (cInt 1) (cInt 0))) sNil)
noncomputable def t_take_away_3 : PS := (sCons (sSetIdx (cVar 0) (cBin oAdd (cVar 3) (eCall fLen (aCons (cVar 1) aNil))) (eIf (tCmp kLt (cVar 9) (cInt 0)) (cBin oAdd (cVar 9) (cVar 6)) (cVar 9))) t_take_away_4)
noncomputable def t_take_away_1b_2 : PS := (sCons (sSetIdx (cVar 0) (cBin oAdd (cVar 3) (cVar 7)) (eIf (tCmp kLt (cVar 9) (cInt 0)) (cBin oAdd (cVar 9) (cVar 6)) (cVar 9))) sNil)
noncomputable def t_take_away_1b_1 : PS := (sCons (sAssign 5 (cBin oAdd (cBin oFdiv (cBin oAdd (cBin oMul (cVar 2) (cVar 8)) (cVar 5)) (cVar 6)) (eIf (tCmp kLt (cVar 9) (cInt 0)) (cInt 1) (cInt 0)))) t_take_away_1b_2)
noncomputable def t_take_away_1b_0 : PS := (sCons (sAssign 9 (cBin oSub (eIdx (cVar 0) (cBin oAdd (cVar 3) (cVar 7))) (cBin oMod (cBin oAdd (cBin oMul (cVar 2) (cVar 8)) (cVar 5)) (cVar 6)))) t_take_away_1b_1)
noncomputable def t_take_away_2 : PS := (sCons (sAssign 9 (cBin oSub (eIdx (cVar 0) (cBin oAdd (cVar 3) (eCall fLen (aCons (cVar 1) aNil)))) (cVar 5))) t_take_away_3)
noncomputable def t_take_away_1 : PS := (sCons (sForE 7 8 (cVar 1) t_take_away_1b_0) t_take_away_2)
noncomputable def ps_take_away : PS := (sCons (sAssign2 5 6 (cInt 0) (cBin oShl (cInt 1) (cVar 4))) t_take_away_1)

theorem take_step {B x t : Int} (hB : 2 ≤ B) (hx0 : 0 ≤ x) (hx : x < B) (ht0 : 0 ≤ t) (ht : t < B * B) :
    (x - t % B < 0 → 0 ≤ x - t % B + B ∧ x - t % B + B < B ∧ 0 ≤ t / B + 1 ∧ t / B + 1 ≤ B ∧ (x - t % B + B) - B * (t / B + 1) = x - t) ∧
    (¬ x - t % B < 0 → 0 ≤ x - t % B ∧ x - t % B < B ∧ 0 ≤ t / B + 0 ∧ t / B + 0 ≤ B ∧ (x - t % B) - B * (t / B + 0) = x - t) := by
  have h1 := Int.emod_nonneg t (show B ≠ 0 by lia)
  have h2 := Int.emod_lt_of_pos t (show 0 < B by (with_reducible exact cp0 (by assumption)))
  have h3 := Int.emod_add_mul_ediv t B
  have h4 : 0 ≤ t / B := Int.ediv_nonneg ht0 (by (with_reducible exact cpn (by assumption)))
  have h5 : t / B < B := Int.ediv_lt_of_lt_mul (by (with_reducible exact cp0 (by assumption))) ht
  have h6 : B * (t / B + 1) = B * (t / B) + B := by grind
  rw [Int.add_zero]
  lia

theorem pu_take_away (args : List V) (H : Hp) (Q : V → Hp → Prop) (h : P_take_away args H Q) : args.length = 5 ∧ ps_take_away (fun i => args[i]?) H (retQ Q) := by
  obtain ⟨r, b, pre, seg, post, bs, g, w, rfl, hsl, hr, hb, hrb, hlen, hw, hw9, ds, db, hg0, hgB, hQ⟩ := h
  refine ⟨rfl, ?_⟩
  have hB := two_le hw
  have hB9 := le_512 hw9
  simp only [List.length_append] at hlen
  (repeat (first | dsimp only [sCons, sNil, sAssign, sAssign2, sSetIdx, sRet, eCall, aNil, aCons, cInt, cBin, eIf, eIdx, tCmp, oAdd_i, oSub_i, oMul_i, oFdiv_i, oMod_i, oShl_i, kLt_i, oAdd_r, oMul_r, fLen_r, vBool_b, vInt_i, vRef_r, LoopQ_next, LoopQ_ret, retQ_next, retQ_ret, cv0_5, cv0_6, cv0_7, cv0_8, cv0_9, cvl0, cv1_5, cv1_6, cv1_7, cv1_8, cv1_9, cvl1, cv2_5, cv2_6, cv2_7, cv2_8, cv2_9, cvl2, cv3_5, cv3_6, cv3_7, cv3_8, cv3_9, cvl3, cv4_5, cv4_6, cv4_7, cv4_8, cv4_9, cvl4, cv5, cv5_6, cv5_7, cv5_8, cv5_9, cv6, cv6_5, cv6_7, cv6_8, cv6_9, cv7, cv7_5, cv7_6, cv7_8, cv7_9, cv8, cv8_5, cv8_6, cv8_7, cv8_9, cv9, cv9_5, cv9_6, cv9_7, cv9_8, ps_take_away] | simp only [reduceIte, if_true, if_false, Bool.false_eq_true, reduceCtorEq] | with_reducible refine head_of t_take_away_4.eq_1 ?_ | with_reducible refine head_of t_take_away_3.eq_1 ?_ | with_reducible refine head_of t_take_away_1b_2.eq_1 ?_ | with_reducible refine head_of t_take_away_1b_1.eq_1 ?_ | with_reducible refine head_of t_take_away_1b_0.eq_1 ?_ | with_reducible refine head_of t_take_away_2.eq_1 ?_ | with_reducible refine head_of t_take_away_1.eq_1 ?_))
  refine ⟨by (with_reducible exact Int.natCast_nonneg _), by (with_reducible exact cw (by assumption)), by decide, ?_⟩
  rw [Int.one_mul, Int.toNat_natCast]
  generalize hBe : (2 : Int) ^ w = B at *
  have hBB : B * B ≤ 512 * 512 := Int.mul_le_mul hB9 hB9 (by (with_reducible exact cpn (by assumption))) (by decide)
  (repeat (first | dsimp only [sCons, sNil, sAssign, sAssign2, sSetIdx, sRet, eCall, aNil, aCons, cInt, cBin, eIf, eIdx, tCmp, oAdd_i, oSub_i, oMul_i, oFdiv_i, oMod_i, oShl_i, kLt_i, oAdd_r, oMul_r, fLen_r, vBool_b, vInt_i, vRef_r, LoopQ_next, LoopQ_ret, retQ_next, retQ_ret, cv0_5, cv0_6, cv0_7, cv0_8, cv0_9, cvl0, cv1_5, cv1_6, cv1_7, cv1_8, cv1_9, cvl1, cv2_5, cv2_6, cv2_7, cv2_8, cv2_9, cvl2, cv3_5, cv3_6, cv3_7, cv3_8, cv3_9, cvl3, cv4_5, cv4_6, cv4_7, cv4_8, cv4_9, cvl4, cv5, cv5_6, cv5_7, cv5_8, cv5_9, cv6, cv6_5, cv6_7, cv6_8, cv6_9, cv7, cv7_5, cv7_6, cv7_8, cv7_9, cv8, cv8_5, cv8_6, cv8_7, cv8_9, cv9, cv9_5, cv9_6, cv9_7, cv9_8, sForE] | simp only [reduceIte, if_true, if_false, Bool.false_eq_true, reduceCtorEq] | with_reducible refine head_of t_take_away_4.eq_1 ?_ | with_reducible refine head_of t_take_away_3.eq_1 ?_ | with_reducible refine head_of t_take_away_1b_2.eq_1 ?_ | with_reducible refine head_of t_take_away_1b_1.eq_1 ?_ | with_reducible refine head_of t_take_away_1b_0.eq_1 ?_ | with_reducible refine head_of t_take_away_2.eq_1 ?_ | with_reducible refine head_of t_take_away_1.eq_1 ?_))
  refine ⟨_, hb, fun k m' H' => m' 0 = some (.ref r) ∧ m' 1 = some (.ref b) ∧ m' 2 = some (.int g) ∧ m' 3 = some (.int (pre.length : Nat)) ∧ m' 6 = some (.int B) ∧ k ≤ bs.length ∧ ∃ S c, m' 5 = some (.int c) ∧
    S.length = k ∧ H' = updH H r (.list (iv (pre ++ S ++ (seg.drop k ++ post)))) ∧ Dig B S ∧ 0 ≤ c ∧ c ≤ B ∧ val B S - B ^ k * c = val B (seg.take k) - g * val B (bs.take k),
    ⟨rfl, rfl, rfl, rfl, rfl, Nat.zero_le _, [], 0, rfl, rfl, ?_, Dig.nil, by (with_reducible exact Int.le_refl _), by (with_reducible exact cpn (by assumption)), by simp [val]⟩, ?_, ?_, ?_⟩
  · rw [updH_self]
    rw [hr]; simp
  · rintro k m' H' ⟨_, _, _, _, _, _, S, c, _, _, rfl, _⟩
    rw [updH_ne _ _ (Ne.symm hrb)]
    exact hb
  · intro k v m' H' hv hI
    refine loop_hide fun P hP => ?_
    obtain ⟨n0, n1, n2, n3, n6, hk, S, c, n5, hSl, rfl, dS, hc0, hcB, hval⟩ := hI
    obtain ⟨hkb, rfl⟩ := iv_at hv
    have hbk := db.get (by (with_reducible exact cp0 (by assumption))) k
    have hxk := ds.get (by (with_reducible exact cp0 (by assumption))) k
    rw [drop_cons (by (clear hrb hw hw9 hg0 hlen hBe hgB hQ hB hB9 hBB hP hk hSl hc0 hcB hval hbk hxk; lia) : k < seg.length), List.cons_append]
    generalize hx : seg.getD k 0 = x at *
    generalize hy : bs.getD k 0 = y at *
    have hgy0 : 0 ≤ g * y := Int.mul_nonneg hg0 hbk.1
    have hgy : g * y ≤ (B - 1) * (B - 1) := Int.mul_le_mul (by (clear hsl hrb hw hw9 hg0 hlen hBe hQ hB hB9 hBB hP hk hSl hc0 hcB hval hkb hx hxk hy hbk hgy0; lia)) (by (clear hsl hrb hw hw9 hg0 hlen hBe hgB hQ hB hB9 hBB hP hk hSl hc0 hcB hval hkb hx hxk hy hgy0; lia)) hbk.1 (by (clear hsl hrb hw hw9 hg0 hlen hBe hgB hQ hB9 hBB hP hk hSl hc0 hcB hval hkb hx hxk hy hbk hgy0; lia))
    have hBB1 : (B - 1) * (B - 1) = B * B - 2 * B + 1 := by grind
    have ei : ((pre.length : Nat) : Int) + (k : Int) = ((pre.length + S.length : Nat) : Int) := by (clear hsl hrb hw hw9 hg0 hlen hBe hgB hQ hB hB9 hBB hP hk hc0 hcB hval hkb hx hxk hy hbk hgy0 hgy hBB1; lia)
    (repeat (first | dsimp only [sCons, sNil, sAssign, sAssign2, sSetIdx, sRet, eCall, aNil, aCons, cInt, cBin, eIf, eIdx, tCmp, oAdd_i, oSub_i, oMul_i, oFdiv_i, oMod_i, oShl_i, kLt_i, oAdd_r, oMul_r, fLen_r, vBool_b, vInt_i, vRef_r, LoopQ_next, LoopQ_ret, retQ_next, retQ_ret, cv0_5, cv0_6, cv0_7, cv0_8, cv0_9, cvl0, cv1_5, cv1_6, cv1_7, cv1_8, cv1_9, cvl1, cv2_5, cv2_6, cv2_7, cv2_8, cv2_9, cvl2, cv3_5, cv3_6, cv3_7, cv3_8, cv3_9, cvl3, cv4_5, cv4_6, cv4_7, cv4_8, cv4_9, cvl4, cv5, cv5_6, cv5_7, cv5_8, cv5_9, cv6, cv6_5, cv6_7, cv6_8, cv6_9, cv7, cv7_5, cv7_6, cv7_8, cv7_9, cv8, cv8_5, cv8_6, cv8_7, cv8_9, cv9, cv9_5, cv9_6, cv9_7, cv9_8] | simp only [reduceIte, if_true, if_false, Bool.false_eq_true, reduceCtorEq, cVar_at n0, cVar_at n1, cVar_at n2, cVar_at n3, cVar_at n5, cVar_at n6] | with_reducible refine head_of t_take_away_4.eq_1 ?_ | with_reducible refine head_of t_take_away_3.eq_1 ?_ | with_reducible refine head_of t_take_away_1b_2.eq_1 ?_ | with_reducible refine head_of t_take_away_1b_1.eq_1 ?_ | with_reducible refine head_of t_take_away_1b_0.eq_1 ?_ | with_reducible refine head_of t_take_away_2.eq_1 ?_ | with_reducible refine head_of t_take_away_1.eq_1 ?_))
    rw [ei]
    have hll : (pre ++ S ++ (x :: (seg.drop (k + 1) ++ post))).length ≤ 1000 := by
      simp only [List.length_append, List.length_cons, List.length_drop]; (clear hrb hw hw9 hg0 hBe hgB hQ hB hB9 hBB hP hk hc0 hcB hval hx hxk hy hbk hgy0 hgy hBB1 ei; omega)
    refine idx_iv (updH_same ..) (by (with_reducible exact Int.natCast_nonneg _)) (by simp only [List.length_append, List.length_cons]; (clear hsl hrb hw hw9 hg0 hlen hBe hgB hQ hB hB9 hBB hP hk hSl hc0 hcB hval hkb hx hxk hy hbk hgy0 hgy hBB1 ei hll; lia)) (by (with_reducible exact c20 (by assumption))) ?_
    rw [Int.toNat_natCast, mid_get]
    (repeat (first | dsimp only [sCons, sNil, sAssign, sAssign2, sSetIdx, sRet, eCall, aNil, aCons, cInt, cBin, eIf, eIdx, tCmp, oAdd_i, oSub_i, oMul_i, oFdiv_i, oMod_i, oShl_i, kLt_i, oAdd_r, oMul_r, fLen_r, vBool_b, vInt_i, vRef_r, LoopQ_next, LoopQ_ret, retQ_next, retQ_ret, cv0_5, cv0_6, cv0_7, cv0_8, cv0_9, cvl0, cv1_5, cv1_6, cv1_7, cv1_8, cv1_9, cvl1, cv2_5, cv2_6, cv2_7, cv2_8, cv2_9, cvl2, cv3_5, cv3_6, cv3_7, cv3_8, cv3_9, cvl3, cv4_5, cv4_6, cv4_7, cv4_8, cv4_9, cvl4, cv5, cv5_6, cv5_7, cv5_8, cv5_9, cv6, cv6_5, cv6_7, cv6_8, cv6_9, cv7, cv7_5, cv7_6, cv7_8, cv7_9, cv8, cv8_5, cv8_6, cv8_7, cv8_9, cv9, cv9_5, cv9_6, cv9_7, cv9_8] | simp only [reduceIte, if_true, if_false, Bool.false_eq_true, reduceCtorEq, cVar_at n0, cVar_at n1, cVar_at n2, cVar_at n3, cVar_at n5, cVar_at n6] | with_reducible refine head_of t_take_away_4.eq_1 ?_ | with_reducible refine head_of t_take_away_3.eq_1 ?_ | with_reducible refine head_of t_take_away_1b_2.eq_1 ?_ | with_reducible refine head_of t_take_away_1b_1.eq_1 ?_ | with_reducible refine head_of t_take_away_1b_0.eq_1 ?_ | with_reducible refine head_of t_take_away_2.eq_1 ?_ | with_reducible refine head_of t_take_away_1.eq_1 ?_))
    have sg : Small g := Small.le (by (with_reducible exact cm62 (by assumption))) (by (with_reducible exact c62 (by assumption) (by assumption)))
    have sy : Small y := Small.le (by (clear hsl hrb hw hw9 hg0 hlen hBe hgB hQ hB hB9 hBB hP hk hSl hc0 hcB hval hkb hx hxk hy hgy0 hgy hBB1 ei hll; lia)) (by (clear hsl hrb hw hw9 hg0 hlen hBe hgB hQ hB hB9 hP hk hSl hc0 hcB hval hkb hx hxk hy ei hll; lia))
    have sB : Small B := Small.le (by (clear hsl hrb hw hw9 hg0 hlen hBe hgB hQ hB9 hBB hP hk hSl hc0 hcB hval hkb hx hxk hy hbk hgy0 hgy hBB1 ei hll; lia)) (by (with_reducible exact c62' (by assumption)))
    have hB0 : B ≠ 0 := by (clear hsl hrb hw hw9 hg0 hlen hBe hgB hQ hB9 hBB hP hk hSl hc0 hcB hval hkb hx hxk hy hbk hgy0 hgy hBB1 ei hll; lia)
    refine ⟨sg, sy, hB0, ?_⟩
    rw [fmod_pos (by (with_reducible exact cpn (by assumption)))]
    (repeat (first | dsimp only [sCons, sNil, sAssign, sAssign2, sSetIdx, sRet, eCall, aNil, aCons, cInt, cBin, eIf, eIdx, tCmp, oAdd_i, oSub_i, oMul_i, oFdiv_i, oMod_i, oShl_i, kLt_i, oAdd_r, oMul_r, fLen_r, vBool_b, vInt_i, vRef_r, LoopQ_next, LoopQ_ret, retQ_next, retQ_ret, cv0_5, cv0_6, cv0_7, cv0_8, cv0_9, cvl0, cv1_5, cv1_6, cv1_7, cv1_8, cv1_9, cvl1, cv2_5, cv2_6, cv2_7, cv2_8, cv2_9, cvl2, cv3_5, cv3_6, cv3_7, cv3_8, cv3_9, cvl3, cv4_5, cv4_6, cv4_7, cv4_8, cv4_9, cvl4, cv5, cv5_6, cv5_7, cv5_8, cv5_9, cv6, cv6_5, cv6_7, cv6_8, cv6_9, cv7, cv7_5, cv7_6, cv7_8, cv7_9, cv8, cv8_5, cv8_6, cv8_7, cv8_9, cv9, cv9_5, cv9_6, cv9_7, cv9_8] | simp only [reduceIte, if_true, if_false, Bool.false_eq_true, reduceCtorEq, cVar_at n0, cVar_at n1, cVar_at n2, cVar_at n3, cVar_at n5, cVar_at n6] | with_reducible refine head_of t_take_away_4.eq_1 ?_ | with_reducible refine head_of t_take_away_3.eq_1 ?_ | with_reducible refine head_of t_take_away_1b_2.eq_1 ?_ | with_reducible refine head_of t_take_away_1b_1.eq_1 ?_ | with_reducible refine head_of t_take_away_1b_0.eq_1 ?_ | with_reducible refine head_of t_take_away_2.eq_1 ?_ | with_reducible refine head_of t_take_away_1.eq_1 ?_))
    refine ⟨sg, sy, hB0, sB, ?_⟩
    rw [fdiv_pos (by (with_reducible exact cpn (by assumption)))]
    have st := take_step hB hxk.1 hxk.2 (t := g * y + c) (by (clear hsl hrb hw hw9 hg0 hlen hBe hgB hQ hB hB9 hBB hP hk hSl hcB hval hkb hx hxk hy hbk hgy hBB1 ei hll hB0; lia)) (by (clear hsl hrb hw hw9 hg0 hlen hBe hgB hQ hB9 hBB hP hk hSl hc0 hval hkb hx hxk hy hbk hgy0 ei hll hB0; lia))
    have hpk := val_take_succ (B := B) (xs := seg) (k := k) (by (clear hrb hw hw9 hg0 hlen hBe hgB hQ hB hB9 hBB hP hk hSl hc0 hcB hval hx hxk hy hbk hgy0 hgy hBB1 ei hll hB0 st; omega))
    have hpb := val_take_succ (B := B) hkb
    rw [hx] at hpk
    rw [hy] at hpb
    by_cases hneg : x - (g * y + c) % B < 0
    · obtain ⟨s1, s2, s3, s4, s5⟩ := st.1 hneg
      rw [decide_eq_true hneg]
      (repeat (first | dsimp only [sCons, sNil, sAssign, sAssign2, sSetIdx, sRet, eCall, aNil, aCons, cInt, cBin, eIf, eIdx, tCmp, oAdd_i, oSub_i, oMul_i, oFdiv_i, oMod_i, oShl_i, kLt_i, oAdd_r, oMul_r, fLen_r, vBool_b, vInt_i, vRef_r, LoopQ_next, LoopQ_ret, retQ_next, retQ_ret, cv0_5, cv0_6, cv0_7, cv0_8, cv0_9, cvl0, cv1_5, cv1_6, cv1_7, cv1_8, cv1_9, cvl1, cv2_5, cv2_6, cv2_7, cv2_8, cv2_9, cvl2, cv3_5, cv3_6, cv3_7, cv3_8, cv3_9, cvl3, cv4_5, cv4_6, cv4_7, cv4_8, cv4_9, cvl4, cv5, cv5_6, cv5_7, cv5_8, cv5_9, cv6, cv6_5, cv6_7, cv6_8, cv6_9, cv7, cv7_5, cv7_6, cv7_8, cv7_9, cv8, cv8_5, cv8_6, cv8_7, cv8_9, cv9, cv9_5, cv9_6, cv9_7, cv9_8] | simp only [reduceIte, if_true, if_false, Bool.false_eq_true, reduceCtorEq, cVar_at n0, cVar_at n1, cVar_at n2, cVar_at n3, cVar_at n5, cVar_at n6, ei] | with_reducible refine head_of t_take_away_4.eq_1 ?_ | with_reducible refine head_of t_take_away_3.eq_1 ?_ | with_reducible refine head_of t_take_away_1b_2.eq_1 ?_ | with_reducible refine head_of t_take_away_1b_1.eq_1 ?_ | with_reducible refine head_of t_take_away_1b_0.eq_1 ?_ | with_reducible refine head_of t_take_away_2.eq_1 ?_ | with_reducible refine head_of t_take_away_1.eq_1 ?_))
      rw [decide_eq_true hneg]
      (repeat (first | dsimp only [sCons, sNil, sAssign, sAssign2, sSetIdx, sRet, eCall, aNil, aCons, cInt, cBin, eIf, eIdx, tCmp, oAdd_i, oSub_i, oMul_i, oFdiv_i, oMod_i, oShl_i, kLt_i, oAdd_r, oMul_r, fLen_r, vBool_b, vInt_i, vRef_r, LoopQ_next, LoopQ_ret, retQ_next, retQ_ret, cv0_5, cv0_6, cv0_7, cv0_8, cv0_9, cvl0, cv1_5, cv1_6, cv1_7, cv1_8, cv1_9, cvl1, cv2_5, cv2_6, cv2_7, cv2_8, cv2_9, cvl2, cv3_5, cv3_6, cv3_7, cv3_8, cv3_9, cvl3, cv4_5, cv4_6, cv4_7, cv4_8, cv4_9, cvl4, cv5, cv5_6, cv5_7, cv5_8, cv5_9, cv6, cv6_5, cv6_7, cv6_8, cv6_9, cv7, cv7_5, cv7_6, cv7_8, cv7_9, cv8, cv8_5, cv8_6, cv8_7, cv8_9, cv9, cv9_5, cv9_6, cv9_7, cv9_8] | simp only [reduceIte, if_true, if_false, Bool.false_eq_true, reduceCtorEq, cVar_at n0, cVar_at n1, cVar_at n2, cVar_at n3, cVar_at n5, cVar_at n6, ei] | with_reducible refine head_of t_take_away_4.eq_1 ?_ | with_reducible refine head_of t_take_away_3.eq_1 ?_ | with_reducible refine head_of t_take_away_1b_2.eq_1 ?_ | with_reducible refine head_of t_take_away_1b_1.eq_1 ?_ | with_reducible refine head_of t_take_away_1b_0.eq_1 ?_ | with_reducible refine head_of t_take_away_2.eq_1 ?_ | with_reducible refine head_of t_take_away_1.eq_1 ?_))
      refine set_iv (updH_same ..) (by (with_reducible exact Int.natCast_nonneg _)) (by simp only [List.length_append, List.length_cons]; lia) (by (with_reducible exact c20 (by assumption))) ?_
      rw [Int.toNat_natCast, mid_set, updH_updH]
      (repeat (first | dsimp only [sCons, sNil, sAssign, sAssign2, sSetIdx, sRet, eCall, aNil, aCons, cInt, cBin, eIf, eIdx, tCmp, oAdd_i, oSub_i, oMul_i, oFdiv_i, oMod_i, oShl_i, kLt_i, oAdd_r, oMul_r, fLen_r, vBool_b, vInt_i, vRef_r, LoopQ_next, LoopQ_ret, retQ_next, retQ_ret, cv0_5, cv0_6, cv0_7, cv0_8, cv0_9, cvl0, cv1_5, cv1_6, cv1_7, cv1_8, cv1_9, cvl1, cv2_5, cv2_6, cv2_7, cv2_8, cv2_9, cvl2, cv3_5, cv3_6, cv3_7, cv3_8, cv3_9, cvl3, cv4_5, cv4_6, cv4_7, cv4_8, cv4_9, cvl4, cv5, cv5_6, cv5_7, cv5_8, cv5_9, cv6, cv6_5, cv6_7, cv6_8, cv6_9, cv7, cv7_5, cv7_6, cv7_8, cv7_9, cv8, cv8_5, cv8_6, cv8_7, cv8_9, cv9, cv9_5, cv9_6, cv9_7, cv9_8] | simp only [reduceIte, if_true, if_false, Bool.false_eq_true, reduceCtorEq, cVar_at n0, cVar_at n1, cVar_at n2, cVar_at n3, cVar_at n5, cVar_at n6] | with_reducible refine head_of t_take_away_4.eq_1 ?_ | with_reducible refine head_of t_take_away_3.eq_1 ?_ | with_reducible refine head_of t_take_away_1b_2.eq_1 ?_ | with_reducible refine head_of t_take_away_1b_1.eq_1 ?_ | with_reducible refine head_of t_take_away_1b_0.eq_1 ?_ | with_reducible refine head_of t_take_away_2.eq_1 ?_ | with_reducible refine head_of t_take_away_1.eq_1 ?_))
      refine hP _ _ ⟨n0, n1, n2, n3, n6, by (clear hsl hrb hw hw9 hg0 hlen hBe hgB hQ hB hB9 hBB hP hk hSl hc0 hcB hval hx hxk hy hbk hgy0 hgy hBB1 ei hll hB0 st hpk hpb hneg s1 s2 s3 s4 s5; lia), _, _, rfl, by simp [hSl], rfl, dS.snoc s1 s2, s3, s4, ?_⟩
      rw [val_snoc, hSl, hpk, hpb, Int.pow_succ]
      grind
    · obtain ⟨s1, s2, s3, s4, s5⟩ := st.2 hneg
      rw [decide_eq_false hneg]
      (repeat (first | dsimp only [sCons, sNil, sAssign, sAssign2, sSetIdx, sRet, eCall, aNil, aCons, cInt, cBin, eIf, eIdx, tCmp, oAdd_i, oSub_i, oMul_i, oFdiv_i, oMod_i, oShl_i, kLt_i, oAdd_r, oMul_r, fLen_r, vBool_b, vInt_i, vRef_r, LoopQ_next, LoopQ_ret, retQ_next, retQ_ret, cv0_5, cv0_6, cv0_7, cv0_8, cv0_9, cvl0, cv1_5, cv1_6, cv1_7, cv1_8, cv1_9, cvl1, cv2_5, cv2_6, cv2_7, cv2_8, cv2_9, cvl2, cv3_5, cv3_6, cv3_7, cv3_8, cv3_9, cvl3, cv4_5, cv4_6, cv4_7, cv4_8, cv4_9, cvl4, cv5, cv5_6, cv5_7, cv5_8, cv5_9, cv6, cv6_5, cv6_7, cv6_8, cv6_9, cv7, cv7_5, cv7_6, cv7_8, cv7_9, cv8, cv8_5, cv8_6, cv8_7, cv8_9, cv9, cv9_5, cv9_6, cv9_7, cv9_8] | simp only [reduceIte, if_true, if_false, Bool.false_eq_true, reduceCtorEq, cVar_at n0, cVar_at n1, cVar_at n2, cVar_at n3, cVar_at n5, cVar_at n6, ei] | with_reducible refine head_of t_take_away_4.eq_1 ?_ | with_reducible refine head_of t_take_away_3.eq_1 ?_ | with_reducible refine head_of t_take_away_1b_2.eq_1 ?_ | with_reducible refine head_of t_take_away_1b_1.eq_1 ?_ | with_reducible refine head_of t_take_away_1b_0.eq_1 ?_ | with_reducible refine head_of t_take_away_2.eq_1 ?_ | with_reducible refine head_of t_take_away_1.eq_1 ?_))
      rw [decide_eq_false hneg]
      (repeat (first | dsimp only [sCons, sNil, sAssign, sAssign2, sSetIdx, sRet, eCall, aNil, aCons, cInt, cBin, eIf, eIdx, tCmp, oAdd_i, oSub_i, oMul_i, oFdiv_i, oMod_i, oShl_i, kLt_i, oAdd_r, oMul_r, fLen_r, vBool_b, vInt_i, vRef_r, LoopQ_next, LoopQ_ret, retQ_next, retQ_ret, cv0_5, cv0_6, cv0_7, cv0_8, cv0_9, cvl0, cv1_5, cv1_6, cv1_7, cv1_8, cv1_9, cvl1, cv2_5, cv2_6, cv2_7, cv2_8, cv2_9, cvl2, cv3_5, cv3_6, cv3_7, cv3_8, cv3_9, cvl3, cv4_5, cv4_6, cv4_7, cv4_8, cv4_9, cvl4, cv5, cv5_6, cv5_7, cv5_8, cv5_9, cv6, cv6_5, cv6_7, cv6_8, cv6_9, cv7, cv7_5, cv7_6, cv7_8, cv7_9, cv8, cv8_5, cv8_6, cv8_7, cv8_9, cv9, cv9_5, cv9_6, cv9_7, cv9_8] | simp only [reduceIte, if_true, if_false, Bool.false_eq_true, reduceCtorEq, cVar_at n0, cVar_at n1, cVar_at n2, cVar_at n3, cVar_at n5, cVar_at n6, ei] | with_reducible refine head_of t_take_away_4.eq_1 ?_ | with_reducible refine head_of t_take_away_3.eq_1 ?_ | with_reducible refine head_of t_take_away_1b_2.eq_1 ?_ | with_reducible refine head_of t_take_away_1b_1.eq_1 ?_ | with_reducible refine head_of t_take_away_1b_0.eq_1 ?_ | with_reducible refine head_of t_take_away_2.eq_1 ?_ | with_reducible refine head_of t_take_away_1.eq_1 ?_))
      refine set_iv (updH_same ..) (by (with_reducible exact Int.natCast_nonneg _)) (by simp only [List.length_append, List.length_cons]; omega) (by (with_reducible exact c20 (by assumption))) ?_
      rw [Int.toNat_natCast, mid_set, updH_updH]
      (repeat (first | dsimp only [sCons, sNil, sAssign, sAssign2, sSetIdx, sRet, eCall, aNil, aCons, cInt, cBin, eIf, eIdx, tCmp, oAdd_i, oSub_i, oMul_i, oFdiv_i, oMod_i, oShl_i, kLt_i, oAdd_r, oMul_r, fLen_r, vBool_b, vInt_i, vRef_r, LoopQ_next, LoopQ_ret, retQ_next, retQ_ret, cv0_5, cv0_6, cv0_7, cv0_8, cv0_9, cvl0, cv1_5, cv1_6, cv1_7, cv1_8, cv1_9, cvl1, cv2_5, cv2_6, cv2_7, cv2_8, cv2_9, cvl2, cv3_5, cv3_6, cv3_7, cv3_8, cv3_9, cvl3, cv4_5, cv4_6, cv4_7, cv4_8, cv4_9, cvl4, cv5, cv5_6, cv5_7, cv5_8, cv5_9, cv6, cv6_5, cv6_7, cv6_8, cv6_9, cv7, cv7_5, cv7_6, cv7_8, cv7_9, cv8, cv8_5, cv8_6, cv8_7, cv8_9, cv9, cv9_5, cv9_6, cv9_7, cv9_8] | simp only [reduceIte, if_true, if_false, Bool.false_eq_true, reduceCtorEq, cVar_at n0, cVar_at n1, cVar_at n2, cVar_at n3, cVar_at n5, cVar_at n6] | with_reducible refine head_of t_take_away_4.eq_1 ?_ | with_reducible refine head_of t_take_away_3.eq_1 ?_ | with_reducible refine head_of t_take_away_1b_2.eq_1 ?_ | with_reducible refine head_of t_take_away_1b_1.eq_1 ?_ | with_reducible refine head_of t_take_away_1b_0.eq_1 ?_ | with_reducible refine head_of t_take_away_2.eq_1 ?_ | with_reducible refine head_of t_take_away_1.eq_1 ?_))
      refine hP _ _ ⟨n0, n1, n2, n3, n6, by (clear hsl hr hb hrb hw hw9 hg0 hlen hBe ds db hgB hQ hB hB9 hBB hP n0 n1 n2 n3 n6 hk n5 hSl dS hc0 hcB hval hx hxk hy hv hbk hgy0 hgy hBB1 ei hll sg sy sB hB0 st hpk hpb hneg s1 s2 s3 s4 s5; lia), _, _, rfl, by simp [hSl], rfl, dS.snoc s1 s2, s3, s4, ?_⟩
      rw [val_snoc, hSl, hpk, hpb, Int.pow_succ]
      grind
  · rintro m' H' ⟨n0, n1, n2, n3, n6, hk, S, c, n5, hSl, rfl, dS, hc0, hcB, hval⟩
    rw [iv_length] at hSl hval hk ⊢
    have hxk := ds.get (by (with_reducible exact cp0 (by assumption))) bs.length
    have hd : seg.drop bs.length = [seg.getD bs.length 0] := by
      rw [drop_cons (by (clear hrb hw hw9 hg0 hlen hBe hgB hQ hB hB9 hBB hk hSl hc0 hcB hval hxk; lia)), List.drop_eq_nil_of_le (by (clear hrb hw hw9 hg0 hlen hBe hgB hQ hB hB9 hBB hk hSl hc0 hcB hval hxk; lia))]
    have hpk := val_take_succ (B := B) (xs := seg) (k := bs.length) (by lia)
    rw [← hsl, List.take_length] at hpk
    rw [hd, List.cons_append, List.nil_append]
    rw [List.take_length] at hval
    generalize hx : seg.getD bs.length 0 = x at *
    have ei : ((pre.length : Nat) : Int) + (bs.length : Int) = ((pre.length + S.length : Nat) : Int) := by (clear hsl hrb hw hw9 hg0 hlen hBe hgB hQ hB hB9 hBB hk hc0 hcB hval hx hxk hpk; lia)
    have hll : (pre ++ S ++ (x :: post)).length ≤ 1000 := by
      simp only [List.length_append, List.length_cons]; (clear hrb hw hw9 hg0 hBe hgB hQ hB hB9 hBB hk hc0 hcB hval hx hxk hpk ei; lia)
    have hb' : updH H r (.list (iv (pre ++ S ++ (x :: post)))) b = some (.list (iv bs)) := by rw [updH_ne _ _ (Ne.symm hrb)]; exact hb
    (repeat (first | dsimp only [sCons, sNil, sAssign, sAssign2, sSetIdx, sRet, eCall, aNil, aCons, cInt, cBin, eIf, eIdx, tCmp, oAdd_i, oSub_i, oMul_i, oFdiv_i, oMod_i, oShl_i, kLt_i, oAdd_r, oMul_r, fLen_r, vBool_b, vInt_i, vRef_r, LoopQ_next, LoopQ_ret, retQ_next, retQ_ret, cv0_5, cv0_6, cv0_7, cv0_8, cv0_9, cvl0, cv1_5, cv1_6, cv1_7, cv1_8, cv1_9, cvl1, cv2_5, cv2_6, cv2_7, cv2_8, cv2_9, cvl2, cv3_5, cv3_6, cv3_7, cv3_8, cv3_9, cvl3, cv4_5, cv4_6, cv4_7, cv4_8, cv4_9, cvl4, cv5, cv5_6, cv5_7, cv5_8, cv5_9, cv6, cv6_5, cv6_7, cv6_8, cv6_9, cv7, cv7_5, cv7_6, cv7_8, cv7_9, cv8, cv8_5, cv8_6, cv8_7, cv8_9, cv9, cv9_5, cv9_6, cv9_7, cv9_8] | simp only [reduceIte, if_true, if_false, Bool.false_eq_true, reduceCtorEq, cVar_at n0, cVar_at n1, cVar_at n2, cVar_at n3, cVar_at n5, cVar_at n6] | with_reducible refine head_of t_take_away_4.eq_1 ?_ | with_reducible refine head_of t_take_away_3.eq_1 ?_ | with_reducible refine head_of t_take_away_1b_2.eq_1 ?_ | with_reducible refine head_of t_take_away_1b_1.eq_1 ?_ | with_reducible refine head_of t_take_away_1b_0.eq_1 ?_ | with_reducible refine head_of t_take_away_2.eq_1 ?_ | with_reducible refine head_of t_take_away_1.eq_1 ?_))
    refine len_iv hb' (by (clear hrb hw hw9 hg0 hBe hgB hQ hB hB9 hBB hk hSl hc0 hcB hval hx hxk hpk ei hll; lia)) ?_
    (repeat (first | dsimp only [sCons, sNil, sAssign, sAssign2, sSetIdx, sRet, eCall, aNil, aCons, cInt, cBin, eIf, eIdx, tCmp, oAdd_i, oSub_i, oMul_i, oFdiv_i, oMod_i, oShl_i, kLt_i, oAdd_r, oMul_r, fLen_r, vBool_b, vInt_i, vRef_r, LoopQ_next, LoopQ_ret, retQ_next, retQ_ret, cv0_5, cv0_6, cv0_7, cv0_8, cv0_9, cvl0, cv1_5, cv1_6, cv1_7, cv1_8, cv1_9, cvl1, cv2_5, cv2_6, cv2_7, cv2_8, cv2_9, cvl2, cv3_5, cv3_6, cv3_7, cv3_8, cv3_9, cvl3, cv4_5, cv4_6, cv4_7, cv4_8, cv4_9, cvl4, cv5, cv5_6, cv5_7, cv5_8, cv5_9, cv6, cv6_5, cv6_7, cv6_8, cv6_9, cv7, cv7_5, cv7_6, cv7_8, cv7_9, cv8, cv8_5, cv8_6, cv8_7, cv8_9, cv9, cv9_5, cv9_6, cv9_7, cv9_8] | simp only [reduceIte, if_true, if_false, Bool.false_eq_true, reduceCtorEq, ei] | with_reducible refine head_of t_take_away_4.eq_1 ?_ | with_reducible refine head_of t_take_away_3.eq_1 ?_ | with_reducible refine head_of t_take_away_1b_2.eq_1 ?_ | with_reducible refine head_of t_take_away_1b_1.eq_1 ?_ | with_reducible refine head_of t_take_away_1b_0.eq_1 ?_ | with_reducible refine head_of t_take_away_2.eq_1 ?_ | with_reducible refine head_of t_take_away_1.eq_1 ?_))
    refine idx_iv (updH_same ..) (by (with_reducible exact Int.natCast_nonneg _)) (by simp only [List.length_append, List.length_cons]; (clear hsl hrb hw hw9 hg0 hlen hBe hgB hQ hB hB9 hBB hk hSl hc0 hcB hval hx hxk hpk ei hll; lia)) (by (with_reducible exact c20 (by assumption))) ?_
    rw [Int.toNat_natCast, mid_get]
    (repeat (first | dsimp only [sCons, sNil, sAssign, sAssign2, sSetIdx, sRet, eCall, aNil, aCons, cInt, cBin, eIf, eIdx, tCmp, oAdd_i, oSub_i, oMul_i, oFdiv_i, oMod_i, oShl_i, kLt_i, oAdd_r, oMul_r, fLen_r, vBool_b, vInt_i, vRef_r, LoopQ_next, LoopQ_ret, retQ_next, retQ_ret, cv0_5, cv0_6, cv0_7, cv0_8, cv0_9, cvl0, cv1_5, cv1_6, cv1_7, cv1_8, cv1_9, cvl1, cv2_5, cv2_6, cv2_7, cv2_8, cv2_9, cvl2, cv3_5, cv3_6, cv3_7, cv3_8, cv3_9, cvl3, cv4_5, cv4_6, cv4_7, cv4_8, cv4_9, cvl4, cv5, cv5_6, cv5_7, cv5_8, cv5_9, cv6, cv6_5, cv6_7, cv6_8, cv6_9, cv7, cv7_5, cv7_6, cv7_8, cv7_9, cv8, cv8_5, cv8_6, cv8_7, cv8_9, cv9, cv9_5, cv9_6, cv9_7, cv9_8] | simp only [reduceIte, if_true, if_false, Bool.false_eq_true, reduceCtorEq, cVar_at n0, cVar_at n1, cVar_at n2, cVar_at n3, cVar_at n5, cVar_at n6] | with_reducible refine head_of t_take_away_4.eq_1 ?_ | with_reducible refine head_of t_take_away_3.eq_1 ?_ | with_reducible refine head_of t_take_away_1b_2.eq_1 ?_ | with_reducible refine head_of t_take_away_1b_1.eq_1 ?_ | with_reducible refine head_of t_take_away_1b_0.eq_1 ?_ | with_reducible refine head_of t_take_away_2.eq_1 ?_ | with_reducible refine head_of t_take_away_1.eq_1 ?_))
    by_cases hneg : x - c < 0
    · rw [decide_eq_true hneg]
      (repeat (first | dsimp only [sCons, sNil, sAssign, sAssign2, sSetIdx, sRet, eCall, aNil, aCons, cInt, cBin, eIf, eIdx, tCmp, oAdd_i, oSub_i, oMul_i, oFdiv_i, oMod_i, oShl_i, kLt_i, oAdd_r, oMul_r, fLen_r, vBool_b, vInt_i, vRef_r, LoopQ_next, LoopQ_ret, retQ_next, retQ_ret, cv0_5, cv0_6, cv0_7, cv0_8, cv0_9, cvl0, cv1_5, cv1_6, cv1_7, cv1_8, cv1_9, cvl1, cv2_5, cv2_6, cv2_7, cv2_8, cv2_9, cvl2, cv3_5, cv3_6, cv3_7, cv3_8, cv3_9, cvl3, cv4_5, cv4_6, cv4_7, cv4_8, cv4_9, cvl4, cv5, cv5_6, cv5_7, cv5_8, cv5_9, cv6, cv6_5, cv6_7, cv6_8, cv6_9, cv7, cv7_5, cv7_6, cv7_8, cv7_9, cv8, cv8_5, cv8_6, cv8_7, cv8_9, cv9, cv9_5, cv9_6, cv9_7, cv9_8] | simp only [reduceIte, if_true, if_false, Bool.false_eq_true, reduceCtorEq, cVar_at n0, cVar_at n1, cVar_at n2, cVar_at n3, cVar_at n5, cVar_at n6] | with_reducible refine head_of t_take_away_4.eq_1 ?_ | with_reducible refine head_of t_take_away_3.eq_1 ?_ | with_reducible refine head_of t_take_away_1b_2.eq_1 ?_ | with_reducible refine head_of t_take_away_1b_1.eq_1 ?_ | with_reducible refine head_of t_take_away_1b_0.eq_1 ?_ | with_reducible refine head_of t_take_away_2.eq_1 ?_ | with_reducible refine head_of t_take_away_1.eq_1 ?_))
      refine len_iv hb' (by lia) ?_
      (repeat (first | dsimp only [sCons, sNil, sAssign, sAssign2, sSetIdx, sRet, eCall, aNil, aCons, cInt, cBin, eIf, eIdx, tCmp, oAdd_i, oSub_i, oMul_i, oFdiv_i, oMod_i, oShl_i, kLt_i, oAdd_r, oMul_r, fLen_r, vBool_b, vInt_i, vRef_r, LoopQ_next, LoopQ_ret, retQ_next, retQ_ret, cv0_5, cv0_6, cv0_7, cv0_8, cv0_9, cvl0, cv1_5, cv1_6, cv1_7, cv1_8, cv1_9, cvl1, cv2_5, cv2_6, cv2_7, cv2_8, cv2_9, cvl2, cv3_5, cv3_6, cv3_7, cv3_8, cv3_9, cvl3, cv4_5, cv4_6, cv4_7, cv4_8, cv4_9, cvl4, cv5, cv5_6, cv5_7, cv5_8, cv5_9, cv6, cv6_5, cv6_7, cv6_8, cv6_9, cv7, cv7_5, cv7_6, cv7_8, cv7_9, cv8, cv8_5, cv8_6, cv8_7, cv8_9, cv9, cv9_5, cv9_6, cv9_7, cv9_8] | simp only [reduceIte, if_true, if_false, Bool.false_eq_true, reduceCtorEq, ei] | with_reducible refine head_of t_take_away_4.eq_1 ?_ | with_reducible refine head_of t_take_away_3.eq_1 ?_ | with_reducible refine head_of t_take_away_1b_2.eq_1 ?_ | with_reducible refine head_of t_take_away_1b_1.eq_1 ?_ | with_reducible refine head_of t_take_away_1b_0.eq_1 ?_ | with_reducible refine head_of t_take_away_2.eq_1 ?_ | with_reducible refine head_of t_take_away_1.eq_1 ?_))
      refine set_iv (updH_same ..) (by (with_reducible exact Int.natCast_nonneg _)) (by simp only [List.length_append, List.length_cons]; lia) (by (with_reducible exact c20 (by assumption))) ?_
      rw [Int.toNat_natCast, mid_set, updH_updH]
      (repeat (first | dsimp only [sCons, sNil, sAssign, sAssign2, sSetIdx, sRet, eCall, aNil, aCons, cInt, cBin, eIf, eIdx, tCmp, oAdd_i, oSub_i, oMul_i, oFdiv_i, oMod_i, oShl_i, kLt_i, oAdd_r, oMul_r, fLen_r, vBool_b, vInt_i, vRef_r, LoopQ_next, LoopQ_ret, retQ_next, retQ_ret, cv0_5, cv0_6, cv0_7, cv0_8, cv0_9, cvl0, cv1_5, cv1_6, cv1_7, cv1_8, cv1_9, cvl1, cv2_5, cv2_6, cv2_7, cv2_8, cv2_9, cvl2, cv3_5, cv3_6, cv3_7, cv3_8, cv3_9, cvl3, cv4_5, cv4_6, cv4_7, cv4_8, cv4_9, cvl4, cv5, cv5_6, cv5_7, cv5_8, cv5_9, cv6, cv6_5, cv6_7, cv6_8, cv6_9, cv7, cv7_5, cv7_6, cv7_8, cv7_9, cv8, cv8_5, cv8_6, cv8_7, cv8_9, cv9, cv9_5, cv9_6, cv9_7, cv9_8] | simp only [reduceIte, if_true, if_false, Bool.false_eq_true, reduceCtorEq, cVar_at n0, cVar_at n1, cVar_at n2, cVar_at n3, cVar_at n5, cVar_at n6] | with_reducible refine head_of t_take_away_4.eq_1 ?_ | with_reducible refine head_of t_take_away_3.eq_1 ?_ | with_reducible refine head_of t_take_away_1b_2.eq_1 ?_ | with_reducible refine head_of t_take_away_1b_1.eq_1 ?_ | with_reducible refine head_of t_take_away_1b_0.eq_1 ?_ | with_reducible refine head_of t_take_away_2.eq_1 ?_ | with_reducible refine head_of t_take_away_1.eq_1 ?_))
      rw [decide_eq_true hneg]
      (repeat (first | dsimp only [sCons, sNil, sAssign, sAssign2, sSetIdx, sRet, eCall, aNil, aCons, cInt, cBin, eIf, eIdx, tCmp, oAdd_i, oSub_i, oMul_i, oFdiv_i, oMod_i, oShl_i, kLt_i, oAdd_r, oMul_r, fLen_r, vBool_b, vInt_i, vRef_r, LoopQ_next, LoopQ_ret, retQ_next, retQ_ret, cv0_5, cv0_6, cv0_7, cv0_8, cv0_9, cvl0, cv1_5, cv1_6, cv1_7, cv1_8, cv1_9, cvl1, cv2_5, cv2_6, cv2_7, cv2_8, cv2_9, cvl2, cv3_5, cv3_6, cv3_7, cv3_8, cv3_9, cvl3, cv4_5, cv4_6, cv4_7, cv4_8, cv4_9, cvl4, cv5, cv5_6, cv5_7, cv5_8, cv5_9, cv6, cv6_5, cv6_7, cv6_8, cv6_9, cv7, cv7_5, cv7_6, cv7_8, cv7_9, cv8, cv8_5, cv8_6, cv8_7, cv8_9, cv9, cv9_5, cv9_6, cv9_7, cv9_8] | simp only [reduceIte, if_true, if_false, Bool.false_eq_true, reduceCtorEq] | with_reducible refine head_of t_take_away_4.eq_1 ?_ | with_reducible refine head_of t_take_away_3.eq_1 ?_ | with_reducible refine head_of t_take_away_1b_2.eq_1 ?_ | with_reducible refine head_of t_take_away_1b_1.eq_1 ?_ | with_reducible refine head_of t_take_away_1b_0.eq_1 ?_ | with_reducible refine head_of t_take_away_2.eq_1 ?_ | with_reducible refine head_of t_take_away_1.eq_1 ?_))
      refine hQ _ 1 (by simp [hSl]) (dS.snoc (by (clear hsl hrb hw hw9 hg0 hlen hBe hgB hQ hB hB9 hBB hk hSl hc0 hval hx hpk ei hll hneg; lia)) (by (clear hsl hrb hw hw9 hg0 hlen hBe hgB hQ hB hB9 hBB hk hSl hc0 hcB hval hx hxk hpk ei hll; lia))) (.inr rfl) ?_
      rw [val_snoc, hSl, hpk, Int.pow_succ]
      grind
    · rw [decide_eq_false hneg]
      (repeat (first | dsimp only [sCons, sNil, sAssign, sAssign2, sSetIdx, sRet, eCall, aNil, aCons, cInt, cBin, eIf, eIdx, tCmp, oAdd_i, oSub_i, oMul_i, oFdiv_i, oMod_i, oShl_i, kLt_i, oAdd_r, oMul_r, fLen_r, vBool_b, vInt_i, vRef_r, LoopQ_next, LoopQ_ret, retQ_next, retQ_ret, cv0_5, cv0_6, cv0_7, cv0_8, cv0_9, cvl0, cv1_5, cv1_6, cv1_7, cv1_8, cv1_9, cvl1, cv2_5, cv2_6, cv2_7, cv2_8, cv2_9, cvl2, cv3_5, cv3_6, cv3_7, cv3_8, cv3_9, cvl3, cv4_5, cv4_6, cv4_7, cv4_8, cv4_9, cvl4, cv5, cv5_6, cv5_7, cv5_8, cv5_9, cv6, cv6_5, cv6_7, cv6_8, cv6_9, cv7, cv7_5, cv7_6, cv7_8, cv7_9, cv8, cv8_5, cv8_6, cv8_7, cv8_9, cv9, cv9_5, cv9_6, cv9_7, cv9_8] | simp only [reduceIte, if_true, if_false, Bool.false_eq_true, reduceCtorEq, cVar_at n0, cVar_at n1, cVar_at n2, cVar_at n3, cVar_at n5, cVar_at n6] | with_reducible refine head_of t_take_away_4.eq_1 ?_ | with_reducible refine head_of t_take_away_3.eq_1 ?_ | with_reducible refine head_of t_take_away_1b_2.eq_1 ?_ | with_reducible refine head_of t_take_away_1b_1.eq_1 ?_ | with_reducible refine head_of t_take_away_1b_0.eq_1 ?_ | with_reducible refine head_of t_take_away_2.eq_1 ?_ | with_reducible refine head_of t_take_away_1.eq_1 ?_))
      refine len_iv hb' (by omega) ?_
      (repeat (first | dsimp only [sCons, sNil, sAssign, sAssign2, sSetIdx, sRet, eCall, aNil, aCons, cInt, cBin, eIf, eIdx, tCmp, oAdd_i, oSub_i, oMul_i, oFdiv_i, oMod_i, oShl_i, kLt_i, oAdd_r, oMul_r, fLen_r, vBool_b, vInt_i, vRef_r, LoopQ_next, LoopQ_ret, retQ_next, retQ_ret, cv0_5, cv0_6, cv0_7, cv0_8, cv0_9, cvl0, cv1_5, cv1_6, cv1_7, cv1_8, cv1_9, cvl1, cv2_5, cv2_6, cv2_7, cv2_8, cv2_9, cvl2, cv3_5, cv3_6, cv3_7, cv3_8, cv3_9, cvl3, cv4_5, cv4_6, cv4_7, cv4_8, cv4_9, cvl4, cv5, cv5_6, cv5_7, cv5_8, cv5_9, cv6, cv6_5, cv6_7, cv6_8, cv6_9, cv7, cv7_5, cv7_6, cv7_8, cv7_9, cv8, cv8_5, cv8_6, cv8_7, cv8_9, cv9, cv9_5, cv9_6, cv9_7, cv9_8] | simp only [reduceIte, if_true, if_false, Bool.false_eq_true, reduceCtorEq, ei] | with_reducible refine head_of t_take_away_4.eq_1 ?_ | with_reducible refine head_of t_take_away_3.eq_1 ?_ | with_reducible refine head_of t_take_away_1b_2.eq_1 ?_ | with_reducible refine head_of t_take_away_1b_1.eq_1 ?_ | with_reducible refine head_of t_take_away_1b_0.eq_1 ?_ | with_reducible refine head_of t_take_away_2.eq_1 ?_ | with_reducible refine head_of t_take_away_1.eq_1 ?_))
      refine set_iv (updH_same ..) (by (with_reducible exact Int.natCast_nonneg _)) (by simp only [List.length_append, List.length_cons]; omega) (by (with_reducible exact c20 (by assumption))) ?_
      rw [Int.toNat_natCast, mid_set, updH_updH]
      (repeat (first | dsimp only [sCons, sNil, sAssign, sAssign2, sSetIdx, sRet, eCall, aNil, aCons, cInt, cBin, eIf, eIdx, tCmp, oAdd_i, oSub_i, oMul_i, oFdiv_i, oMod_i, oShl_i, kLt_i, oAdd_r, oMul_r, fLen_r, vBool_b, vInt_i, vRef_r, LoopQ_next, LoopQ_ret, retQ_next, retQ_ret, cv0_5, cv0_6, cv0_7, cv0_8, cv0_9, cvl0, cv1_5, cv1_6, cv1_7, cv1_8, cv1_9, cvl1, cv2_5, cv2_6, cv2_7, cv2_8, cv2_9, cvl2, cv3_5, cv3_6, cv3_7, cv3_8, cv3_9, cvl3, cv4_5, cv4_6, cv4_7, cv4_8, cv4_9, cvl4, cv5, cv5_6, cv5_7, cv5_8, cv5_9, cv6, cv6_5, cv6_7, cv6_8, cv6_9, cv7, cv7_5, cv7_6, cv7_8, cv7_9, cv8, cv8_5, cv8_6, cv8_7, cv8_9, cv9, cv9_5, cv9_6, cv9_7, cv9_8] | simp only [reduceIte, if_true, if_false, Bool.false_eq_true, reduceCtorEq, cVar_at n0, cVar_at n1, cVar_at n2, cVar_at n3, cVar_at n5, cVar_at n6] | with_reducible refine head_of t_take_away_4.eq_1 ?_ | with_reducible refine head_of t_take_away_3.eq_1 ?_ | with_reducible refine head_of t_take_away_1b_2.eq_1 ?_ | with_reducible refine head_of t_take_away_1b_1.eq_1 ?_ | with_reducible refine head_of t_take_away_1b_0.eq_1 ?_ | with_reducible refine head_of t_take_away_2.eq_1 ?_ | with_reducible refine head_of t_take_away_1.eq_1 ?_))
      rw [decide_eq_false hneg]
      (repeat (first | dsimp only [sCons, sNil, sAssign, sAssign2, sSetIdx, sRet, eCall, aNil, aCons, cInt, cBin, eIf, eIdx, tCmp, oAdd_i, oSub_i, oMul_i, oFdiv_i, oMod_i, oShl_i, kLt_i, oAdd_r, oMul_r, fLen_r, vBool_b, vInt_i, vRef_r, LoopQ_next, LoopQ_ret, retQ_next, retQ_ret, cv0_5, cv0_6, cv0_7, cv0_8, cv0_9, cvl0, cv1_5, cv1_6, cv1_7, cv1_8, cv1_9, cvl1, cv2_5, cv2_6, cv2_7, cv2_8, cv2_9, cvl2, cv3_5, cv3_6, cv3_7, cv3_8, cv3_9, cvl3, cv4_5, cv4_6, cv4_7, cv4_8, cv4_9, cvl4, cv5, cv5_6, cv5_7, cv5_8, cv5_9, cv6, cv6_5, cv6_7, cv6_8, cv6_9, cv7, cv7_5, cv7_6, cv7_8, cv7_9, cv8, cv8_5, cv8_6, cv8_7, cv8_9, cv9, cv9_5, cv9_6, cv9_7, cv9_8] | simp only [reduceIte, if_true, if_false, Bool.false_eq_true, reduceCtorEq] | with_reducible refine head_of t_take_away_4.eq_1 ?_ | with_reducible refine head_of t_take_away_3.eq_1 ?_ | with_reducible refine head_of t_take_away_1b_2.eq_1 ?_ | with_reducible refine head_of t_take_away_1b_1.eq_1 ?_ | with_reducible refine head_of t_take_away_1b_0.eq_1 ?_ | with_reducible refine head_of t_take_away_2.eq_1 ?_ | with_reducible refine head_of t_take_away_1.eq_1 ?_))
      refine hQ _ 0 (by simp [hSl]) (dS.snoc (by (clear hsl hrb hw hw9 hg0 hlen hBe hgB hQ hB hB9 hBB hk hSl hc0 hcB hval hx hxk hpk ei hll; lia)) (by (clear hsl hrb hw hw9 hg0 hlen hBe hgB hQ hB hB9 hBB hk hSl hcB hval hx hpk ei hll hneg; lia))) (.inl rfl) ?_
      rw [val_snoc, hSl, hpk, Int.pow_succ]
      grind

noncomputable def P_put_back : PF := fun args H Q => ∃ r b pre seg post bs, ∃ w : Nat, args = [.ref r, .ref b, .int (pre.length : Nat), .int w] ∧ seg.length = bs.length + 1 ∧
  H r = some (.list (iv (pre ++ seg ++ post))) ∧ H b = some (.list (iv bs)) ∧ r ≠ b ∧ (pre ++ seg ++ post).length ≤ 1000 ∧ 1 ≤ w ∧ w ≤ 9 ∧ Dig (2 ^ w) seg ∧ Dig (2 ^ w) bs ∧
  ∀ S (over : Int), S.length = bs.length + 1 → Dig (2 ^ w) S → (over = 0 ∨ over = 1) → val (2 ^ w) S = val (2 ^ w) seg + val (2 ^ w) bs - over * (2 ^ w) ^ (bs.length + 1) → Q .nil (updH H r (.list (iv (pre ++ S ++ post))))

noncomputable def t_put_back_1b_2 : PS := (sCons (sAug 4 oShr (cVar 3)) sNil)
noncomputable def t_put_back_1b_1 : PS := (sCons (sSetIdx (cVar 0) (cBin oAdd (cVar 2) (cVar 6)) (cBin oAnd (cVar 4) (cVar 5))) t_put_back_1b_2)
noncomputable def t_put_back_1b_0 : PS := (sCons (sAug 4 oIAdd (cBin oAdd (eIdx (cVar 0) (cBin oAdd (cVar 2) (cVar 6))) (cVar 7))) t_put_back_1b_1)
noncomputable def t_put_back_2 : PS := (sCons (sSetIdx (cVar 0) (cBin oAdd (cVar 2) (eCall fLen (aCons (cVar 1) aNil))) (cBin oAnd (cBin oAdd (eIdx (cVar 0) (cBin oAdd (cVar 2) (eCall fLen (aCons (cVar 1) aNil)))) (cVar 4)) (cVar 5))) sNil)
noncomputable def t_put_back_1 : PS := (sCons (sForE 6 7 (cVar 1) t_put_back_1b_0) t_put_back_2)
noncomputable def ps_put_back : PS := (sCons (sAssign2 4 5 (cInt 0) (cBin oSub (cBin oShl (cInt 1) (cVar 3)) (cInt 1))) t_put_back_1)

theorem put_step {B x : Int} (hB : 2 ≤ B) (hx0 : 0 ≤ x) (hx : x < 2 * B) : 0 ≤ x % B ∧ x % B < B ∧ 0 ≤ x / B ∧ x / B ≤ 1 ∧ x % B + B * (x / B) = x := by
  have h1 := Int.emod_nonneg x (show B ≠ 0 by lia)
  have h2 := Int.emod_lt_of_pos x (show 0 < B by (with_reducible exact cp0 (by assumption)))
  have h3 := Int.emod_add_mul_ediv x B
  have h4 : 0 ≤ x / B := Int.ediv_nonneg hx0 (by (with_reducible exact cpn (by assumption)))
  have h5 : x / B < 2 := Int.ediv_lt_of_lt_mul (by (with_reducible exact cp0 (by assumption))) hx
  (clear hB hx0 hx; lia)

theorem pu_put_back (args : List V) (H : Hp) (Q : V → Hp → Prop) (h : P_put_back args H Q) : args.length = 4 ∧ ps_put_back (fun i => args[i]?) H (retQ Q) := by
  obtain ⟨r, b, pre, seg, post, bs, w, rfl, hsl, hr, hb, hrb, hlen, hw, hw9, ds, db, hQ⟩ := h
  refine ⟨rfl, ?_⟩
  have hB := two_le hw
  have hB9 := le_512 hw9
  simp only [List.length_append] at hlen
  (repeat (first | dsimp only [sCons, sNil, sAssign2, sSetIdx, sAug, eCall, aNil, aCons, cInt, cBin, eIdx, oAdd_i, oSub_i, oShl_i, oShr_i, oAnd_i, oIAdd_i, oAdd_r, fLen_r, vBool_b, vInt_i, vRef_r, LoopQ_next, LoopQ_ret, retQ_next, retQ_ret, cv0_4, cv0_5, cv0_6, cv0_7, cvl0, cv1_4, cv1_5, cv1_6, cv1_7, cvl1, cv2_4, cv2_5, cv2_6, cv2_7, cvl2, cv3_4, cv3_5, cv3_6, cv3_7, cvl3, cv4, cv4_5, cv4_6, cv4_7, cvl4, cv5, cv5_4, cv5_6, cv5_7, cv6, cv6_4, cv6_5, cv6_7, cv7, cv7_4, cv7_5, cv7_6, ps_put_back] | simp only [reduceIte, if_true, if_false, Bool.false_eq_true, reduceCtorEq] | with_reducible refine head_of t_put_back_1b_2.eq_1 ?_ | with_reducible refine head_of t_put_back_1b_1.eq_1 ?_ | with_reducible refine head_of t_put_back_1b_0.eq_1 ?_ | with_reducible refine head_of t_put_back_2.eq_1 ?_ | with_reducible refine head_of t_put_back_1.eq_1 ?_))
  refine ⟨by (with_reducible exact Int.natCast_nonneg _), by (with_reducible exact cw (by assumption)), by decide, ?_⟩
  rw [Int.one_mul, Int.toNat_natCast]
  (repeat (first | dsimp only [sCons, sNil, sAssign2, sSetIdx, sAug, eCall, aNil, aCons, cInt, cBin, eIdx, oAdd_i, oSub_i, oShl_i, oShr_i, oAnd_i, oIAdd_i, oAdd_r, fLen_r, vBool_b, vInt_i, vRef_r, LoopQ_next, LoopQ_ret, retQ_next, retQ_ret, cv0_4, cv0_5, cv0_6, cv0_7, cvl0, cv1_4, cv1_5, cv1_6, cv1_7, cvl1, cv2_4, cv2_5, cv2_6, cv2_7, cvl2, cv3_4, cv3_5, cv3_6, cv3_7, cvl3, cv4, cv4_5, cv4_6, cv4_7, cvl4, cv5, cv5_4, cv5_6, cv5_7, cv6, cv6_4, cv6_5, cv6_7, cv7, cv7_4, cv7_5, cv7_6, sForE] | simp only [reduceIte, if_true, if_false, Bool.false_eq_true, reduceCtorEq] | with_reducible refine head_of t_put_back_1b_2.eq_1 ?_ | with_reducible refine head_of t_put_back_1b_1.eq_1 ?_ | with_reducible refine head_of t_put_back_1b_0.eq_1 ?_ | with_reducible refine head_of t_put_back_2.eq_1 ?_ | with_reducible refine head_of t_put_back_1.eq_1 ?_))
  refine ⟨_, hb, fun k m' H' => m' 0 = some (.ref r) ∧ m' 1 = some (.ref b) ∧ m' 2 = some (.int (pre.length : Nat)) ∧ m' 3 = some (.int w) ∧ m' 5 = some (.int (2 ^ w - 1)) ∧ k ≤ bs.length ∧ ∃ S c, m' 4 = some (.int c) ∧
    S.length = k ∧ H' = updH H r (.list (iv (pre ++ S ++ (seg.drop k ++ post)))) ∧ Dig (2 ^ w) S ∧ 0 ≤ c ∧ c ≤ 1 ∧ val (2 ^ w) S + (2 ^ w) ^ k * c = val (2 ^ w) (seg.take k) + val (2 ^ w) (bs.take k),
    ⟨rfl, rfl, rfl, rfl, rfl, Nat.zero_le _, [], 0, rfl, rfl, ?_, Dig.nil, by (with_reducible exact Int.le_refl _), by (clear hsl hrb hw hw9 hQ hB hB9 hlen; lia), by simp [val]⟩, ?_, ?_, ?_⟩
  · rw [updH_self]
    rw [hr]; simp
  · rintro k m' H' ⟨_, _, _, _, _, _, S, c, _, _, rfl, _⟩
    rw [updH_ne _ _ (Ne.symm hrb)]
    exact hb
  · intro k v m' H' hv hI
    refine loop_hide fun P hP => ?_
    obtain ⟨n0, n1, n2, n3, n5, hk, S, c, n4, hSl, rfl, dS, hc0, hcB, hval⟩ := hI
    obtain ⟨hkb, rfl⟩ := iv_at hv
    have hbk := db.get (by (with_reducible exact cpos)) k
    have hxk := ds.get (by (with_reducible exact cpos)) k
    rw [drop_cons (by (clear hrb hw hw9 hQ hB hB9 hlen hP hk hSl hc0 hcB hval hbk hxk; lia) : k < seg.length), List.cons_append]
    generalize hx : seg.getD k 0 = x at *
    generalize hy : bs.getD k 0 = y at *
    have ei : ((pre.length : Nat) : Int) + (k : Int) = ((pre.length + S.length : Nat) : Int) := by (clear hsl hrb hw hw9 hQ hB hB9 hlen hP hk hc0 hcB hval hkb hx hxk hy hbk; lia)
    have hll : (pre ++ S ++ (x :: (seg.drop (k + 1) ++ post))).length ≤ 1000 := by
      simp only [List.length_append, List.length_cons, List.length_drop]; (clear hrb hw hw9 hQ hB hB9 hP hk hc0 hcB hval hx hxk hy hbk ei; omega)
    (repeat (first | dsimp only [sCons, sNil, sAssign2, sSetIdx, sAug, eCall, aNil, aCons, cInt, cBin, eIdx, oAdd_i, oSub_i, oShl_i, oShr_i, oAnd_i, oIAdd_i, oAdd_r, fLen_r, vBool_b, vInt_i, vRef_r, LoopQ_next, LoopQ_ret, retQ_next, retQ_ret, cv0_4, cv0_5, cv0_6, cv0_7, cvl0, cv1_4, cv1_5, cv1_6, cv1_7, cvl1, cv2_4, cv2_5, cv2_6, cv2_7, cvl2, cv3_4, cv3_5, cv3_6, cv3_7, cvl3, cv4, cv4_5, cv4_6, cv4_7, cvl4, cv5, cv5_4, cv5_6, cv5_7, cv6, cv6_4, cv6_5, cv6_7, cv7, cv7_4, cv7_5, cv7_6] | simp only [reduceIte, if_true, if_false, Bool.false_eq_true, reduceCtorEq, cVar_at n0, cVar_at n1, cVar_at n2, cVar_at n3, cVar_at n4, cVar_at n5, ei] | with_reducible refine head_of t_put_back_1b_2.eq_1 ?_ | with_reducible refine head_of t_put_back_1b_1.eq_1 ?_ | with_reducible refine head_of t_put_back_1b_0.eq_1 ?_ | with_reducible refine head_of t_put_back_2.eq_1 ?_ | with_reducible refine head_of t_put_back_1.eq_1 ?_))
    refine idx_iv (updH_same ..) (by (with_reducible exact Int.natCast_nonneg _)) (by simp only [List.length_append, List.length_cons]; (clear hsl hrb hw hw9 hQ hB hB9 hlen hP hk hSl hc0 hcB hval hkb hx hxk hy hbk ei hll; lia)) (by (with_reducible exact c20 (by assumption))) ?_
    rw [Int.toNat_natCast, mid_get]
    (repeat (first | dsimp only [sCons, sNil, sAssign2, sSetIdx, sAug, eCall, aNil, aCons, cInt, cBin, eIdx, oAdd_i, oSub_i, oShl_i, oShr_i, oAnd_i, oIAdd_i, oAdd_r, fLen_r, vBool_b, vInt_i, vRef_r, LoopQ_next, LoopQ_ret, retQ_next, retQ_ret, cv0_4, cv0_5, cv0_6, cv0_7, cvl0, cv1_4, cv1_5, cv1_6, cv1_7, cvl1, cv2_4, cv2_5, cv2_6, cv2_7, cvl2, cv3_4, cv3_5, cv3_6, cv3_7, cvl3, cv4, cv4_5, cv4_6, cv4_7, cvl4, cv5, cv5_4, cv5_6, cv5_7, cv6, cv6_4, cv6_5, cv6_7, cv7, cv7_4, cv7_5, cv7_6] | simp only [reduceIte, if_true, if_false, Bool.false_eq_true, reduceCtorEq, cVar_at n0, cVar_at n1, cVar_at n2, cVar_at n3, cVar_at n4, cVar_at n5, ei] | with_reducible refine head_of t_put_back_1b_2.eq_1 ?_ | with_reducible refine head_of t_put_back_1b_1.eq_1 ?_ | with_reducible refine head_of t_put_back_1b_0.eq_1 ?_ | with_reducible refine head_of t_put_back_2.eq_1 ?_ | with_reducible refine head_of t_put_back_1.eq_1 ?_))
    obtain ⟨s1, s2, s3, s4, s5⟩ := put_step hB (x := c + (x + y)) (by (clear hsl hrb hw hw9 hQ hB hB9 hlen hP hk hSl hcB hval hkb hx hy ei hll; lia)) (by (clear hsl hrb hw hw9 hQ hB hB9 hlen hP hk hSl hc0 hval hkb hx hy ei hll hr hb ds db n0 n1 n2 n3 n5 n4 dS hv; lia))
    rw [band_mask (by (clear hsl hrb hw hw9 hQ hB hB9 hlen hP hk hSl hcB hval hkb hx hy ei hll s1 s2 s3 s4 s5; omega))]
    refine set_iv (updH_same ..) (by (with_reducible exact Int.natCast_nonneg _)) (by simp only [List.length_append, List.length_cons]; lia) (by (with_reducible exact c20 (by assumption))) ?_
    simp only [Int.toNat_natCast, mid_set, updH_updH]
    (repeat (first | dsimp only [sCons, sNil, sAssign2, sSetIdx, sAug, eCall, aNil, aCons, cInt, cBin, eIdx, oAdd_i, oSub_i, oShl_i, oShr_i, oAnd_i, oIAdd_i, oAdd_r, fLen_r, vBool_b, vInt_i, vRef_r, LoopQ_next, LoopQ_ret, retQ_next, retQ_ret, cv0_4, cv0_5, cv0_6, cv0_7, cvl0, cv1_4, cv1_5, cv1_6, cv1_7, cvl1, cv2_4, cv2_5, cv2_6, cv2_7, cvl2, cv3_4, cv3_5, cv3_6, cv3_7, cvl3, cv4, cv4_5, cv4_6, cv4_7, cvl4, cv5, cv5_4, cv5_6, cv5_7, cv6, cv6_4, cv6_5, cv6_7, cv7, cv7_4, cv7_5, cv7_6] | simp only [reduceIte, if_true, if_false, Bool.false_eq_true, reduceCtorEq, cVar_at n0, cVar_at n1, cVar_at n2, cVar_at n3, cVar_at n4, cVar_at n5, ei, Int.toNat_natCast] | with_reducible refine head_of t_put_back_1b_2.eq_1 ?_ | with_reducible refine head_of t_put_back_1b_1.eq_1 ?_ | with_reducible refine head_of t_put_back_1b_0.eq_1 ?_ | with_reducible refine head_of t_put_back_2.eq_1 ?_ | with_reducible refine head_of t_put_back_1.eq_1 ?_))
    refine ⟨by (with_reducible exact Int.natCast_nonneg _), ?_⟩
    rw [fdiv_pos (by (with_reducible exact cposn))]
    refine hP _ _ ⟨n0, n1, n2, n3, n5, by (clear hsl hrb hw hw9 hQ hB hB9 hlen hP hk hSl hc0 hcB hval hx hxk hy hbk ei hll s1 s2 s3 s4 s5; lia), _, _, rfl, by simp [hSl], rfl, dS.snoc s1 s2, s3, s4, ?_⟩
    have hpk := val_take_succ (B := 2 ^ w) (xs := seg) (k := k) (by (clear hrb hw hw9 hQ hB hB9 hlen hP hk hSl hc0 hcB hval hx hxk hy hbk ei hll s1 s2 s3 s4 s5; omega))
    have hpb := val_take_succ (B := 2 ^ w) hkb
    rw [hx] at hpk
    rw [hy] at hpb
    rw [val_snoc, hSl, hpk, hpb, Int.pow_succ]
    grind
  · rintro m' H' ⟨n0, n1, n2, n3, n5, hk, S, c, n4, hSl, rfl, dS, hc0, hcB, hval⟩
    rw [iv_length] at hSl hval hk ⊢
    have hxk := ds.get (by (with_reducible exact cpos)) bs.length
    have hd : seg.drop bs.length = [seg.getD bs.length 0] := by
      rw [drop_cons (by (clear hrb hw hw9 hQ hB hB9 hlen hk hSl hc0 hcB hval hxk; lia)), List.drop_eq_nil_of_le (by (clear hrb hw hw9 hQ hB hB9 hlen hk hSl hc0 hcB hval hxk; lia))]
    have hpk := val_take_succ (B := 2 ^ w) (xs := seg) (k := bs.length) (by lia)
    rw [← hsl, List.take_length] at hpk
    rw [hd, List.cons_append, List.nil_append]
    rw [List.take_length] at hval
    generalize hx : seg.getD bs.length 0 = x at *
    have ei : ((pre.length : Nat) : Int) + (bs.length : Int) = ((pre.length + S.length : Nat) : Int) := by (clear hsl hrb hw hw9 hQ hB hB9 hlen hk hc0 hcB hval hx hxk hpk; lia)
    have hll : (pre ++ S ++ (x :: post)).length ≤ 1000 := by
      simp only [List.length_append, List.length_cons]; (clear hrb hw hw9 hQ hB hB9 hk hc0 hcB hval hx hxk hpk ei; lia)
    have hb' : updH H r (.list (iv (pre ++ S ++ (x :: post)))) b = some (.list (iv bs)) := by rw [updH_ne _ _ (Ne.symm hrb)]; exact hb
    (repeat (first | dsimp only [sCons, sNil, sAssign2, sSetIdx, sAug, eCall, aNil, aCons, cInt, cBin, eIdx, oAdd_i, oSub_i, oShl_i, oShr_i, oAnd_i, oIAdd_i, oAdd_r, fLen_r, vBool_b, vInt_i, vRef_r, LoopQ_next, LoopQ_ret, retQ_next, retQ_ret, cv0_4, cv0_5, cv0_6, cv0_7, cvl0, cv1_4, cv1_5, cv1_6, cv1_7, cvl1, cv2_4, cv2_5, cv2_6, cv2_7, cvl2, cv3_4, cv3_5, cv3_6, cv3_7, cvl3, cv4, cv4_5, cv4_6, cv4_7, cvl4, cv5, cv5_4, cv5_6, cv5_7, cv6, cv6_4, cv6_5, cv6_7, cv7, cv7_4, cv7_5, cv7_6] | simp only [reduceIte, if_true, if_false, Bool.false_eq_true, reduceCtorEq, cVar_at n0, cVar_at n1, cVar_at n2, cVar_at n3, cVar_at n4, cVar_at n5] | with_reducible refine head_of t_put_back_1b_2.eq_1 ?_ | with_reducible refine head_of t_put_back_1b_1.eq_1 ?_ | with_reducible refine head_of t_put_back_1b_0.eq_1 ?_ | with_reducible refine head_of t_put_back_2.eq_1 ?_ | with_reducible refine head_of t_put_back_1.eq_1 ?_))
    refine len_iv hb' (by (clear hrb hw hw9 hQ hB hB9 hk hSl hc0 hcB hval hx hxk hpk ei hll; lia)) ?_
    (repeat (first | dsimp only [sCons, sNil, sAssign2, sSetIdx, sAug, eCall, aNil, aCons, cInt, cBin, eIdx, oAdd_i, oSub_i, oShl_i, oShr_i, oAnd_i, oIAdd_i, oAdd_r, fLen_r, vBool_b, vInt_i, vRef_r, LoopQ_next, LoopQ_ret, retQ_next, retQ_ret, cv0_4, cv0_5, cv0_6, cv0_7, cvl0, cv1_4, cv1_5, cv1_6, cv1_7, cvl1, cv2_4, cv2_5, cv2_6, cv2_7, cvl2, cv3_4, cv3_5, cv3_6, cv3_7, cvl3, cv4, cv4_5, cv4_6, cv4_7, cvl4, cv5, cv5_4, cv5_6, cv5_7, cv6, cv6_4, cv6_5, cv6_7, cv7, cv7_4, cv7_5, cv7_6] | simp only [reduceIte, if_true, if_false, Bool.false_eq_true, reduceCtorEq, ei] | with_reducible refine head_of t_put_back_1b_2.eq_1 ?_ | with_reducible refine head_of t_put_back_1b_1.eq_1 ?_ | with_reducible refine head_of t_put_back_1b_0.eq_1 ?_ | with_reducible refine head_of t_put_back_2.eq_1 ?_ | with_reducible refine head_of t_put_back_1.eq_1 ?_))
    refine idx_iv (updH_same ..) (by (with_reducible exact Int.natCast_nonneg _)) (by simp only [List.length_append, List.length_cons]; (clear hsl hrb hw hw9 hQ hB hB9 hlen hk hSl hc0 hcB hval hx hxk hpk ei hll; lia)) (by (with_reducible exact c20 (by assumption))) ?_
    rw [Int.toNat_natCast, mid_get]
    (repeat (first | dsimp only [sCons, sNil, sAssign2, sSetIdx, sAug, eCall, aNil, aCons, cInt, cBin, eIdx, oAdd_i, oSub_i, oShl_i, oShr_i, oAnd_i, oIAdd_i, oAdd_r, fLen_r, vBool_b, vInt_i, vRef_r, LoopQ_next, LoopQ_ret, retQ_next, retQ_ret, cv0_4, cv0_5, cv0_6, cv0_7, cvl0, cv1_4, cv1_5, cv1_6, cv1_7, cvl1, cv2_4, cv2_5, cv2_6, cv2_7, cvl2, cv3_4, cv3_5, cv3_6, cv3_7, cvl3, cv4, cv4_5, cv4_6, cv4_7, cvl4, cv5, cv5_4, cv5_6, cv5_7, cv6, cv6_4, cv6_5, cv6_7, cv7, cv7_4, cv7_5, cv7_6] | simp only [reduceIte, if_true, if_false, Bool.false_eq_true, reduceCtorEq, cVar_at n0, cVar_at n1, cVar_at n2, cVar_at n3, cVar_at n4, cVar_at n5] | with_reducible refine head_of t_put_back_1b_2.eq_1 ?_ | with_reducible refine head_of t_put_back_1b_1.eq_1 ?_ | with_reducible refine head_of t_put_back_1b_0.eq_1 ?_ | with_reducible refine head_of t_put_back_2.eq_1 ?_ | with_reducible refine head_of t_put_back_1.eq_1 ?_))
    refine len_iv hb' (by lia) ?_
    (repeat (first | dsimp only [sCons, sNil, sAssign2, sSetIdx, sAug, eCall, aNil, aCons, cInt, cBin, eIdx, oAdd_i, oSub_i, oShl_i, oShr_i, oAnd_i, oIAdd_i, oAdd_r, fLen_r, vBool_b, vInt_i, vRef_r, LoopQ_next, LoopQ_ret, retQ_next, retQ_ret, cv0_4, cv0_5, cv0_6, cv0_7, cvl0, cv1_4, cv1_5, cv1_6, cv1_7, cvl1, cv2_4, cv2_5, cv2_6, cv2_7, cvl2, cv3_4, cv3_5, cv3_6, cv3_7, cvl3, cv4, cv4_5, cv4_6, cv4_7, cvl4, cv5, cv5_4, cv5_6, cv5_7, cv6, cv6_4, cv6_5, cv6_7, cv7, cv7_4, cv7_5, cv7_6] | simp only [reduceIte, if_true, if_false, Bool.false_eq_true, reduceCtorEq, ei] | with_reducible refine head_of t_put_back_1b_2.eq_1 ?_ | with_reducible refine head_of t_put_back_1b_1.eq_1 ?_ | with_reducible refine head_of t_put_back_1b_0.eq_1 ?_ | with_reducible refine head_of t_put_back_2.eq_1 ?_ | with_reducible refine head_of t_put_back_1.eq_1 ?_))
    obtain ⟨s1, s2, s3, s4, s5⟩ := put_step hB (x := x + c) (by (clear hsl hrb hw hw9 hQ hB hB9 hlen hk hSl hcB hval hx hpk ei hll; lia)) (by (clear hsl hrb hw hw9 hQ hB hB9 hlen hk hSl hc0 hval hx hpk ei hll hr hb ds db n0 n1 n2 n3 n5 n4 dS hd hb'; lia))
    rw [band_mask (by (clear hsl hrb hw hw9 hQ hB hB9 hlen hk hSl hcB hval hx hpk ei hll s1 s2 s3 s4 s5; omega))]
    refine set_iv (updH_same ..) (by (with_reducible exact Int.natCast_nonneg _)) (by simp only [List.length_append, List.length_cons]; lia) (by (with_reducible exact c20 (by assumption))) ?_
    rw [Int.toNat_natCast, mid_set, updH_updH]
    (repeat (first | dsimp only [sCons, sNil, sAssign2, sSetIdx, sAug, eCall, aNil, aCons, cInt, cBin, eIdx, oAdd_i, oSub_i, oShl_i, oShr_i, oAnd_i, oIAdd_i, oAdd_r, fLen_r, vBool_b, vInt_i, vRef_r, LoopQ_next, LoopQ_ret, retQ_next, retQ_ret, cv0_4, cv0_5, cv0_6, cv0_7, cvl0, cv1_4, cv1_5, cv1_6, cv1_7, cvl1, cv2_4, cv2_5, cv2_6, cv2_7, cvl2, cv3_4, cv3_5, cv3_6, cv3_7, cvl3, cv4, cv4_5, cv4_6, cv4_7, cvl4, cv5, cv5_4, cv5_6, cv5_7, cv6, cv6_4, cv6_5, cv6_7, cv7, cv7_4, cv7_5, cv7_6] | simp only [reduceIte, if_true, if_false, Bool.false_eq_true, reduceCtorEq] | with_reducible refine head_of t_put_back_1b_2.eq_1 ?_ | with_reducible refine head_of t_put_back_1b_1.eq_1 ?_ | with_reducible refine head_of t_put_back_1b_0.eq_1 ?_ | with_reducible refine head_of t_put_back_2.eq_1 ?_ | with_reducible refine head_of t_put_back_1.eq_1 ?_))
    refine hQ _ ((x + c) / 2 ^ w) (by simp [hSl]) (dS.snoc s1 s2) (by (clear hsl hrb hw hw9 hQ hB hB9 hlen hk hSl hc0 hcB hval hx hxk hpk ei hll s1 s2 s5; lia)) ?_
    rw [val_snoc, hSl, hpk, Int.pow_succ]
    grind
end Mine
end

section
open PySem
set_option linter.unusedVariables false
set_option linter.unusedSimpArgs false
namespace Mine

noncomputable def ExtBut (r : Nat) (H H' : Hp) : Prop := ∀ b o, b ≠ r → H b = some o → H' b = some o
theorem ExtBut.trans {r : Nat} {H H' H'' : Hp} (x : ExtBut r H H') (y : ExtBut r H' H'') : ExtBut r H H'' := fun b o n h => y b o n (x b o n h)
theorem Ext.but {r : Nat} {H H' : Hp} (x : Ext H H') : ExtBut r H H' := fun b o _ h => x b o h
theorem ExtBut.upd {r : Nat} {H : Hp} {o : O} : ExtBut r H (updH H r o) := fun b ob n h => by rw [updH_ne _ _ n]; exact h
theorem ExtBut.over {r c : Nat} {H H' : Hp} {o : O} (x : ExtBut r H H') (h : H c = none) : ExtBut r H (updH H' c o) := fun b ob n hb => by
  rw [updH_ne _ _ (ne_fresh hb h)]; exact x b ob n hb

/-- the guess of a limb by three limbs and two is right or one too great -/
theorem guess_ok {B f s D P lowD N3 low seg g : Int} (hB : 2 ≤ B) (hf : 0 < f) (hs : 0 ≤ s) (hP : 0 < P) (hD : D = (f * B + s) * P + lowD) (hl0 : 0 ≤ lowD) (hl1 : lowD < P)
    (hseg : seg = N3 * P + low) (h0 : 0 ≤ low) (h1 : low < P) (hg0 : 0 ≤ g) (hg1 : g ≤ B - 1) (hle : g * (f * B + s) ≤ N3) (hor : N3 < (g + 1) * (f * B + s) ∨ g = B - 1) (hs0 : 0 ≤ seg) (hsD : seg < D * B) :
    seg < (g + 1) * D ∧ (g - 1) * D ≤ seg := by
  have hfB : B ≤ f * B := by
    have := Int.mul_le_mul_of_nonneg_right (show 1 ≤ f by (clear hB hs hP hD hl0 hl1 hseg h0 h1 hg0 hg1 hle hor hs0 hsD; lia)) (show 0 ≤ B by (with_reducible exact cpn (by assumption)))
    (clear hB hf hs hP hD hl0 hl1 hseg h0 h1 hg0 hg1 hle hor hs0 hsD; lia)
  generalize hE : f * B + s = E at *
  have hDpos : 0 ≤ D := by have := Int.mul_nonneg (show 0 ≤ E by (clear hf hP hl0 hl1 hseg h0 h1 hg0 hg1 hs0 hsD hD hle hor; lia)) (show 0 ≤ P by (with_reducible exact Int.le_of_lt (by assumption))); (clear hB hf hs hP hl1 hseg h0 h1 hg0 hg1 hs0 hsD hfB hE hle hor; lia)
  constructor
  · rcases hor with h | h
    · have a1 : (N3 + 1) * P ≤ (g + 1) * E * P := Int.mul_le_mul_of_nonneg_right (by (clear hB hf hs hP hl0 hl1 hseg h0 h1 hg0 hg1 hs0 hsD hfB hE hD hle hDpos; lia)) (by (with_reducible exact Int.le_of_lt (by assumption)))
      have a2 : 0 ≤ (g + 1) * lowD := Int.mul_nonneg (by (clear hB hf hs hP hl0 hl1 hseg h0 h1 hg1 hs0 hsD hfB hE hD hle hDpos h a1; lia)) hl0
      have a3 : (g + 1) * D = (g + 1) * E * P + (g + 1) * lowD := by rw [hD]; grind
      have a4 : (N3 + 1) * P = N3 * P + P := by grind
      (clear hB hf hs hP hl0 hl1 h0 hg0 hg1 hs0 hsD hfB hE hD hle hDpos h; omega)
    · rw [h, show B - 1 + 1 = B by (clear hB hf hs hP hl0 hl1 hseg h0 h1 hg0 hg1 hs0 hsD hfB hE hD hle hDpos h; lia), Int.mul_comm]; exact hsD
  · by_cases hz : g = 0
    · rw [hz]; have : (0 - 1) * D = -D := by grind
      (clear hB hf hs hP hl0 hl1 hseg h0 h1 hg0 hg1 hsD hfB hE hD hle hor hz this; lia)
    · have a1 : (g - 1) * lowD ≤ (g - 1) * P := Int.mul_le_mul_of_nonneg_left (by (with_reducible exact Int.le_of_lt (by assumption))) (by (clear hB hf hs hP hl0 hl1 hseg h0 h1 hg1 hs0 hsD hfB hE hD hle hor hDpos; lia))
      have a2 : (g - 1) * D = (g - 1) * E * P + (g - 1) * lowD := by rw [hD]; grind
      have a3 : (g * E - E + (g - 1)) * P ≤ N3 * P := Int.mul_le_mul_of_nonneg_right (by (clear hB hf hP hl0 hl1 hseg h0 h1 hg0 hs0 hsD hD hor hDpos hz a1 a2; lia)) (by (with_reducible exact Int.le_of_lt (by assumption)))
      have a4 : (g * E - E + (g - 1)) * P = (g - 1) * E * P + (g - 1) * P := by grind
      (clear hB hf hs hP hl0 hl1 h1 hg0 hg1 hs0 hsD hfB hE hD hle hor hDpos hz; omega)

noncomputable def P_divide_rows : PF := fun args H Q => ∃ r b R bs, ∃ w m : Nat, args = [.ref r, .ref b, .int w] ∧ H r = some (.list (iv R)) ∧ H b = some (.list (iv bs)) ∧ r ≠ b ∧ R.length = bs.length + m ∧ R.length ≤ 1000 ∧ 2 ≤ bs.length ∧ 1 ≤ w ∧ w ≤ 9 ∧
  Dig (2 ^ w) R ∧ Dig (2 ^ w) bs ∧ 0 < bs.getD (bs.length - 1) 0 ∧ val (2 ^ w) R < val (2 ^ w) bs * (2 ^ w) ^ m ∧
  ∀ r1 H' qs R', ExtBut r H H' → H r1 = none → H' r = some (.list (iv R')) → H' r1 = some (.list (iv qs)) → qs.length = m → Dig (2 ^ w) qs → R'.length = R.length → Dig (2 ^ w) R' →
    val (2 ^ w) R = val (2 ^ w) qs * val (2 ^ w) bs + val (2 ^ w) R' → val (2 ^ w) R' < val (2 ^ w) bs → Q (.ref r1) H'

noncomputable def t_divide_rows_2b_1i_1 : PS := (sCons (sExpr (eCall P_put_back (aCons (cVar 0) (aCons (cVar 1) (aCons (cVar 5) (aCons (cVar 2) aNil)))))) sNil)
noncomputable def t_divide_rows_2b_2 : PS := (sCons (sSetIdx (cVar 4) (cVar 5) (cVar 6)) sNil)
noncomputable def t_divide_rows_2b_1 : PS := (sCons (sIf (tCmp kEq (eCall P_take_away (aCons (cVar 0) (aCons (cVar 1) (aCons (cVar 6) (aCons (cVar 5) (aCons (cVar 2) aNil)))))) (cInt 1)) (sCons (sAug 6 oSub (cInt 1)) t_divide_rows_2b_1i_1) sNil) t_divide_rows_2b_2)
noncomputable def t_divide_rows_2b_0 : PS := (sCons (sAssign 6 (eCall P_guessed_limb (aCons (eSlice (cVar 0) (pSome (cBin oSub (cBin oAdd (cVar 5) (cVar 3)) (cInt 2))) (pSome (cBin oAdd (cBin oAdd (cVar 5) (cVar 3)) (cInt 1)))) (aCons (eIdx (cVar 1) (cBin oSub (cVar 3) (cInt 1))) (aCons (eIdx (cVar 1) (cBin oSub (cVar 3) (cInt 2))) (aCons (cVar 2) aNil)))))) t_divide_rows_2b_1)
noncomputable def t_divide_rows_3 : PS := (sCons (sRet (cVar 4)) sNil)
noncomputable def t_divide_rows_2 : PS := (sCons (sForR 5 (aCons (cBin oSub (cBin oSub (eCall fLen (aCons (cVar 0) aNil)) (cVar 3)) (cInt 1)) (aCons (eNeg (cInt 1)) (aCons (eNeg (cInt 1)) aNil))) t_divide_rows_2b_0) t_divide_rows_3)
noncomputable def t_divide_rows_1 : PS := (sCons (sAssign 4 (cBin oMul (eList (aCons (cInt 0) aNil)) (cBin oSub (eCall fLen (aCons (cVar 0) aNil)) (cVar 3)))) t_divide_rows_2)
noncomputable def ps_divide_rows : PS := (sCons (sAssign 3 (eCall fLen (aCons (cVar 1) aNil))) t_divide_rows_1)

theorem three_parts {R : List Int} {j n : Nat} (h : j + n ≤ R.length) : ∃ pre seg post, R = pre ++ seg ++ post ∧ pre.length = j ∧ seg.length = n := by
  refine ⟨R.take j, (R.drop j).take n, (R.drop j).drop n, ?_, by simp; lia, by simp; lia⟩
  rw [List.append_assoc, List.take_append_drop, List.take_append_drop]
theorem len3 {xs : List Int} (h : xs.length = 3) : ∃ a b c, xs = [a, b, c] := by
  match xs, h with
  | [a, b, c], _ => exact ⟨a, b, c, rfl⟩

theorem pu_divide_rows (args : List V) (H : Hp) (Q : V → Hp → Prop) (h : P_divide_rows args H Q) : args.length = 3 ∧ ps_divide_rows (fun i => args[i]?) H (retQ Q) := by
  obtain ⟨r, b, R, bs, w, m, rfl, hr, hb, hrb, hRl, hR1000, hn2, hw, hw9, dR, db, htop, hlt, hQ⟩ := h
  refine ⟨rfl, ?_⟩
  have hB := two_le hw
  have hB9 := le_512 hw9
  (repeat (first | dsimp only [sCons, sNil, sAssign, sSetIdx, sAug, sIf, sRet, sExpr, eCall, aNil, aCons, cInt, cBin, eNeg, eList, eIdx, eSlice, tCmp, pSome, oAdd_i, oSub_i, oMul_i, kEq_i, oAdd_r, oMul_r, fLen_r, vBool_b, vInt_i, vRef_r, LoopQ_next, LoopQ_ret, retQ_next, retQ_ret, cv0_3, cv0_4, cv0_5, cv0_6, cvl0, cv1_3, cv1_4, cv1_5, cv1_6, cvl1, cv2_3, cv2_4, cv2_5, cv2_6, cvl2, cv3, cv3_4, cv3_5, cv3_6, cvl3, cv4, cv4_3, cv4_5, cv4_6, cvl4, cv5, cv5_3, cv5_4, cv5_6, cv6, cv6_3, cv6_4, cv6_5, ps_divide_rows] | simp only [reduceIte, if_true, if_false, Bool.false_eq_true, reduceCtorEq] | with_reducible refine head_of t_divide_rows_2b_1i_1.eq_1 ?_ | with_reducible refine head_of t_divide_rows_2b_2.eq_1 ?_ | with_reducible refine head_of t_divide_rows_2b_1.eq_1 ?_ | with_reducible refine head_of t_divide_rows_2b_0.eq_1 ?_ | with_reducible refine head_of t_divide_rows_3.eq_1 ?_ | with_reducible refine head_of t_divide_rows_2.eq_1 ?_ | with_reducible refine head_of t_divide_rows_1.eq_1 ?_))
  refine len_iv hb (by (clear hrb hn2 hw hw9 htop hlt hQ hB hB9; lia)) ?_
  (repeat (first | dsimp only [sCons, sNil, sAssign, sSetIdx, sAug, sIf, sRet, sExpr, eCall, aNil, aCons, cInt, cBin, eNeg, eList, eIdx, eSlice, tCmp, pSome, oAdd_i, oSub_i, oMul_i, kEq_i, oAdd_r, oMul_r, fLen_r, vBool_b, vInt_i, vRef_r, LoopQ_next, LoopQ_ret, retQ_next, retQ_ret, cv0_3, cv0_4, cv0_5, cv0_6, cvl0, cv1_3, cv1_4, cv1_5, cv1_6, cvl1, cv2_3, cv2_4, cv2_5, cv2_6, cvl2, cv3, cv3_4, cv3_5, cv3_6, cvl3, cv4, cv4_3, cv4_5, cv4_6, cvl4, cv5, cv5_3, cv5_4, cv5_6, cv6, cv6_3, cv6_4, cv6_5] | simp only [reduceIte, if_true, if_false, Bool.false_eq_true, reduceCtorEq] | with_reducible refine head_of t_divide_rows_2b_1i_1.eq_1 ?_ | with_reducible refine head_of t_divide_rows_2b_2.eq_1 ?_ | with_reducible refine head_of t_divide_rows_2b_1.eq_1 ?_ | with_reducible refine head_of t_divide_rows_2b_0.eq_1 ?_ | with_reducible refine head_of t_divide_rows_3.eq_1 ?_ | with_reducible refine head_of t_divide_rows_2.eq_1 ?_ | with_reducible refine head_of t_divide_rows_1.eq_1 ?_))
  refine ⟨by simp, fun r0 h0 => ?_⟩
  have x0 : Ext H (updH H r0 (O.list [V.int 0])) := Ext.upd h0
  refine len_iv (x0 _ _ hr) (by (with_reducible exact c20 (by assumption))) ?_
  (repeat (first | dsimp only [sCons, sNil, sAssign, sSetIdx, sAug, sIf, sRet, sExpr, eCall, aNil, aCons, cInt, cBin, eNeg, eList, eIdx, eSlice, tCmp, pSome, oAdd_i, oSub_i, oMul_i, kEq_i, oAdd_r, oMul_r, fLen_r, vBool_b, vInt_i, vRef_r, LoopQ_next, LoopQ_ret, retQ_next, retQ_ret, cv0_3, cv0_4, cv0_5, cv0_6, cvl0, cv1_3, cv1_4, cv1_5, cv1_6, cvl1, cv2_3, cv2_4, cv2_5, cv2_6, cvl2, cv3, cv3_4, cv3_5, cv3_6, cvl3, cv4, cv4_3, cv4_5, cv4_6, cvl4, cv5, cv5_3, cv5_4, cv5_6, cv6, cv6_3, cv6_4, cv6_5] | simp only [reduceIte, if_true, if_false, Bool.false_eq_true, reduceCtorEq] | with_reducible refine head_of t_divide_rows_2b_1i_1.eq_1 ?_ | with_reducible refine head_of t_divide_rows_2b_2.eq_1 ?_ | with_reducible refine head_of t_divide_rows_2b_1.eq_1 ?_ | with_reducible refine head_of t_divide_rows_2b_0.eq_1 ?_ | with_reducible refine head_of t_divide_rows_3.eq_1 ?_ | with_reducible refine head_of t_divide_rows_2.eq_1 ?_ | with_reducible refine head_of t_divide_rows_1.eq_1 ?_))
  have em : (R.length : Int) - bs.length = m := by (clear hrb hR1000 hn2 hw hw9 htop hlt hQ hB hB9; lia)
  rw [em]
  refine ⟨.int 0, updH_same .., by (with_reducible exact Int.natCast_nonneg _), by (clear hrb hn2 hw hw9 htop hlt hQ hB hB9 em; lia), fun r1 h1 => ?_⟩
  have h1' : H r1 = none := x0.free h1
  have nr1 : r ≠ r1 := ne_fresh hr h1'
  rw [Int.toNat_natCast, iv_zeros]
  have x1 : Ext H (updH (updH H r0 (O.list [V.int 0])) r1 (O.list (iv (List.replicate m 0)))) := x0.trans (Ext.upd h1)
  (repeat (first | dsimp only [sCons, sNil, sAssign, sSetIdx, sAug, sIf, sRet, sExpr, eCall, aNil, aCons, cInt, cBin, eNeg, eList, eIdx, eSlice, tCmp, pSome, oAdd_i, oSub_i, oMul_i, kEq_i, oAdd_r, oMul_r, fLen_r, vBool_b, vInt_i, vRef_r, LoopQ_next, LoopQ_ret, retQ_next, retQ_ret, cv0_3, cv0_4, cv0_5, cv0_6, cvl0, cv1_3, cv1_4, cv1_5, cv1_6, cvl1, cv2_3, cv2_4, cv2_5, cv2_6, cvl2, cv3, cv3_4, cv3_5, cv3_6, cvl3, cv4, cv4_3, cv4_5, cv4_6, cvl4, cv5, cv5_3, cv5_4, cv5_6, cv6, cv6_3, cv6_4, cv6_5, sForR] | simp only [reduceIte, if_true, if_false, Bool.false_eq_true, reduceCtorEq] | with_reducible refine head_of t_divide_rows_2b_1i_1.eq_1 ?_ | with_reducible refine head_of t_divide_rows_2b_2.eq_1 ?_ | with_reducible refine head_of t_divide_rows_2b_1.eq_1 ?_ | with_reducible refine head_of t_divide_rows_2b_0.eq_1 ?_ | with_reducible refine head_of t_divide_rows_3.eq_1 ?_ | with_reducible refine head_of t_divide_rows_2.eq_1 ?_ | with_reducible refine head_of t_divide_rows_1.eq_1 ?_))
  refine len_iv (x1 _ _ hr) (by (with_reducible exact c20 (by assumption))) ?_
  (repeat (first | dsimp only [sCons, sNil, sAssign, sSetIdx, sAug, sIf, sRet, sExpr, eCall, aNil, aCons, cInt, cBin, eNeg, eList, eIdx, eSlice, tCmp, pSome, oAdd_i, oSub_i, oMul_i, kEq_i, oAdd_r, oMul_r, fLen_r, vBool_b, vInt_i, vRef_r, LoopQ_next, LoopQ_ret, retQ_next, retQ_ret, cv0_3, cv0_4, cv0_5, cv0_6, cvl0, cv1_3, cv1_4, cv1_5, cv1_6, cvl1, cv2_3, cv2_4, cv2_5, cv2_6, cvl2, cv3, cv3_4, cv3_5, cv3_6, cvl3, cv4, cv4_3, cv4_5, cv4_6, cvl4, cv5, cv5_3, cv5_4, cv5_6, cv6, cv6_3, cv6_4, cv6_5] | simp only [reduceIte, if_true, if_false, Bool.false_eq_true, reduceCtorEq, em] | with_reducible refine head_of t_divide_rows_2b_1i_1.eq_1 ?_ | with_reducible refine head_of t_divide_rows_2b_2.eq_1 ?_ | with_reducible refine head_of t_divide_rows_2b_1.eq_1 ?_ | with_reducible refine head_of t_divide_rows_2b_0.eq_1 ?_ | with_reducible refine head_of t_divide_rows_3.eq_1 ?_ | with_reducible refine head_of t_divide_rows_2.eq_1 ?_ | with_reducible refine head_of t_divide_rows_1.eq_1 ?_))
  refine ⟨_, _, _, rfl, ⟨by (clear hrb hRl hR1000 hn2 hw hw9 htop hlt hQ hB hB9 em nr1; lia), by (clear hrb hn2 hw hw9 htop hlt hQ hB hB9 em nr1; lia), by (clear hrb hRl hR1000 hn2 hw hw9 htop hlt hQ hB hB9 em nr1; lia), by (clear hrb hRl hR1000 hn2 hw hw9 htop hlt hQ hB hB9 em nr1; lia), .inr rfl⟩, ?_⟩
  rw [rng_down]
  have hDn := val_nonneg (show (0 : Int) < 2 ^ w by (with_reducible exact cpos)) db
  have hDlt := val_lt (show (0 : Int) < 2 ^ w by (with_reducible exact cpos)) db
  refine ⟨fun k m' H' => m' 0 = some (.ref r) ∧ m' 1 = some (.ref b) ∧ m' 2 = some (.int w) ∧ m' 3 = some (.int (bs.length : Nat)) ∧ m' 4 = some (.ref r1) ∧ ExtBut r H H' ∧ k ≤ m ∧ ∃ Rk qs, H' r = some (.list (iv Rk)) ∧
    Rk.length = R.length ∧ Dig (2 ^ w) Rk ∧ H' r1 = some (.list (iv (List.replicate (m - k) 0 ++ qs))) ∧ qs.length = k ∧ Dig (2 ^ w) qs ∧
    val (2 ^ w) R = val (2 ^ w) qs * val (2 ^ w) bs * (2 ^ w) ^ (m - k) + val (2 ^ w) Rk ∧ val (2 ^ w) Rk < val (2 ^ w) bs * (2 ^ w) ^ (m - k),
    ⟨rfl, rfl, rfl, rfl, rfl, x1.but, Nat.zero_le _, R, [], x1 _ _ hr, rfl, dR, by rw [updH_same]; simp, rfl, Dig.nil, by simp [val], by simpa using hlt⟩, ?_, ?_⟩
  · intro k m' H' hk hI
    refine loop_hide fun P hP => ?_
    obtain ⟨n0, n1, n2, n3, n4, xb, hkm, Rk, qs, hRk, hRkl, dRk, hq, hql, dq, hval, hRlt⟩ := hI
    have hb' : H' b = some (.list (iv bs)) := xb _ _ (Ne.symm hrb) hb
    have hat : (m : Int) - 1 + (k : Int) * -1 = ((m - 1 - k : Nat) : Int) := by (clear hrb hRl hR1000 hn2 hw hw9 htop hlt hQ hB hB9 em nr1 hDn hDlt hP hkm hRkl hql hval hRlt; omega)
    generalize hj : m - 1 - k = j at hat
    have hmk : m - k = j + 1 := by (clear hrb hRl hR1000 hn2 hw hw9 htop hlt hQ hB hB9 em nr1 hDn hDlt hk hP hkm hRkl hql hval hRlt hj; lia)
    have hmk1 : m - (k + 1) = j := by (clear hrb hRl hR1000 hn2 hw hw9 htop hlt hQ hB hB9 em nr1 hDn hDlt hk hP hkm hRkl hql hval hRlt hj hmk; omega)
    rw [hmk] at hq hval hRlt
    generalize hn : bs.length = n at *
    obtain ⟨pre, seg, post, rfl, hpl, hsl⟩ := three_parts (R := Rk) (j := j) (n := n + 1) (by (clear hrb hR1000 hw hw9 hlt hQ hB hB9 nr1 hDn hk hkm hql hRlt hval hj hmk hmk1 hn hn2 htop em hDlt hP; lia))
    have hvR : val (2 ^ w) (pre ++ seg ++ post) = val (2 ^ w) pre + (2 ^ w) ^ j * val (2 ^ w) seg + (2 ^ w) ^ (j + n + 1) * val (2 ^ w) post := by
      rw [val_append, val_append, List.length_append, hpl, hsl, Nat.add_assoc]
    have dpre := dRk.left.left
    have dseg := dRk.left.right
    have dpost := dRk.right
    have hBpos : (0 : Int) < 2 ^ w := by (with_reducible exact cpos)
    have hpre0 := val_nonneg hBpos dpre
    have hpre1 := val_lt hBpos dpre
    have hseg0 := val_nonneg hBpos dseg
    have hseg1 := val_lt hBpos dseg
    have hpost0 := val_nonneg hBpos dpost
    rw [hpl] at hpre1
    rw [hsl] at hseg1
    have hpj := pow_pos' hBpos j
    have hpostz : val (2 ^ w) post = 0 := by
      by_cases hz : val (2 ^ w) post = 0
      · exact hz
      · exfalso
        have a1 : (2 ^ w : Int) ^ (j + n + 1) * 1 ≤ (2 ^ w) ^ (j + n + 1) * val (2 ^ w) post := Int.mul_le_mul_of_nonneg_left (by (clear hrb hR1000 hw hw9 hlt hQ hB hB9 nr1 hDn hk hkm hql hj hat hmk hmk1 hn hRl hn2 htop em hDlt hP hRkl hRlt hval hpl hsl hvR hBpos hpre0 hpre1 hseg0 hseg1 hpj; lia)) (Int.le_of_lt (pow_pos' hBpos _))
        have a2 : val (2 ^ w) bs * (2 ^ w) ^ (j + 1) ≤ (2 ^ w) ^ n * (2 ^ w) ^ (j + 1) := Int.mul_le_mul_of_nonneg_right (Int.le_of_lt hDlt) (Int.le_of_lt (pow_pos' hBpos _))
        have a3 : (2 ^ w : Int) ^ n * (2 ^ w) ^ (j + 1) = (2 ^ w) ^ (j + n + 1) := by rw [← Int.pow_add]; congr 1; (clear hrb hR1000 hw hw9 hlt hQ hB hB9 nr1 hDn hk hkm hql hj hat hmk hmk1 hn hRl hn2 htop em hDlt hP hRkl hRlt hval hpl hsl hvR hBpos hpre0 hpre1 hseg0 hseg1 hpost0 hpj hz a1 a2; lia)
        have a4 := Int.mul_nonneg (Int.le_of_lt hpj) hseg0
        (clear hrb hR1000 hw hw9 hlt hQ hB hB9 nr1 hDn hk hkm hql hj hat hmk hmk1 hn hRl hn2 htop em hDlt hP hRkl hval hpl hsl hBpos hpre1 hseg0 hseg1 hpost0 hpj hz; omega)
    rw [hpostz, Int.mul_zero, Int.add_zero] at hvR
    have hsD : val (2 ^ w) seg < val (2 ^ w) bs * 2 ^ w := by
      have a1 : (2 ^ w) ^ j * val (2 ^ w) seg < (2 ^ w) ^ j * (val (2 ^ w) bs * 2 ^ w) := by
        have : val (2 ^ w) bs * (2 ^ w) ^ (j + 1) = (2 ^ w) ^ j * (val (2 ^ w) bs * 2 ^ w) := by rw [Int.pow_succ]; grind
        (clear hrb hR1000 hw hw9 hlt hQ hB hB9 nr1 hDn hk hkm hql hj hat hmk hmk1 hn hRl hn2 htop em hDlt hP hRkl hval hpl hsl hBpos hpre1 hseg0 hseg1 hpost0 hpj hpostz; lia)
      exact Int.lt_of_mul_lt_mul_left a1 (Int.le_of_lt hpj)
    obtain ⟨t0, t1, t2, htop3⟩ := len3 (xs := seg.drop (n - 2)) (by rw [List.length_drop]; (clear hrb hR1000 hw hw9 hlt hQ hB hB9 nr1 hDn hk hkm hql hj hat hmk hmk1 hn hRl htop em hDlt hP hRkl hRlt hval hpl hvR hBpos hpre0 hpre1 hseg0 hseg1 hpost0 hpj hpostz hsD; lia))
    have dt : Dig (2 ^ w) [t0, t1, t2] := htop3 ▸ dseg.drop (n - 2)
    have hsegv := val_td (B := 2 ^ w) (xs := seg) (n := n - 2) (by (clear hrb hR1000 hw hw9 hlt hQ hB hB9 nr1 hDn hk hkm hql hj hat hmk hmk1 hn hRl hn2 htop em hDlt hP hRkl hRlt hval hpl hvR hBpos hpre0 hpre1 hseg0 hseg1 hpost0 hpj hpostz hsD; omega))
    rw [htop3] at hsegv
    have hbv := val_td (B := 2 ^ w) (xs := bs) (n := n - 2) (by (clear hrb hR1000 hw hw9 hlt hQ hB hB9 nr1 hDn hk hkm hql hj hat hmk hmk1 hRl htop em hDlt hP hRkl hRlt hval hpl hsl hvR hBpos hpre0 hpre1 hseg0 hseg1 hpost0 hpj hpostz hsD hsegv; omega))
    rw [drop_cons (by (clear hrb hR1000 hw hw9 hlt hQ hB hB9 nr1 hDn hk hkm hql hj hat hmk hmk1 hRl htop em hDlt hP hRkl hRlt hval hpl hsl hvR hBpos hpre0 hpre1 hseg0 hseg1 hpost0 hpj hpostz hsD hsegv hbv; omega) : n - 2 < bs.length), drop_cons (by (clear hrb hR1000 hw hw9 hlt hQ hB hB9 nr1 hDn hk hkm hql hj hat hmk hmk1 hRl htop em hDlt hP hRkl hRlt hval hpl hsl hvR hBpos hpre0 hpre1 hseg0 hseg1 hpost0 hpj hpostz hsD hsegv hbv; lia) : n - 2 + 1 < bs.length), List.drop_eq_nil_of_le (by (clear hrb hR1000 hw hw9 hlt hQ hB hB9 nr1 hDn hk hkm hql hj hat hmk hmk1 hRl htop em hDlt hP hRkl hRlt hval hpl hsl hvR hBpos hpre0 hpre1 hseg0 hseg1 hpost0 hpj hpostz hsD hsegv hbv; lia)), show n - 2 + 1 = n - 1 by (clear hrb hR1000 hw hw9 hlt hQ hB hB9 nr1 hDn hk hkm hql hj hat hmk hmk1 hn hRl htop em hDlt hP hRkl hRlt hval hpl hsl hvR hBpos hpre0 hpre1 hseg0 hseg1 hpost0 hpj hpostz hsD hsegv hbv; lia)] at hbv
    have hs := db.get hBpos (n - 2)
    have hf := db.get hBpos (n - 1)
    subst hpl
    have hll : (pre ++ seg ++ post).length ≤ 1000 := by (clear hrb hw hw9 hlt hQ hB hB9 nr1 hDn hk hkm hql hn hRl hn2 htop em hDlt hP hsl hBpos hpre0 hseg0 hseg1 hpost0 hpostz hsD hsegv hbv hs hf hj hat hmk hmk1 hRlt hval hvR hpre1 hpj; lia)
    (repeat (first | dsimp only [sCons, sNil, sAssign, sSetIdx, sAug, sIf, sRet, sExpr, eCall, aNil, aCons, cInt, cBin, eNeg, eList, eIdx, eSlice, tCmp, pSome, oAdd_i, oSub_i, oMul_i, kEq_i, oAdd_r, oMul_r, fLen_r, vBool_b, vInt_i, vRef_r, LoopQ_next, LoopQ_ret, retQ_next, retQ_ret, cv0_3, cv0_4, cv0_5, cv0_6, cvl0, cv1_3, cv1_4, cv1_5, cv1_6, cvl1, cv2_3, cv2_4, cv2_5, cv2_6, cvl2, cv3, cv3_4, cv3_5, cv3_6, cvl3, cv4, cv4_3, cv4_5, cv4_6, cvl4, cv5, cv5_3, cv5_4, cv5_6, cv6, cv6_3, cv6_4, cv6_5] | simp only [reduceIte, if_true, if_false, Bool.false_eq_true, reduceCtorEq, cVar_at n0, cVar_at n1, cVar_at n2, cVar_at n3, cVar_at n4, hat] | with_reducible refine head_of t_divide_rows_2b_1i_1.eq_1 ?_ | with_reducible refine head_of t_divide_rows_2b_2.eq_1 ?_ | with_reducible refine head_of t_divide_rows_2b_1.eq_1 ?_ | with_reducible refine head_of t_divide_rows_2b_0.eq_1 ?_ | with_reducible refine head_of t_divide_rows_3.eq_1 ?_ | with_reducible refine head_of t_divide_rows_2.eq_1 ?_ | with_reducible refine head_of t_divide_rows_1.eq_1 ?_))
    refine ⟨by (clear hrb hR1000 hw hw9 hlt hQ hB hB9 nr1 hDn hk hkm hql hn hRl htop em hDlt hP hRkl hsl hBpos hpre0 hseg0 hseg1 hpost0 hpostz hsD hsegv hbv hs hf hj hat hmk hmk1 hRlt hval hvR hpre1 hpj hll; lia), by (clear hrb hR1000 hw hw9 hlt hQ hB hB9 nr1 hDn hk hkm hql hn hRl hn2 htop em hDlt hP hRkl hsl hBpos hpre0 hseg0 hseg1 hpost0 hpostz hsD hsegv hbv hs hf hj hat hmk hmk1 hRlt hval hvR hpre1 hpj hll; lia), ?_⟩
    rw [show ((pre.length : Int) + n - 2).toNat = pre.length + (n - 2) by (clear hrb hR1000 hw hw9 hlt hQ hB hB9 nr1 hDn hk hkm hql hn hRl htop em hDlt hP hRkl hsl hBpos hpre0 hseg0 hseg1 hpost0 hpostz hsD hsegv hbv hs hf hj hat hmk hmk1 hRlt hval hvR hpre1 hpj hll; omega), show ((pre.length : Int) + n + 1).toNat = pre.length + (n + 1) by (clear hrb hR1000 hw hw9 hlt hQ hB hB9 nr1 hDn hk hkm hql hn hRl hn2 htop em hDlt hP hRkl hBpos hpre0 hseg0 hseg1 hpost0 hpostz hsD hsegv hbv hs hf hj hat hmk1 hRlt hval hvR hpre1 hpj hll; lia)]
    refine cut_mid hRk (by (with_reducible exact c20 (by assumption))) (by (clear hrb hR1000 hw hw9 hlt hQ hB hB9 nr1 hDn hk hkm hql hn hRl hn2 htop em hDlt hP hRkl hsl hBpos hpre0 hseg0 hseg1 hpost0 hpostz hsD hsegv hbv hs hf hj hat hmk hmk1 hRlt hval hvR hpre1 hpj hll; omega)) (by (clear hrb hR1000 hw hw9 hlt hQ hB hB9 nr1 hDn hk hkm hql hn hn2 htop em hDlt hP hsl hBpos hpre0 hseg0 hseg1 hpost0 hpostz hsD hsegv hbv hs hf hj hmk hmk1 hRlt hval hvR hpre1 hpj hll; lia)) fun t ht => ?_
    have ecut : List.take (pre.length + (n + 1) - (pre.length + (n - 2))) (List.drop (pre.length + (n - 2)) (pre ++ seg ++ post)) = [t0, t1, t2] := by
      rw [List.append_assoc, ← List.drop_drop, List.drop_left, List.drop_append_of_le_length (by (clear hrb hR1000 hw hw9 hlt hQ hB hB9 nr1 hDn hk hkm hql hn hRl hn2 htop em hDlt hP hRkl hBpos hpre0 hseg0 hseg1 hpost0 hpostz hsD hsegv hbv hs hf hj hat hmk hmk1 hRlt hval hvR hpre1 hpj hll; omega)), htop3, show pre.length + (n + 1) - (pre.length + (n - 2)) = 3 by (clear hrb hR1000 hw hw9 hlt hQ hB hB9 nr1 hDn hk hkm hql hn hRl htop em hDlt hP hRkl hsl hBpos hpre0 hseg0 hseg1 hpost0 hpostz hsD hsegv hbv hs hf hj hat hmk hmk1 hRlt hval hvR hpre1 hpj hll hr hb dR db h0 x0 h1 h1' x1 n0 n1 n2 n4 xb dq hb' n3 hRk dRk dpre dseg dpost htop3 dt hq ht; lia)]
      rfl
    rw [ecut]
    have x3 : Ext H' (updH H' t (O.list (iv [t0, t1, t2]))) := Ext.upd ht
    refine idx_iv (x3 _ _ hb') (by (clear hrb hR1000 hw hw9 hlt hQ hB hB9 nr1 hDn hk hkm hql hn hRl htop em hDlt hP hRkl hsl hBpos hpre0 hseg0 hseg1 hpost0 hpostz hsD hsegv hbv hs hf hj hat hmk hmk1 hRlt hval hvR hpre1 hpj hll; lia)) (by (clear hrb hR1000 hw hw9 hlt hQ hB hB9 nr1 hDn hk hkm hql hRl hn2 htop em hDlt hP hRkl hsl hBpos hpre0 hseg0 hseg1 hpost0 hpostz hsD hsegv hbv hs hf hj hat hmk hmk1 hRlt hval hvR hpre1 hpj hll; lia)) (by (clear hrb hw hw9 hlt hQ hB hB9 nr1 hDn hkm hql hn2 htop em hDlt hP hsl hBpos hpre0 hseg0 hseg1 hpost0 hpostz hsD hsegv hbv hs hf hj hmk hmk1 hRlt hval hvR hpre1 hpj hll hr hb dR db h0 x0 h1 h1' x1 hk n0 n1 n2 n4 xb dq hb' n3 hRk hRkl dRk dpre dseg dpost htop3 dt hq hat ht ecut x3; lia)) ?_
    (repeat (first | dsimp only [sCons, sNil, sAssign, sSetIdx, sAug, sIf, sRet, sExpr, eCall, aNil, aCons, cInt, cBin, eNeg, eList, eIdx, eSlice, tCmp, pSome, oAdd_i, oSub_i, oMul_i, kEq_i, oAdd_r, oMul_r, fLen_r, vBool_b, vInt_i, vRef_r, LoopQ_next, LoopQ_ret, retQ_next, retQ_ret, cv0_3, cv0_4, cv0_5, cv0_6, cvl0, cv1_3, cv1_4, cv1_5, cv1_6, cvl1, cv2_3, cv2_4, cv2_5, cv2_6, cvl2, cv3, cv3_4, cv3_5, cv3_6, cvl3, cv4, cv4_3, cv4_5, cv4_6, cvl4, cv5, cv5_3, cv5_4, cv5_6, cv6, cv6_3, cv6_4, cv6_5] | simp only [reduceIte, if_true, if_false, Bool.false_eq_true, reduceCtorEq, cVar_at n0, cVar_at n1, cVar_at n2, cVar_at n3, cVar_at n4, hat] | with_reducible refine head_of t_divide_rows_2b_1i_1.eq_1 ?_ | with_reducible refine head_of t_divide_rows_2b_2.eq_1 ?_ | with_reducible refine head_of t_divide_rows_2b_1.eq_1 ?_ | with_reducible refine head_of t_divide_rows_2b_0.eq_1 ?_ | with_reducible refine head_of t_divide_rows_3.eq_1 ?_ | with_reducible refine head_of t_divide_rows_2.eq_1 ?_ | with_reducible refine head_of t_divide_rows_1.eq_1 ?_))
    refine idx_iv (x3 _ _ hb') (by (clear hrb hR1000 hw hw9 hlt hQ hB hB9 nr1 hDn hk hkm hql hn hRl htop em hDlt hP hRkl hsl hBpos hpre0 hseg0 hseg1 hpost0 hpostz hsD hsegv hbv hs hf hj hat hmk hmk1 hRlt hval hvR hpre1 hpj hll; lia)) (by (clear hrb hR1000 hw hw9 hlt hQ hB hB9 nr1 hDn hk hkm hql hRl hn2 htop em hDlt hP hRkl hsl hBpos hpre0 hseg0 hseg1 hpost0 hpostz hsD hsegv hbv hs hf hj hat hmk hmk1 hRlt hval hvR hpre1 hpj hll; lia)) (by lia) ?_
    (repeat (first | dsimp only [sCons, sNil, sAssign, sSetIdx, sAug, sIf, sRet, sExpr, eCall, aNil, aCons, cInt, cBin, eNeg, eList, eIdx, eSlice, tCmp, pSome, oAdd_i, oSub_i, oMul_i, kEq_i, oAdd_r, oMul_r, fLen_r, vBool_b, vInt_i, vRef_r, LoopQ_next, LoopQ_ret, retQ_next, retQ_ret, cv0_3, cv0_4, cv0_5, cv0_6, cvl0, cv1_3, cv1_4, cv1_5, cv1_6, cvl1, cv2_3, cv2_4, cv2_5, cv2_6, cvl2, cv3, cv3_4, cv3_5, cv3_6, cvl3, cv4, cv4_3, cv4_5, cv4_6, cvl4, cv5, cv5_3, cv5_4, cv5_6, cv6, cv6_3, cv6_4, cv6_5] | simp only [reduceIte, if_true, if_false, Bool.false_eq_true, reduceCtorEq, cVar_at n0, cVar_at n1, cVar_at n2, cVar_at n3, cVar_at n4, hat] | with_reducible refine head_of t_divide_rows_2b_1i_1.eq_1 ?_ | with_reducible refine head_of t_divide_rows_2b_2.eq_1 ?_ | with_reducible refine head_of t_divide_rows_2b_1.eq_1 ?_ | with_reducible refine head_of t_divide_rows_2b_0.eq_1 ?_ | with_reducible refine head_of t_divide_rows_3.eq_1 ?_ | with_reducible refine head_of t_divide_rows_2.eq_1 ?_ | with_reducible refine head_of t_divide_rows_1.eq_1 ?_))
    rw [show ((n : Int) - 1).toNat = n - 1 by (clear hrb hR1000 hw hw9 hlt hQ hB hB9 nr1 hDn hk hkm hql hn hRl hn2 htop em hDlt hP hRkl hsl hBpos hpre0 hseg0 hseg1 hpost0 hpostz hsD hsegv hbv hs hf hj hat hmk hmk1 hRlt hval hvR hpre1 hpj hll; lia), show ((n : Int) - 2).toNat = n - 2 by (clear hrb hR1000 hw hw9 hlt hQ hB hB9 nr1 hDn hk hkm hql hn hRl hn2 htop em hDlt hP hRkl hsl hBpos hpre0 hseg0 hseg1 hpost0 hpostz hsD hsegv hbv hs hf hj hat hmk hmk1 hRlt hval hvR hpre1 hpj hll; lia)]
    generalize hfe : bs.getD (n - 1) 0 = f at *
    generalize hse : bs.getD (n - 2) 0 = s at *
    refine ⟨t, t0, t1, t2, f, s, w, rfl, updH_same .., hw, hw9, dt, htop, hf.2, hs.1, hs.2, fun g hg0 hg1 hgle hgor => ?_⟩
    (repeat (first | dsimp only [sCons, sNil, sAssign, sSetIdx, sAug, sIf, sRet, sExpr, eCall, aNil, aCons, cInt, cBin, eNeg, eList, eIdx, eSlice, tCmp, pSome, oAdd_i, oSub_i, oMul_i, kEq_i, oAdd_r, oMul_r, fLen_r, vBool_b, vInt_i, vRef_r, LoopQ_next, LoopQ_ret, retQ_next, retQ_ret, cv0_3, cv0_4, cv0_5, cv0_6, cvl0, cv1_3, cv1_4, cv1_5, cv1_6, cvl1, cv2_3, cv2_4, cv2_5, cv2_6, cvl2, cv3, cv3_4, cv3_5, cv3_6, cvl3, cv4, cv4_3, cv4_5, cv4_6, cvl4, cv5, cv5_3, cv5_4, cv5_6, cv6, cv6_3, cv6_4, cv6_5] | simp only [reduceIte, if_true, if_false, Bool.false_eq_true, reduceCtorEq, cVar_at n0, cVar_at n1, cVar_at n2, cVar_at n3, cVar_at n4, hat] | with_reducible refine head_of t_divide_rows_2b_1i_1.eq_1 ?_ | with_reducible refine head_of t_divide_rows_2b_2.eq_1 ?_ | with_reducible refine head_of t_divide_rows_2b_1.eq_1 ?_ | with_reducible refine head_of t_divide_rows_2b_0.eq_1 ?_ | with_reducible refine head_of t_divide_rows_3.eq_1 ?_ | with_reducible refine head_of t_divide_rows_2.eq_1 ?_ | with_reducible refine head_of t_divide_rows_1.eq_1 ?_))
    have hlow0 := val_nonneg hBpos (dseg.take (n - 2))
    have hlow1 := val_lt hBpos (dseg.take (n - 2))
    have hld0 := val_nonneg hBpos (db.take (n - 2))
    have hld1 := val_lt hBpos (db.take (n - 2))
    rw [List.length_take, Nat.min_eq_left (by omega)] at hlow1 hld1
    obtain ⟨gA, gB⟩ := guess_ok (B := 2 ^ w) (f := f) (s := s) (D := val (2 ^ w) bs) (P := (2 ^ w) ^ (n - 2)) (lowD := val (2 ^ w) (bs.take (n - 2))) (N3 := (t2 * 2 ^ w + t1) * 2 ^ w + t0) (low := val (2 ^ w) (seg.take (n - 2)))
      (seg := val (2 ^ w) seg) (g := g) hB htop hs.1 (pow_pos' hBpos _) (by rw [hbv]; simp only [val]; grind) hld0 hld1 (by rw [hsegv]; simp only [val]; grind) hlow0 hlow1 hg0 hg1 hgle hgor hseg0 hsD
    refine ⟨r, b, pre, seg, post, bs, g, w, rfl, by (clear hrb hR1000 hw hw9 hlt hQ hB hB9 nr1 hDn hk hkm hql hRl hn2 em hDlt hP hRkl hBpos hpre0 hseg0 hseg1 hpost0 hpostz hsD hsegv hj hat hmk hmk1 hRlt hval hvR hpre1 hpj hll hfe htop hf hse hs hbv hg0 hg1 hgle hgor hlow0 hlow1 hld0 hld1 gA gB; lia), x3 _ _ hRk, x3 _ _ hb', hrb, hll, hw, hw9, dseg, db, hg0, by (clear hrb hR1000 hw hw9 hlt hQ hB hB9 nr1 hDn hk hkm hql hn hRl hn2 em hDlt hP hRkl hsl hBpos hpre0 hseg0 hseg1 hpost0 hpostz hsD hsegv hj hat hmk hmk1 hRlt hval hvR hpre1 hpj hll hfe htop hf hse hs hbv hg0 hgle hgor hlow0 hlow1 hld0 hld1 gA gB; lia), fun S lack hSl dS hlack hSv => ?_⟩
    (repeat (first | dsimp only [sCons, sNil, sAssign, sSetIdx, sAug, sIf, sRet, sExpr, eCall, aNil, aCons, cInt, cBin, eNeg, eList, eIdx, eSlice, tCmp, pSome, oAdd_i, oSub_i, oMul_i, kEq_i, oAdd_r, oMul_r, fLen_r, vBool_b, vInt_i, vRef_r, LoopQ_next, LoopQ_ret, retQ_next, retQ_ret, cv0_3, cv0_4, cv0_5, cv0_6, cvl0, cv1_3, cv1_4, cv1_5, cv1_6, cvl1, cv2_3, cv2_4, cv2_5, cv2_6, cvl2, cv3, cv3_4, cv3_5, cv3_6, cvl3, cv4, cv4_3, cv4_5, cv4_6, cvl4, cv5, cv5_3, cv5_4, cv5_6, cv6, cv6_3, cv6_4, cv6_5] | simp only [reduceIte, if_true, if_false, Bool.false_eq_true, reduceCtorEq, cVar_at n0, cVar_at n1, cVar_at n2, cVar_at n3, cVar_at n4, hat] | with_reducible refine head_of t_divide_rows_2b_1i_1.eq_1 ?_ | with_reducible refine head_of t_divide_rows_2b_2.eq_1 ?_ | with_reducible refine head_of t_divide_rows_2b_1.eq_1 ?_ | with_reducible refine head_of t_divide_rows_2b_0.eq_1 ?_ | with_reducible refine head_of t_divide_rows_3.eq_1 ?_ | with_reducible refine head_of t_divide_rows_2.eq_1 ?_ | with_reducible refine head_of t_divide_rows_1.eq_1 ?_))
    rw [hn] at hSl hSv
    have hS0 := val_nonneg hBpos dS
    have hS1 := val_lt hBpos dS
    rw [hSl] at hS1
    have hrt : r ≠ t := ne_fresh hRk ht
    have hbt : b ≠ t := ne_fresh hb' ht
    have hr1t : r1 ≠ t := ne_fresh hq ht
    have hxH : ∀ {o : O}, ExtBut r H (updH (updH H' t (O.list (iv [t0, t1, t2]))) r o) := fun {o} => (xb.trans (x3.but)).trans .upd
    have hd1 : (g - 1) * val (2 ^ w) bs = g * val (2 ^ w) bs - val (2 ^ w) bs := by grind
    have hd2 : (g + 1) * val (2 ^ w) bs = g * val (2 ^ w) bs + val (2 ^ w) bs := by grind
    have fin : ∀ (q : Int) (S' : List Int), S'.length = n + 1 → Dig (2 ^ w) S' → 0 ≤ q → q < 2 ^ w → val (2 ^ w) S' = val (2 ^ w) seg - q * val (2 ^ w) bs → val (2 ^ w) S' < val (2 ^ w) bs →
        (pre ++ S' ++ post).length = R.length ∧ Dig (2 ^ w) (pre ++ S' ++ post) ∧ Dig (2 ^ w) (q :: qs) ∧
        val (2 ^ w) R = val (2 ^ w) (q :: qs) * val (2 ^ w) bs * (2 ^ w) ^ pre.length + val (2 ^ w) (pre ++ S' ++ post) ∧ val (2 ^ w) (pre ++ S' ++ post) < val (2 ^ w) bs * (2 ^ w) ^ pre.length := by
      intro q S' hl' d' q0 q1 hv' hlt'
      have hv2 : val (2 ^ w) (pre ++ S' ++ post) = val (2 ^ w) pre + (2 ^ w) ^ pre.length * val (2 ^ w) S' := by
        rw [val_append, val_append, hpostz]; simp
      refine ⟨?_, (dpre.append d').append dpost, Dig.cons q0 q1 dq, ?_, ?_⟩
      · simp only [List.length_append] at hRkl ⊢; (clear hrb hR1000 hw hw9 hlt hQ hB hB9 nr1 hDn hk hkm hn hRl hn2 em hDlt hP hBpos hpre0 hseg0 hseg1 hpost0 hpostz hsD hsegv hj hat hmk hmk1 hRlt hval hvR hpre1 hpj hll hfe htop hf hse hs hbv hg0 hg1 hgle hgor hlow0 hlow1 hld0 hld1 gA gB hSl hlack hSv hS0 hS1 hrt hbt hr1t hxH hd1 hd2 q0 q1 hv' hlt' hv2; lia)
      · rw [hv2, hv', hval, hvR, val, Int.pow_succ]; grind
      · rw [hv2]
        have a1 : (2 ^ w) ^ pre.length * (val (2 ^ w) S' + 1) ≤ (2 ^ w) ^ pre.length * val (2 ^ w) bs := Int.mul_le_mul_of_nonneg_left (by (clear hrb hR1000 hw hw9 hlt hQ hB hB9 nr1 hDn hk hkm hql hn hRl hn2 em hDlt hP hRkl hsl hBpos hpre0 hseg0 hseg1 hpost0 hpostz hsD hsegv hj hat hmk hmk1 hRlt hval hvR hpre1 hpj hll hfe htop hf hse hs hbv hg0 hg1 hgle hgor hlow0 hlow1 hld0 hld1 gA gB hSl hlack hSv hS0 hS1 hrt hbt hr1t hxH hd1 hd2 hl' q0 q1 hv' hv2; lia)) (Int.le_of_lt hpj)
        rw [Int.mul_add, Int.mul_one, Int.mul_comm _ (val (2 ^ w) bs)] at a1
        (clear hrb hR1000 hw hw9 hlt hQ hB hB9 nr1 hDn hk hkm hql hn hRl hn2 em hDlt hP hRkl hsl hBpos hpre0 hseg0 hseg1 hpost0 hpostz hsD hsegv hj hat hmk hmk1 hRlt hval hvR hpj hll hfe htop hf hse hs hbv hg0 hg1 hgle hgor hlow0 hlow1 hld0 hld1 gA gB hSl hlack hSv hS0 hS1 hrt hbt hr1t hxH hd1 hd2 hl' q0 q1 hv' hlt' hv2; lia)
    have hq' : ∀ {o : O}, updH (updH H' t (O.list (iv [t0, t1, t2]))) r o r1 = some (.list (iv (List.replicate (pre.length + 1) 0 ++ qs))) := fun {o} => by
      rw [updH_ne _ _ (Ne.symm nr1), updH_ne _ _ hr1t]; exact hq
    have hqn : (List.replicate (pre.length + 1) 0 ++ qs : List Int).length ≤ 1000 := by
      simp only [List.length_append, List.length_replicate] at hRkl ⊢; (clear hrb hw hw9 hlt hQ hB hB9 nr1 hDn hk hkm hn hn2 em hDlt hP hsl hBpos hpre0 hseg0 hseg1 hpost0 hpostz hsD hsegv hj hmk hmk1 hRlt hval hvR hpre1 hpj hll hfe htop hf hse hs hbv hg0 hg1 hgle hgor hlow0 hlow1 hld0 hld1 gA gB hSl hlack hSv hS0 hS1 hrt hbt hr1t hxH hd1 hd2 fin hq' hRkl; lia)
    rcases hlack with rfl | rfl
    · rw [decide_eq_false (show ¬ ((0 : Int) = 1) by decide)]
      (repeat (first | dsimp only [sCons, sNil, sAssign, sSetIdx, sAug, sIf, sRet, sExpr, eCall, aNil, aCons, cInt, cBin, eNeg, eList, eIdx, eSlice, tCmp, pSome, oAdd_i, oSub_i, oMul_i, kEq_i, oAdd_r, oMul_r, fLen_r, vBool_b, vInt_i, vRef_r, LoopQ_next, LoopQ_ret, retQ_next, retQ_ret, cv0_3, cv0_4, cv0_5, cv0_6, cvl0, cv1_3, cv1_4, cv1_5, cv1_6, cvl1, cv2_3, cv2_4, cv2_5, cv2_6, cvl2, cv3, cv3_4, cv3_5, cv3_6, cvl3, cv4, cv4_3, cv4_5, cv4_6, cvl4, cv5, cv5_3, cv5_4, cv5_6, cv6, cv6_3, cv6_4, cv6_5] | simp only [reduceIte, if_true, if_false, Bool.false_eq_true, reduceCtorEq, cVar_at n0, cVar_at n1, cVar_at n2, cVar_at n3, cVar_at n4, hat] | with_reducible refine head_of t_divide_rows_2b_1i_1.eq_1 ?_ | with_reducible refine head_of t_divide_rows_2b_2.eq_1 ?_ | with_reducible refine head_of t_divide_rows_2b_1.eq_1 ?_ | with_reducible refine head_of t_divide_rows_2b_0.eq_1 ?_ | with_reducible refine head_of t_divide_rows_3.eq_1 ?_ | with_reducible refine head_of t_divide_rows_2.eq_1 ?_ | with_reducible refine head_of t_divide_rows_1.eq_1 ?_))
      refine set_iv hq' (by (with_reducible exact Int.natCast_nonneg _)) (by simp only [List.length_append, List.length_replicate]; (clear hrb hR1000 hw hw9 hlt hQ hB hB9 nr1 hDn hk hkm hql hn hn2 em hDlt hP hRkl hsl hBpos hpre0 hseg0 hseg1 hpost0 hpostz hsD hsegv hj hat hmk hmk1 hRlt hval hvR hpre1 hpj hll hfe htop hf hse hs hbv hg0 hg1 hgle hgor hlow0 hlow1 hld0 hld1 gA gB hSl hS0 hS1 hrt hbt hr1t hxH hd1 hd2 fin hq' hqn hSv; lia)) (by (with_reducible exact c20 (by assumption))) ?_
      (repeat (first | dsimp only [sCons, sNil, sAssign, sSetIdx, sAug, sIf, sRet, sExpr, eCall, aNil, aCons, cInt, cBin, eNeg, eList, eIdx, eSlice, tCmp, pSome, oAdd_i, oSub_i, oMul_i, kEq_i, oAdd_r, oMul_r, fLen_r, vBool_b, vInt_i, vRef_r, LoopQ_next, LoopQ_ret, retQ_next, retQ_ret, cv0_3, cv0_4, cv0_5, cv0_6, cvl0, cv1_3, cv1_4, cv1_5, cv1_6, cvl1, cv2_3, cv2_4, cv2_5, cv2_6, cvl2, cv3, cv3_4, cv3_5, cv3_6, cvl3, cv4, cv4_3, cv4_5, cv4_6, cvl4, cv5, cv5_3, cv5_4, cv5_6, cv6, cv6_3, cv6_4, cv6_5] | simp only [reduceIte, if_true, if_false, Bool.false_eq_true, reduceCtorEq, Int.toNat_natCast, set_zeros, cVar_at n0, cVar_at n1, cVar_at n2, cVar_at n3, cVar_at n4] | with_reducible refine head_of t_divide_rows_2b_1i_1.eq_1 ?_ | with_reducible refine head_of t_divide_rows_2b_2.eq_1 ?_ | with_reducible refine head_of t_divide_rows_2b_1.eq_1 ?_ | with_reducible refine head_of t_divide_rows_2b_0.eq_1 ?_ | with_reducible refine head_of t_divide_rows_3.eq_1 ?_ | with_reducible refine head_of t_divide_rows_2.eq_1 ?_ | with_reducible refine head_of t_divide_rows_1.eq_1 ?_))
      have hv' : val (2 ^ w) S = val (2 ^ w) seg - g * val (2 ^ w) bs := by rw [hSv]; simp
      obtain ⟨f1, f2, f3, f4, f5⟩ := fin g S hSl dS hg0 (by (clear hrb hR1000 hw hw9 hlt hQ hB hB9 nr1 hDn hk hkm hql hn hRl hn2 em hDlt hP hRkl hsl hBpos hpre0 hseg0 hseg1 hpost0 hpostz hsD hsegv hj hat hmk hmk1 hRlt hval hvR hpre1 hpj hll hfe htop hf hse hs hbv hg0 hgle hgor hlow0 hlow1 hld0 hld1 gA gB hSl hS0 hS1 hrt hbt hr1t hxH hd1 hd2 fin hq' hqn hSv hv'; omega)) hv' (by (clear hrb hR1000 hw hw9 hlt hQ hB hB9 nr1 hDn hk hkm hql hn hRl hn2 em hDlt hP hRkl hsl hBpos hpre0 hseg0 hseg1 hpost0 hpostz hsD hsegv hj hat hmk hmk1 hRlt hval hvR hpre1 hpj hll hfe htop hf hse hs hbv hg0 hg1 hgle hgor hlow0 hlow1 hld0 hld1 gB hSl hS0 hS1 hrt hbt hr1t hxH hd1 fin hq' hqn hv'; lia))
      refine hP _ _ ⟨n0, n1, n2, n3, n4, hxH.over h1', by (clear hrb hR1000 hw hw9 hlt hQ hB hB9 nr1 hDn hk hkm hql hn hRl hn2 em hDlt hP hRkl hsl hBpos hpre0 hseg0 hseg1 hpost0 hpostz hsD hsegv hj hmk hmk1 hRlt hval hvR hpre1 hpj hll hfe htop hf hse hs hbv hg0 hg1 hgle hgor hlow0 hlow1 hld0 hld1 gA gB hSl hS0 hS1 hrt hbt hr1t hxH hd1 hd2 fin hq' hqn hSv hv' f1 f4 f5 hr hb dR db h0 x0 h1 h1' x1 n0 n1 n2 n4 xb dq hb' n3 hRk dRk dpre dseg dpost htop3 dt hq ht ecut x3 dS f2 f3; lia), pre ++ S ++ post, g :: qs, ?_, f1, f2, ?_, by rw [List.length_cons, hql], f3, ?_, ?_⟩
      · rw [updH_ne _ _ nr1, updH_same]
      · rw [updH_same, hmk1]
      · rw [hmk1]; exact f4
      · rw [hmk1]; exact f5
    · rw [decide_eq_true (show ((1 : Int) = 1) by rfl)]
      (repeat (first | dsimp only [sCons, sNil, sAssign, sSetIdx, sAug, sIf, sRet, sExpr, eCall, aNil, aCons, cInt, cBin, eNeg, eList, eIdx, eSlice, tCmp, pSome, oAdd_i, oSub_i, oMul_i, kEq_i, oAdd_r, oMul_r, fLen_r, vBool_b, vInt_i, vRef_r, LoopQ_next, LoopQ_ret, retQ_next, retQ_ret, cv0_3, cv0_4, cv0_5, cv0_6, cvl0, cv1_3, cv1_4, cv1_5, cv1_6, cvl1, cv2_3, cv2_4, cv2_5, cv2_6, cvl2, cv3, cv3_4, cv3_5, cv3_6, cvl3, cv4, cv4_3, cv4_5, cv4_6, cvl4, cv5, cv5_3, cv5_4, cv5_6, cv6, cv6_3, cv6_4, cv6_5] | simp only [reduceIte, if_true, if_false, Bool.false_eq_true, reduceCtorEq, cVar_at n0, cVar_at n1, cVar_at n2, cVar_at n3, cVar_at n4, hat] | with_reducible refine head_of t_divide_rows_2b_1i_1.eq_1 ?_ | with_reducible refine head_of t_divide_rows_2b_2.eq_1 ?_ | with_reducible refine head_of t_divide_rows_2b_1.eq_1 ?_ | with_reducible refine head_of t_divide_rows_2b_0.eq_1 ?_ | with_reducible refine head_of t_divide_rows_3.eq_1 ?_ | with_reducible refine head_of t_divide_rows_2.eq_1 ?_ | with_reducible refine head_of t_divide_rows_1.eq_1 ?_))
      refine ⟨r, b, pre, S, post, bs, w, rfl, by (clear hrb hR1000 hw hw9 hlt hQ hB hB9 nr1 hDn hk hkm hql hRl hn2 em hDlt hP hRkl hsl hBpos hpre0 hseg0 hseg1 hpost0 hpostz hsD hsegv hj hat hmk hmk1 hRlt hval hvR hpre1 hpj hll hfe htop hf hse hs hbv hg0 hg1 hgle hgor hlow0 hlow1 hld0 hld1 gA gB hS0 hS1 hrt hbt hr1t hxH hd1 hd2 fin hq' hqn hSv; omega), updH_same .., ?_, hrb, ?_, hw, hw9, dS, db, fun S' over hSl' dS' hover hSv' => ?_⟩
      · rw [updH_ne _ _ (Ne.symm hrb)]; exact x3 _ _ hb'
      · simp only [List.length_append] at hll ⊢; (clear hrb hR1000 hw hw9 hlt hQ hB hB9 nr1 hDn hk hkm hql hn hRl hn2 em hDlt hP hRkl hBpos hpre0 hseg0 hseg1 hpost0 hpostz hsD hsegv hj hat hmk hmk1 hRlt hval hvR hpre1 hpj hfe htop hf hse hs hbv hg0 hg1 hgle hgor hlow0 hlow1 hld0 hld1 gA gB hS0 hS1 hrt hbt hr1t hxH hd1 hd2 fin hq' hqn hSv; lia)
      rw [hn] at hSl' hSv'
      rw [updH_updH]
      (repeat (first | dsimp only [sCons, sNil, sAssign, sSetIdx, sAug, sIf, sRet, sExpr, eCall, aNil, aCons, cInt, cBin, eNeg, eList, eIdx, eSlice, tCmp, pSome, oAdd_i, oSub_i, oMul_i, kEq_i, oAdd_r, oMul_r, fLen_r, vBool_b, vInt_i, vRef_r, LoopQ_next, LoopQ_ret, retQ_next, retQ_ret, cv0_3, cv0_4, cv0_5, cv0_6, cvl0, cv1_3, cv1_4, cv1_5, cv1_6, cvl1, cv2_3, cv2_4, cv2_5, cv2_6, cvl2, cv3, cv3_4, cv3_5, cv3_6, cvl3, cv4, cv4_3, cv4_5, cv4_6, cvl4, cv5, cv5_3, cv5_4, cv5_6, cv6, cv6_3, cv6_4, cv6_5] | simp only [reduceIte, if_true, if_false, Bool.false_eq_true, reduceCtorEq, cVar_at n0, cVar_at n1, cVar_at n2, cVar_at n3, cVar_at n4, hat] | with_reducible refine head_of t_divide_rows_2b_1i_1.eq_1 ?_ | with_reducible refine head_of t_divide_rows_2b_2.eq_1 ?_ | with_reducible refine head_of t_divide_rows_2b_1.eq_1 ?_ | with_reducible refine head_of t_divide_rows_2b_0.eq_1 ?_ | with_reducible refine head_of t_divide_rows_3.eq_1 ?_ | with_reducible refine head_of t_divide_rows_2.eq_1 ?_ | with_reducible refine head_of t_divide_rows_1.eq_1 ?_))
      have hS0' := val_nonneg hBpos dS'
      have hS1' := val_lt hBpos dS'
      rw [hSl'] at hS1'
      refine set_iv hq' (by (with_reducible exact Int.natCast_nonneg _)) (by simp only [List.length_append, List.length_replicate]; (clear hrb hR1000 hw hw9 hlt hQ hB hB9 nr1 hDn hk hkm hql hn hn2 em hDlt hP hRkl hsl hBpos hpre0 hseg0 hseg1 hpost0 hpostz hsD hsegv hj hat hmk hmk1 hRlt hval hvR hpre1 hpj hll hfe htop hf hse hs hbv hg0 hg1 hgle hgor hlow0 hlow1 hld0 hld1 gA gB hSl hS0 hS1 hrt hbt hr1t hxH hd1 hd2 fin hq' hqn hSv hSl' hover hSv' hS0' hS1'; omega)) (by (with_reducible exact c20 (by assumption))) ?_
      (repeat (first | dsimp only [sCons, sNil, sAssign, sSetIdx, sAug, sIf, sRet, sExpr, eCall, aNil, aCons, cInt, cBin, eNeg, eList, eIdx, eSlice, tCmp, pSome, oAdd_i, oSub_i, oMul_i, kEq_i, oAdd_r, oMul_r, fLen_r, vBool_b, vInt_i, vRef_r, LoopQ_next, LoopQ_ret, retQ_next, retQ_ret, cv0_3, cv0_4, cv0_5, cv0_6, cvl0, cv1_3, cv1_4, cv1_5, cv1_6, cvl1, cv2_3, cv2_4, cv2_5, cv2_6, cvl2, cv3, cv3_4, cv3_5, cv3_6, cvl3, cv4, cv4_3, cv4_5, cv4_6, cvl4, cv5, cv5_3, cv5_4, cv5_6, cv6, cv6_3, cv6_4, cv6_5] | simp only [reduceIte, if_true, if_false, Bool.false_eq_true, reduceCtorEq, Int.toNat_natCast, set_zeros, cVar_at n0, cVar_at n1, cVar_at n2, cVar_at n3, cVar_at n4] | with_reducible refine head_of t_divide_rows_2b_1i_1.eq_1 ?_ | with_reducible refine head_of t_divide_rows_2b_2.eq_1 ?_ | with_reducible refine head_of t_divide_rows_2b_1.eq_1 ?_ | with_reducible refine head_of t_divide_rows_2b_0.eq_1 ?_ | with_reducible refine head_of t_divide_rows_3.eq_1 ?_ | with_reducible refine head_of t_divide_rows_2.eq_1 ?_ | with_reducible refine head_of t_divide_rows_1.eq_1 ?_))
      have hv' : val (2 ^ w) S' = val (2 ^ w) seg - (g - 1) * val (2 ^ w) bs := by
        rcases hover with rfl | rfl <;> omega
      have hg1' : 0 < g := by
        by_cases hz : 0 < g
        · exact hz
        · have : g = 0 := by (clear hrb hR1000 hw hw9 hlt hQ hB hB9 nr1 hDn hk hkm hql hn hRl hn2 em hDlt hP hRkl hsl hBpos hpre0 hseg0 hseg1 hpost0 hpostz hsD hsegv hj hat hmk hmk1 hRlt hval hvR hpre1 hpj hll hfe htop hf hse hs hbv hg1 hgle hgor hlow0 hlow1 hld0 hld1 gA gB hSl hS0 hS1 hrt hbt hr1t hxH hd1 hd2 fin hq' hqn hSv hSl' hover hSv' hS0' hS1' hv'; lia)
          subst this
          (clear hrb hR1000 hw hw9 hlt hQ hB hB9 nr1 hDn hk hkm hql hn hRl hn2 em hDlt hP hRkl hsl hBpos hpre0 hseg1 hpost0 hpostz hsD hsegv hj hat hmk hmk1 hRlt hval hvR hpre1 hpj hll hfe htop hf hse hs hlow0 hlow1 hld0 hld1 hSl hS0 hrt hbt hr1t hxH fin hq' hqn hSl' hover hSv' hS0' hS1' hg0 hg1 hgle hgor gA gB hd1 hd2 hz; lia)
      obtain ⟨f1, f2, f3, f4, f5⟩ := fin (g - 1) S' hSl' dS' (by (clear hrb hR1000 hw hw9 hlt hQ hB hB9 nr1 hDn hk hkm hql hn hRl hn2 em hDlt hP hRkl hsl hBpos hpre0 hseg0 hseg1 hpost0 hpostz hsD hsegv hj hat hmk hmk1 hRlt hval hvR hpre1 hpj hll hfe htop hf hse hs hbv hg0 hg1 hgle hgor hlow0 hlow1 hld0 hld1 gA gB hSl hS0 hS1 hrt hbt hr1t hxH hd1 hd2 fin hq' hqn hSv hSl' hover hSv' hS0' hS1' hv'; lia)) (by (clear hrb hR1000 hw hw9 hlt hQ hB hB9 nr1 hDn hk hkm hql hn hRl hn2 em hDlt hP hRkl hsl hBpos hpre0 hseg0 hseg1 hpost0 hpostz hsD hsegv hj hat hmk hmk1 hRlt hval hvR hpre1 hpj hll hfe htop hf hse hs hbv hg0 hgle hgor hlow0 hlow1 hld0 hld1 gA gB hSl hS0 hS1 hrt hbt hr1t hxH hd1 hd2 fin hq' hqn hSv hSl' hover hSv' hS0' hS1' hv' hg1'; lia)) hv' (by (clear hrb hR1000 hw hw9 hlt hQ hB hB9 nr1 hDn hk hkm hql hn hRl hn2 em hDlt hP hRkl hsl hBpos hpre0 hseg0 hseg1 hpost0 hpostz hsD hsegv hj hat hmk hmk1 hRlt hval hvR hpre1 hpj hll hfe htop hf hse hs hbv hg0 hg1 hgle hgor hlow0 hlow1 hld0 hld1 gA gB hSl hS0 hrt hbt hr1t hxH hd2 fin hq' hqn hSl' hover hSv' hS0' hS1' hg1'; lia))
      refine hP _ _ ⟨n0, n1, n2, n3, n4, hxH.over h1', by (clear hrb hR1000 hw hw9 hlt hQ hB hB9 nr1 hDn hk hkm hql hn hRl hn2 em hDlt hP hRkl hsl hBpos hpre0 hseg0 hseg1 hpost0 hpostz hsD hsegv hj hmk hmk1 hRlt hval hvR hpre1 hpj hll hfe htop hf hse hs hbv hg0 hg1 hgle hgor hlow0 hlow1 hld0 hld1 gA gB hSl hS0 hS1 hrt hbt hr1t hxH hd1 hd2 fin hq' hqn hSv hSl' hover hSv' hS0' hS1' hv' hg1' f1 f4 f5; omega), pre ++ S' ++ post, (g - 1) :: qs, ?_, f1, f2, ?_, by rw [List.length_cons, hql], f3, ?_, ?_⟩
      · rw [updH_ne _ _ nr1, updH_same]
      · rw [updH_same, hmk1]
      · rw [hmk1]; exact f4
      · rw [hmk1]; exact f5
  · rintro m' H' ⟨n0, n1, n2, n3, n4, xb, hkm, Rk, qs, hRk, hRkl, dRk, hq, hql, dq, hval, hRlt⟩
    rw [Nat.sub_self] at hq hval hRlt
    (repeat (first | dsimp only [sCons, sNil, sAssign, sSetIdx, sAug, sIf, sRet, sExpr, eCall, aNil, aCons, cInt, cBin, eNeg, eList, eIdx, eSlice, tCmp, pSome, oAdd_i, oSub_i, oMul_i, kEq_i, oAdd_r, oMul_r, fLen_r, vBool_b, vInt_i, vRef_r, LoopQ_next, LoopQ_ret, retQ_next, retQ_ret, cv0_3, cv0_4, cv0_5, cv0_6, cvl0, cv1_3, cv1_4, cv1_5, cv1_6, cvl1, cv2_3, cv2_4, cv2_5, cv2_6, cvl2, cv3, cv3_4, cv3_5, cv3_6, cvl3, cv4, cv4_3, cv4_5, cv4_6, cvl4, cv5, cv5_3, cv5_4, cv5_6, cv6, cv6_3, cv6_4, cv6_5] | simp only [reduceIte, if_true, if_false, Bool.false_eq_true, reduceCtorEq, cVar_at n4] | with_reducible refine head_of t_divide_rows_2b_1i_1.eq_1 ?_ | with_reducible refine head_of t_divide_rows_2b_2.eq_1 ?_ | with_reducible refine head_of t_divide_rows_2b_1.eq_1 ?_ | with_reducible refine head_of t_divide_rows_2b_0.eq_1 ?_ | with_reducible refine head_of t_divide_rows_3.eq_1 ?_ | with_reducible refine head_of t_divide_rows_2.eq_1 ?_ | with_reducible refine head_of t_divide_rows_1.eq_1 ?_))
    refine hQ r1 H' qs Rk xb h1' hRk (by simpa using hq) hql dq hRkl dRk (by simpa using hval) (by simpa using hRlt)
end Mine
end

section
open PySem
set_option linter.unusedVariables false
set_option linter.unusedSimpArgs false
namespace Mine

theorem Ext.through {H H' H'' : Hp} {r : Nat} (x : Ext H H') (h : H r = none) (y : ExtBut r H' H'') : Ext H H'' := fun b o hb => y b o (ne_fresh hb h) (x b o hb)
theorem bits_shift {d : Int} {w : Nat} (h0 : 0 < d) (h1 : d < 2 ^ w) : ∃ s : Nat, s < w ∧ (w : Int) - (Builtin.Int.intBits d : Int) = s ∧ d < 2 ^ (w - s) := by
  obtain ⟨n, rfl⟩ := Int.eq_ofNat_of_zero_le (Int.le_of_lt h0)
  have hn : n ≠ 0 := by lia
  have hb : Builtin.Int.intBits (n : Int) = n.log2 + 1 := by
    unfold Builtin.Int.intBits
    rw [if_neg (by simpa using hn)]
    simp
  have hw : n < 2 ^ w := by
    have : ((2 : Int) ^ w) = ((2 ^ w : Nat) : Int) := by push_cast; rfl
    rw [this] at h1
    (clear h0 hn hb this; omega)
  have hl : n.log2 < w := (Nat.log2_lt hn).mpr hw
  refine ⟨w - (n.log2 + 1), by (clear h0 h1 hn hb hw; omega), by rw [hb]; (clear h0 h1 hn hb hw; omega), ?_⟩
  have e : w - (w - (n.log2 + 1)) = n.log2 + 1 := by (clear h0 h1 hn hb hw; lia)
  rw [e]
  have h2 : n < 2 ^ (n.log2 + 1) := Nat.lt_log2_self
  have : ((2 : Int) ^ (n.log2 + 1)) = ((2 ^ (n.log2 + 1) : Nat) : Int) := by push_cast; rfl
  rw [this]
  (with_reducible exact clt (by assumption))
theorem last_get {xs : List Int} (h : xs ≠ []) : (iv xs).getLast? = some (.int (xs.getD (xs.length - 1) 0)) := by
  have hl : 0 < xs.length := List.length_pos_iff.mpr h
  rw [List.getLast?_eq_getElem?, iv_length, iv_get (by omega)]
theorem norm_top {B : Int} {xs : List Int} (hd : Dig B xs) (hn : Norm xs) (h : xs ≠ []) : 0 < xs.getD (xs.length - 1) 0 := by
  have hl : 0 < xs.length := List.length_pos_iff.mpr h
  unfold Norm at hn
  rw [List.getLast?_eq_getElem?, List.getElem?_eq_getElem (by omega)] at hn
  rw [List.getD_eq_getElem?_getD, List.getElem?_eq_getElem (by omega)]
  have := (hd _ (List.getElem_mem (show xs.length - 1 < xs.length by omega))).1
  have h2 : xs[xs.length - 1] ≠ 0 := fun e => hn (by rw [e])
  show 0 < xs[xs.length - 1]
  lia
theorem top_pos {B : Int} (hB : 1 < B) {xs : List Int} (hd : Dig B xs) (h : 0 < xs.length) (hv : B ^ (xs.length - 1) ≤ val B xs) : 0 < xs.getD (xs.length - 1) 0 := by
  have h1 := hd.get (by (clear h hv; lia)) (xs.length - 1)
  have h2 := val_split (B := B) (xs := xs) (n := xs.length - 1) (by (clear hB hv h1; omega))
  rw [List.drop_eq_nil_of_le (by (clear hB h hv h1 h2; lia)), val] at h2
  have h3 := val_lt (by lia) (hd.take (xs.length - 1))
  rw [List.length_take, Nat.min_eq_left (by (clear hB h hv h1 h2 h3; omega))] at h3
  by_cases hz : xs.getD (xs.length - 1) 0 = 0
  · rw [hz] at h2
    simp at h2
    (clear hB h h1 hz; omega)
  · (clear hB h hv h2 h3; lia)

noncomputable def P_divrem_school : PF := fun args H Q => ∃ a b xs ys, ∃ w : Nat, args = [.ref a, .ref b, .int w] ∧ H a = some (.list (iv xs)) ∧ H b = some (.list (iv ys)) ∧ xs.length ≤ 500 ∧ ys.length ≤ 500 ∧ 1 ≤ w ∧ w ≤ 9 ∧
  Dig (2 ^ w) xs ∧ Norm xs ∧ Dig (2 ^ w) ys ∧ Norm ys ∧ ys ≠ [] ∧
  ∀ t r1 r2 H' qs rs, Ext H H' → H' t = some (.tup [.ref r1, .ref r2]) → H' r1 = some (.list (iv qs)) → H' r2 = some (.list (iv rs)) → IsRow (2 ^ w) (val (2 ^ w) xs / val (2 ^ w) ys) qs → IsRow (2 ^ w) (val (2 ^ w) xs % val (2 ^ w) ys) rs → Q (.ref t) H'

noncomputable def t_divrem_school_8 : PS := (sCons (sRet (eTup (aCons (eCall P_normal (aCons (cVar 6) aNil)) (aCons (eCall P_shift_right (aCons (eCall P_normal (aCons (cVar 5) aNil)) (aCons (cVar 3) (aCons (cVar 2) aNil)))) aNil)))) sNil)
noncomputable def t_divrem_school_7 : PS := (sCons (sAssign 6 (eCall P_divide_rows (aCons (cVar 5) (aCons (cVar 4) (aCons (cVar 2) aNil))))) t_divrem_school_8)
noncomputable def t_divrem_school_6 : PS := (sCons (sAssign 5 (cBin oAdd (cVar 5) (cBin oMul (eList (aCons (cInt 0) aNil)) (cBin oSub (cBin oAdd (eCall fLen (aCons (cVar 0) aNil)) (cInt 1)) (eCall fLen (aCons (cVar 5) aNil)))))) t_divrem_school_7)
noncomputable def t_divrem_school_5 : PS := (sCons (sAssign 5 (eCall P_shift_left (aCons (cVar 0) (aCons (cVar 3) (aCons (cVar 2) aNil))))) t_divrem_school_6)
noncomputable def t_divrem_school_4 : PS := (sCons (sAssign 4 (eCall P_shift_left (aCons (cVar 1) (aCons (cVar 3) (aCons (cVar 2) aNil))))) t_divrem_school_5)
noncomputable def t_divrem_school_3 : PS := (sCons (sAssign 3 (cBin oSub (cVar 2) (eCall P_bits (aCons (eList (aCons (eIdx (cVar 1) (eNeg (cInt 1))) aNil)) (aCons (cVar 2) aNil))))) t_divrem_school_4)
noncomputable def t_divrem_school_2 : PS := (sCons (sIf (tCmp kEq (eCall fLen (aCons (cVar 1) aNil)) (cInt 1)) (sCons (sRet (eCall P_divrem_small (aCons (cVar 0) (aCons (cVar 1) (aCons (cVar 2) aNil))))) sNil) sNil) t_divrem_school_3)
noncomputable def t_divrem_school_1 : PS := (sCons (sIf (tCmp kLt (eCall P_compare (aCons (cVar 0) (aCons (cVar 1) aNil))) (cInt 0)) (sCons (sRet (eTup (aCons (eList aNil) (aCons (eSlice (cVar 0) pNone pNone) aNil)))) sNil) sNil) t_divrem_school_2)
noncomputable def ps_divrem_school : PS := (sCons (sIf (tCmp kEq (eCall fLen (aCons (cVar 1) aNil)) (cInt 0)) (sCons sNever sNil) sNil) t_divrem_school_1)

theorem pu_divrem_school (args : List V) (H : Hp) (Q : V → Hp → Prop) (h : P_divrem_school args H Q) : args.length = 3 ∧ ps_divrem_school (fun i => args[i]?) H (retQ Q) := by
  obtain ⟨a, b, xs, ys, w, rfl, ha, hb, hlx, hly, hw, hw9, dx, nx, dy, ny, hne, hQ⟩ := h
  refine ⟨rfl, ?_⟩
  have hB := two_le hw
  have hB9 := le_512 hw9
  have hBpos : (0 : Int) < 2 ^ w := by (with_reducible exact cpos)
  have hyl : 0 < ys.length := List.length_pos_iff.mpr hne
  have hyv := norm_pos hBpos dy ny hne
  have hxv := val_nonneg hBpos dx
  (repeat (first | dsimp only [sCons, sNil, sAssign, sIf, sRet, sNever, eCall, aNil, aCons, cInt, cBin, eNeg, eList, eTup, eIdx, eSlice, tCmp, pNone, oAdd_i, oSub_i, oMul_i, kLt_i, kEq_i, oAdd_r, oMul_r, fLen_r, vBool_b, vInt_i, vRef_r, LoopQ_next, LoopQ_ret, retQ_next, retQ_ret, cv0_3, cv0_4, cv0_5, cv0_6, cvl0, cv1_3, cv1_4, cv1_5, cv1_6, cvl1, cv2_3, cv2_4, cv2_5, cv2_6, cvl2, cv3, cv3_4, cv3_5, cv3_6, cvl3, cv4, cv4_3, cv4_5, cv4_6, cvl4, cv5, cv5_3, cv5_4, cv5_6, cv6, cv6_3, cv6_4, cv6_5, ps_divrem_school] | simp only [reduceIte, if_true, if_false, Bool.false_eq_true, reduceCtorEq] | with_reducible refine head_of t_divrem_school_8.eq_1 ?_ | with_reducible refine head_of t_divrem_school_7.eq_1 ?_ | with_reducible refine head_of t_divrem_school_6.eq_1 ?_ | with_reducible refine head_of t_divrem_school_5.eq_1 ?_ | with_reducible refine head_of t_divrem_school_4.eq_1 ?_ | with_reducible refine head_of t_divrem_school_3.eq_1 ?_ | with_reducible refine head_of t_divrem_school_2.eq_1 ?_ | with_reducible refine head_of t_divrem_school_1.eq_1 ?_))
  refine len_iv hb (by (with_reducible exact c20b (by assumption))) ?_
  (repeat (first | dsimp only [sCons, sNil, sAssign, sIf, sRet, sNever, eCall, aNil, aCons, cInt, cBin, eNeg, eList, eTup, eIdx, eSlice, tCmp, pNone, oAdd_i, oSub_i, oMul_i, kLt_i, kEq_i, oAdd_r, oMul_r, fLen_r, vBool_b, vInt_i, vRef_r, LoopQ_next, LoopQ_ret, retQ_next, retQ_ret, cv0_3, cv0_4, cv0_5, cv0_6, cvl0, cv1_3, cv1_4, cv1_5, cv1_6, cvl1, cv2_3, cv2_4, cv2_5, cv2_6, cvl2, cv3, cv3_4, cv3_5, cv3_6, cvl3, cv4, cv4_3, cv4_5, cv4_6, cvl4, cv5, cv5_3, cv5_4, cv5_6, cv6, cv6_3, cv6_4, cv6_5] | simp only [reduceIte, if_true, if_false, Bool.false_eq_true, reduceCtorEq] | with_reducible refine head_of t_divrem_school_8.eq_1 ?_ | with_reducible refine head_of t_divrem_school_7.eq_1 ?_ | with_reducible refine head_of t_divrem_school_6.eq_1 ?_ | with_reducible refine head_of t_divrem_school_5.eq_1 ?_ | with_reducible refine head_of t_divrem_school_4.eq_1 ?_ | with_reducible refine head_of t_divrem_school_3.eq_1 ?_ | with_reducible refine head_of t_divrem_school_2.eq_1 ?_ | with_reducible refine head_of t_divrem_school_1.eq_1 ?_))
  rw [decide_eq_false (show ¬ ((ys.length : Int) = 0) by (clear hlx hly hw hw9 hne hQ hB hB9 hBpos hyv hxv; lia))]
  (repeat (first | dsimp only [sCons, sNil, sAssign, sIf, sRet, sNever, eCall, aNil, aCons, cInt, cBin, eNeg, eList, eTup, eIdx, eSlice, tCmp, pNone, oAdd_i, oSub_i, oMul_i, kLt_i, kEq_i, oAdd_r, oMul_r, fLen_r, vBool_b, vInt_i, vRef_r, LoopQ_next, LoopQ_ret, retQ_next, retQ_ret, cv0_3, cv0_4, cv0_5, cv0_6, cvl0, cv1_3, cv1_4, cv1_5, cv1_6, cvl1, cv2_3, cv2_4, cv2_5, cv2_6, cvl2, cv3, cv3_4, cv3_5, cv3_6, cvl3, cv4, cv4_3, cv4_5, cv4_6, cvl4, cv5, cv5_3, cv5_4, cv5_6, cv6, cv6_3, cv6_4, cv6_5] | simp only [reduceIte, if_true, if_false, Bool.false_eq_true, reduceCtorEq] | with_reducible refine head_of t_divrem_school_8.eq_1 ?_ | with_reducible refine head_of t_divrem_school_7.eq_1 ?_ | with_reducible refine head_of t_divrem_school_6.eq_1 ?_ | with_reducible refine head_of t_divrem_school_5.eq_1 ?_ | with_reducible refine head_of t_divrem_school_4.eq_1 ?_ | with_reducible refine head_of t_divrem_school_3.eq_1 ?_ | with_reducible refine head_of t_divrem_school_2.eq_1 ?_ | with_reducible refine head_of t_divrem_school_1.eq_1 ?_))
  refine ⟨a, b, xs, ys, 2 ^ w, rfl, ha, hb, by (with_reducible exact c10 (by assumption)), by (with_reducible exact c10 (by assumption)), by (with_reducible exact cp1 (by assumption)), dx, nx, dy, ny, fun sg hsg => ?_⟩
  (repeat (first | dsimp only [sCons, sNil, sAssign, sIf, sRet, sNever, eCall, aNil, aCons, cInt, cBin, eNeg, eList, eTup, eIdx, eSlice, tCmp, pNone, oAdd_i, oSub_i, oMul_i, kLt_i, kEq_i, oAdd_r, oMul_r, fLen_r, vBool_b, vInt_i, vRef_r, LoopQ_next, LoopQ_ret, retQ_next, retQ_ret, cv0_3, cv0_4, cv0_5, cv0_6, cvl0, cv1_3, cv1_4, cv1_5, cv1_6, cvl1, cv2_3, cv2_4, cv2_5, cv2_6, cvl2, cv3, cv3_4, cv3_5, cv3_6, cvl3, cv4, cv4_3, cv4_5, cv4_6, cvl4, cv5, cv5_3, cv5_4, cv5_6, cv6, cv6_3, cv6_4, cv6_5] | simp only [reduceIte, if_true, if_false, Bool.false_eq_true, reduceCtorEq] | with_reducible refine head_of t_divrem_school_8.eq_1 ?_ | with_reducible refine head_of t_divrem_school_7.eq_1 ?_ | with_reducible refine head_of t_divrem_school_6.eq_1 ?_ | with_reducible refine head_of t_divrem_school_5.eq_1 ?_ | with_reducible refine head_of t_divrem_school_4.eq_1 ?_ | with_reducible refine head_of t_divrem_school_3.eq_1 ?_ | with_reducible refine head_of t_divrem_school_2.eq_1 ?_ | with_reducible refine head_of t_divrem_school_1.eq_1 ?_))
  by_cases hlt : sg < 0
  · rw [decide_eq_true hlt]
    have hv := hsg.mp hlt
    (repeat (first | dsimp only [sCons, sNil, sAssign, sIf, sRet, sNever, eCall, aNil, aCons, cInt, cBin, eNeg, eList, eTup, eIdx, eSlice, tCmp, pNone, oAdd_i, oSub_i, oMul_i, kLt_i, kEq_i, oAdd_r, oMul_r, fLen_r, vBool_b, vInt_i, vRef_r, LoopQ_next, LoopQ_ret, retQ_next, retQ_ret, cv0_3, cv0_4, cv0_5, cv0_6, cvl0, cv1_3, cv1_4, cv1_5, cv1_6, cvl1, cv2_3, cv2_4, cv2_5, cv2_6, cvl2, cv3, cv3_4, cv3_5, cv3_6, cvl3, cv4, cv4_3, cv4_5, cv4_6, cvl4, cv5, cv5_3, cv5_4, cv5_6, cv6, cv6_3, cv6_4, cv6_5] | simp only [reduceIte, if_true, if_false, Bool.false_eq_true, reduceCtorEq] | with_reducible refine head_of t_divrem_school_8.eq_1 ?_ | with_reducible refine head_of t_divrem_school_7.eq_1 ?_ | with_reducible refine head_of t_divrem_school_6.eq_1 ?_ | with_reducible refine head_of t_divrem_school_5.eq_1 ?_ | with_reducible refine head_of t_divrem_school_4.eq_1 ?_ | with_reducible refine head_of t_divrem_school_3.eq_1 ?_ | with_reducible refine head_of t_divrem_school_2.eq_1 ?_ | with_reducible refine head_of t_divrem_school_1.eq_1 ?_))
    refine ⟨by simp, fun r1 hr1 => cut_all ((Ext.upd hr1) _ _ ha) (by (with_reducible exact c20b (by assumption))) fun r2 hr2 => ?_⟩
    (repeat (first | dsimp only [sCons, sNil, sAssign, sIf, sRet, sNever, eCall, aNil, aCons, cInt, cBin, eNeg, eList, eTup, eIdx, eSlice, tCmp, pNone, oAdd_i, oSub_i, oMul_i, kLt_i, kEq_i, oAdd_r, oMul_r, fLen_r, vBool_b, vInt_i, vRef_r, LoopQ_next, LoopQ_ret, retQ_next, retQ_ret, cv0_3, cv0_4, cv0_5, cv0_6, cvl0, cv1_3, cv1_4, cv1_5, cv1_6, cvl1, cv2_3, cv2_4, cv2_5, cv2_6, cvl2, cv3, cv3_4, cv3_5, cv3_6, cvl3, cv4, cv4_3, cv4_5, cv4_6, cvl4, cv5, cv5_3, cv5_4, cv5_6, cv6, cv6_3, cv6_4, cv6_5] | simp only [reduceIte, if_true, if_false, Bool.false_eq_true, reduceCtorEq] | with_reducible refine head_of t_divrem_school_8.eq_1 ?_ | with_reducible refine head_of t_divrem_school_7.eq_1 ?_ | with_reducible refine head_of t_divrem_school_6.eq_1 ?_ | with_reducible refine head_of t_divrem_school_5.eq_1 ?_ | with_reducible refine head_of t_divrem_school_4.eq_1 ?_ | with_reducible refine head_of t_divrem_school_3.eq_1 ?_ | with_reducible refine head_of t_divrem_school_2.eq_1 ?_ | with_reducible refine head_of t_divrem_school_1.eq_1 ?_))
    refine ⟨by simp, fun t ht => ?_⟩
    have x1 : Ext H (updH H r1 (.list [])) := Ext.upd hr1
    have n12 : r1 ≠ r2 := by rintro rfl; rw [updH_same] at hr2; cases hr2
    have x2 := Ext.upd (o := .list (iv xs)) hr2
    have x3 := Ext.upd (o := .tup [.ref r1, .ref r2]) ht
    refine hQ t r1 r2 _ [] xs (x1.trans (x2.trans x3)) (updH_same ..) (x3 _ _ (x2 _ _ (updH_same ..))) (x3 _ _ (updH_same ..)) ?_ ?_
    · rw [Int.ediv_eq_zero_of_lt hxv hv]; exact ⟨Dig.nil, norm_nil, rfl⟩
    · rw [Int.emod_eq_of_lt hxv hv]; exact ⟨dx, nx, rfl⟩
  · rw [decide_eq_false hlt]
    have hge : val (2 ^ w) ys ≤ val (2 ^ w) xs := by
      by_cases h : val (2 ^ w) xs < val (2 ^ w) ys
      · exact absurd (hsg.mpr h) hlt
      · (clear hlx hly hw hw9 hne hQ hB hB9 hBpos hyl hyv hxv hsg hlt; lia)
    have hll : ys.length ≤ xs.length := by
      by_cases h : xs.length < ys.length
      · have := len_lt_val (by (with_reducible exact cp1 (by assumption))) dx dy ny h; (clear hlx hly hw hw9 hne hQ hB hB9 hBpos hyl hyv hxv hsg hlt h; lia)
      · (clear hlx hly hw hw9 hne hQ hB hB9 hBpos hyl hyv hxv hsg hlt hge; lia)
    (repeat (first | dsimp only [sCons, sNil, sAssign, sIf, sRet, sNever, eCall, aNil, aCons, cInt, cBin, eNeg, eList, eTup, eIdx, eSlice, tCmp, pNone, oAdd_i, oSub_i, oMul_i, kLt_i, kEq_i, oAdd_r, oMul_r, fLen_r, vBool_b, vInt_i, vRef_r, LoopQ_next, LoopQ_ret, retQ_next, retQ_ret, cv0_3, cv0_4, cv0_5, cv0_6, cvl0, cv1_3, cv1_4, cv1_5, cv1_6, cvl1, cv2_3, cv2_4, cv2_5, cv2_6, cvl2, cv3, cv3_4, cv3_5, cv3_6, cvl3, cv4, cv4_3, cv4_5, cv4_6, cvl4, cv5, cv5_3, cv5_4, cv5_6, cv6, cv6_3, cv6_4, cv6_5] | simp only [reduceIte, if_true, if_false, Bool.false_eq_true, reduceCtorEq] | with_reducible refine head_of t_divrem_school_8.eq_1 ?_ | with_reducible refine head_of t_divrem_school_7.eq_1 ?_ | with_reducible refine head_of t_divrem_school_6.eq_1 ?_ | with_reducible refine head_of t_divrem_school_5.eq_1 ?_ | with_reducible refine head_of t_divrem_school_4.eq_1 ?_ | with_reducible refine head_of t_divrem_school_3.eq_1 ?_ | with_reducible refine head_of t_divrem_school_2.eq_1 ?_ | with_reducible refine head_of t_divrem_school_1.eq_1 ?_))
    refine len_iv hb (by (with_reducible exact c20b (by assumption))) ?_
    (repeat (first | dsimp only [sCons, sNil, sAssign, sIf, sRet, sNever, eCall, aNil, aCons, cInt, cBin, eNeg, eList, eTup, eIdx, eSlice, tCmp, pNone, oAdd_i, oSub_i, oMul_i, kLt_i, kEq_i, oAdd_r, oMul_r, fLen_r, vBool_b, vInt_i, vRef_r, LoopQ_next, LoopQ_ret, retQ_next, retQ_ret, cv0_3, cv0_4, cv0_5, cv0_6, cvl0, cv1_3, cv1_4, cv1_5, cv1_6, cvl1, cv2_3, cv2_4, cv2_5, cv2_6, cvl2, cv3, cv3_4, cv3_5, cv3_6, cvl3, cv4, cv4_3, cv4_5, cv4_6, cvl4, cv5, cv5_3, cv5_4, cv5_6, cv6, cv6_3, cv6_4, cv6_5] | simp only [reduceIte, if_true, if_false, Bool.false_eq_true, reduceCtorEq] | with_reducible refine head_of t_divrem_school_8.eq_1 ?_ | with_reducible refine head_of t_divrem_school_7.eq_1 ?_ | with_reducible refine head_of t_divrem_school_6.eq_1 ?_ | with_reducible refine head_of t_divrem_school_5.eq_1 ?_ | with_reducible refine head_of t_divrem_school_4.eq_1 ?_ | with_reducible refine head_of t_divrem_school_3.eq_1 ?_ | with_reducible refine head_of t_divrem_school_2.eq_1 ?_ | with_reducible refine head_of t_divrem_school_1.eq_1 ?_))
    by_cases h1 : ys.length = 1
    · rw [decide_eq_true (show (ys.length : Int) = 1 by (clear hlx hly hw hw9 hne hQ hB hB9 hBpos hyl hyv hxv hsg hlt hge hll; lia))]
      (repeat (first | dsimp only [sCons, sNil, sAssign, sIf, sRet, sNever, eCall, aNil, aCons, cInt, cBin, eNeg, eList, eTup, eIdx, eSlice, tCmp, pNone, oAdd_i, oSub_i, oMul_i, kLt_i, kEq_i, oAdd_r, oMul_r, fLen_r, vBool_b, vInt_i, vRef_r, LoopQ_next, LoopQ_ret, retQ_next, retQ_ret, cv0_3, cv0_4, cv0_5, cv0_6, cvl0, cv1_3, cv1_4, cv1_5, cv1_6, cvl1, cv2_3, cv2_4, cv2_5, cv2_6, cvl2, cv3, cv3_4, cv3_5, cv3_6, cvl3, cv4, cv4_3, cv4_5, cv4_6, cvl4, cv5, cv5_3, cv5_4, cv5_6, cv6, cv6_3, cv6_4, cv6_5] | simp only [reduceIte, if_true, if_false, Bool.false_eq_true, reduceCtorEq] | with_reducible refine head_of t_divrem_school_8.eq_1 ?_ | with_reducible refine head_of t_divrem_school_7.eq_1 ?_ | with_reducible refine head_of t_divrem_school_6.eq_1 ?_ | with_reducible refine head_of t_divrem_school_5.eq_1 ?_ | with_reducible refine head_of t_divrem_school_4.eq_1 ?_ | with_reducible refine head_of t_divrem_school_3.eq_1 ?_ | with_reducible refine head_of t_divrem_school_2.eq_1 ?_ | with_reducible refine head_of t_divrem_school_1.eq_1 ?_))
      obtain ⟨d, rfl⟩ := List.length_eq_one_iff.mp h1
      have hd := dy.head
      have hd1 : val (2 ^ w) [d] = d := by simp [val]
      rw [hd1] at hyv hQ
      refine ⟨a, b, xs, d, w, rfl, ha, hb, by (with_reducible exact c10 (by assumption)), hw, hw9, dx, hyv, hd.2, fun t r1 r2 H' qs rs x ht hr1 hr2 hq hr => ?_⟩
      (repeat (first | dsimp only [sCons, sNil, sAssign, sIf, sRet, sNever, eCall, aNil, aCons, cInt, cBin, eNeg, eList, eTup, eIdx, eSlice, tCmp, pNone, oAdd_i, oSub_i, oMul_i, kLt_i, kEq_i, oAdd_r, oMul_r, fLen_r, vBool_b, vInt_i, vRef_r, LoopQ_next, LoopQ_ret, retQ_next, retQ_ret, cv0_3, cv0_4, cv0_5, cv0_6, cvl0, cv1_3, cv1_4, cv1_5, cv1_6, cvl1, cv2_3, cv2_4, cv2_5, cv2_6, cvl2, cv3, cv3_4, cv3_5, cv3_6, cvl3, cv4, cv4_3, cv4_5, cv4_6, cvl4, cv5, cv5_3, cv5_4, cv5_6, cv6, cv6_3, cv6_4, cv6_5] | simp only [reduceIte, if_true, if_false, Bool.false_eq_true, reduceCtorEq] | with_reducible refine head_of t_divrem_school_8.eq_1 ?_ | with_reducible refine head_of t_divrem_school_7.eq_1 ?_ | with_reducible refine head_of t_divrem_school_6.eq_1 ?_ | with_reducible refine head_of t_divrem_school_5.eq_1 ?_ | with_reducible refine head_of t_divrem_school_4.eq_1 ?_ | with_reducible refine head_of t_divrem_school_3.eq_1 ?_ | with_reducible refine head_of t_divrem_school_2.eq_1 ?_ | with_reducible refine head_of t_divrem_school_1.eq_1 ?_))
      exact hQ t r1 r2 H' qs rs x ht hr1 hr2 hq hr
    · rw [decide_eq_false (show ¬ ((ys.length : Int) = 1) by (clear hlx hly hw hw9 hne hQ hB hB9 hBpos hyl hyv hxv hsg hlt hge hll; lia))]
      (repeat (first | dsimp only [sCons, sNil, sAssign, sIf, sRet, sNever, eCall, aNil, aCons, cInt, cBin, eNeg, eList, eTup, eIdx, eSlice, tCmp, pNone, oAdd_i, oSub_i, oMul_i, kLt_i, kEq_i, oAdd_r, oMul_r, fLen_r, vBool_b, vInt_i, vRef_r, LoopQ_next, LoopQ_ret, retQ_next, retQ_ret, cv0_3, cv0_4, cv0_5, cv0_6, cvl0, cv1_3, cv1_4, cv1_5, cv1_6, cvl1, cv2_3, cv2_4, cv2_5, cv2_6, cvl2, cv3, cv3_4, cv3_5, cv3_6, cvl3, cv4, cv4_3, cv4_5, cv4_6, cvl4, cv5, cv5_3, cv5_4, cv5_6, cv6, cv6_3, cv6_4, cv6_5] | simp only [reduceIte, if_true, if_false, Bool.false_eq_true, reduceCtorEq] | with_reducible refine head_of t_divrem_school_8.eq_1 ?_ | with_reducible refine head_of t_divrem_school_7.eq_1 ?_ | with_reducible refine head_of t_divrem_school_6.eq_1 ?_ | with_reducible refine head_of t_divrem_school_5.eq_1 ?_ | with_reducible refine head_of t_divrem_school_4.eq_1 ?_ | with_reducible refine head_of t_divrem_school_3.eq_1 ?_ | with_reducible refine head_of t_divrem_school_2.eq_1 ?_ | with_reducible refine head_of t_divrem_school_1.eq_1 ?_))
      have htop := norm_top dy ny hne
      have htd := dy.get hBpos (ys.length - 1)
      refine ⟨_, _, hb, .inr ⟨rfl, last_get hne, by rw [iv_length]; (with_reducible exact c20b (by assumption))⟩, ?_⟩
      (repeat (first | dsimp only [sCons, sNil, sAssign, sIf, sRet, sNever, eCall, aNil, aCons, cInt, cBin, eNeg, eList, eTup, eIdx, eSlice, tCmp, pNone, oAdd_i, oSub_i, oMul_i, kLt_i, kEq_i, oAdd_r, oMul_r, fLen_r, vBool_b, vInt_i, vRef_r, LoopQ_next, LoopQ_ret, retQ_next, retQ_ret, cv0_3, cv0_4, cv0_5, cv0_6, cvl0, cv1_3, cv1_4, cv1_5, cv1_6, cvl1, cv2_3, cv2_4, cv2_5, cv2_6, cvl2, cv3, cv3_4, cv3_5, cv3_6, cvl3, cv4, cv4_3, cv4_5, cv4_6, cvl4, cv5, cv5_3, cv5_4, cv5_6, cv6, cv6_3, cv6_4, cv6_5] | simp only [reduceIte, if_true, if_false, Bool.false_eq_true, reduceCtorEq] | with_reducible refine head_of t_divrem_school_8.eq_1 ?_ | with_reducible refine head_of t_divrem_school_7.eq_1 ?_ | with_reducible refine head_of t_divrem_school_6.eq_1 ?_ | with_reducible refine head_of t_divrem_school_5.eq_1 ?_ | with_reducible refine head_of t_divrem_school_4.eq_1 ?_ | with_reducible refine head_of t_divrem_school_3.eq_1 ?_ | with_reducible refine head_of t_divrem_school_2.eq_1 ?_ | with_reducible refine head_of t_divrem_school_1.eq_1 ?_))
      refine ⟨by simp, fun r0 h0 => ?_⟩
      generalize hd : ys.getD (ys.length - 1) 0 = d at *
      obtain ⟨s, hsw, hsh, hds⟩ := bits_shift htop htd.2
      have x0 : Ext H (updH H r0 (O.list [V.int d])) := Ext.upd h0
      refine ⟨r0, d, w, rfl, updH_same .., Small.le (by (clear hlx hly hw hw9 hne hQ hB hB9 hBpos hyl hyv hxv hsg hlt hge hll h1 hd htop htd hsw hsh hds; lia)) (by (clear hlx hly hw hne hQ hB hB9 hBpos hyl hyv hxv hsg hlt hge hll h1 hd htop htd hsw hsh hds; lia)), ?_⟩
      (repeat (first | dsimp only [sCons, sNil, sAssign, sIf, sRet, sNever, eCall, aNil, aCons, cInt, cBin, eNeg, eList, eTup, eIdx, eSlice, tCmp, pNone, oAdd_i, oSub_i, oMul_i, kLt_i, kEq_i, oAdd_r, oMul_r, fLen_r, vBool_b, vInt_i, vRef_r, LoopQ_next, LoopQ_ret, retQ_next, retQ_ret, cv0_3, cv0_4, cv0_5, cv0_6, cvl0, cv1_3, cv1_4, cv1_5, cv1_6, cvl1, cv2_3, cv2_4, cv2_5, cv2_6, cvl2, cv3, cv3_4, cv3_5, cv3_6, cvl3, cv4, cv4_3, cv4_5, cv4_6, cvl4, cv5, cv5_3, cv5_4, cv5_6, cv6, cv6_3, cv6_4, cv6_5] | simp only [reduceIte, if_true, if_false, Bool.false_eq_true, reduceCtorEq, hsh] | with_reducible refine head_of t_divrem_school_8.eq_1 ?_ | with_reducible refine head_of t_divrem_school_7.eq_1 ?_ | with_reducible refine head_of t_divrem_school_6.eq_1 ?_ | with_reducible refine head_of t_divrem_school_5.eq_1 ?_ | with_reducible refine head_of t_divrem_school_4.eq_1 ?_ | with_reducible refine head_of t_divrem_school_3.eq_1 ?_ | with_reducible refine head_of t_divrem_school_2.eq_1 ?_ | with_reducible refine head_of t_divrem_school_1.eq_1 ?_))
      have hps : (0 : Int) < 2 ^ s := Int.pow_pos (by decide)
      have hpe : (2 : Int) ^ (w - s) * 2 ^ s = 2 ^ w := by rw [← Int.pow_add]; congr 1; (clear hlx hly hw hw9 hne hQ hB hB9 hBpos hyl hyv hxv hsg hlt hge hll h1 hd htop htd hsw hds hps; lia)
      refine ⟨b, ys, s, w, rfl, x0 _ _ hb, by (with_reducible exact c10 (by assumption)), hw, hw9, hsw, dy, fun rd H1 ds x1 hrd0 hrd dd hdv hdl => ?_⟩
      (repeat (first | dsimp only [sCons, sNil, sAssign, sIf, sRet, sNever, eCall, aNil, aCons, cInt, cBin, eNeg, eList, eTup, eIdx, eSlice, tCmp, pNone, oAdd_i, oSub_i, oMul_i, kLt_i, kEq_i, oAdd_r, oMul_r, fLen_r, vBool_b, vInt_i, vRef_r, LoopQ_next, LoopQ_ret, retQ_next, retQ_ret, cv0_3, cv0_4, cv0_5, cv0_6, cvl0, cv1_3, cv1_4, cv1_5, cv1_6, cvl1, cv2_3, cv2_4, cv2_5, cv2_6, cvl2, cv3, cv3_4, cv3_5, cv3_6, cvl3, cv4, cv4_3, cv4_5, cv4_6, cvl4, cv5, cv5_3, cv5_4, cv5_6, cv6, cv6_3, cv6_4, cv6_5] | simp only [reduceIte, if_true, if_false, Bool.false_eq_true, reduceCtorEq, hsh] | with_reducible refine head_of t_divrem_school_8.eq_1 ?_ | with_reducible refine head_of t_divrem_school_7.eq_1 ?_ | with_reducible refine head_of t_divrem_school_6.eq_1 ?_ | with_reducible refine head_of t_divrem_school_5.eq_1 ?_ | with_reducible refine head_of t_divrem_school_4.eq_1 ?_ | with_reducible refine head_of t_divrem_school_3.eq_1 ?_ | with_reducible refine head_of t_divrem_school_2.eq_1 ?_ | with_reducible refine head_of t_divrem_school_1.eq_1 ?_))
      have xx1 := x0.trans x1
      -- the divisor keeps its length
      have hBl := pow_pos' hBpos (ys.length - 1)
      have hyt : val (2 ^ w) ys < (d + 1) * (2 ^ w) ^ (ys.length - 1) := by
        have e := val_split (B := 2 ^ w) (xs := ys) (n := ys.length - 1) (by (clear hlx hly hw hw9 hne hQ hB hB9 hBpos hyv hxv hsg hlt hge hll h1 hd htop htd hsw hsh hds hps hpe hdv hdl hBl; omega))
        rw [List.drop_eq_nil_of_le (by (clear hlx hly hw hw9 hne hQ hB hB9 hBpos hyl hyv hxv hsg hlt hge hll h1 hd htop htd hsw hsh hds hps hpe hdv hdl hBl e; lia)), val, hd] at e
        have e2 := val_lt hBpos (dy.take (ys.length - 1))
        rw [List.length_take, Nat.min_eq_left (by (clear hlx hly hw hw9 hne hQ hB hB9 hBpos hyl hyv hxv hsg hlt hge hll h1 hd htop htd hsw hsh hds hps hpe hdv hdl hBl e e2; omega))] at e2
        rw [e, Int.add_mul, Int.one_mul, Int.mul_zero, Int.add_zero, Int.mul_comm d]
        (clear hlx hly hw hw9 hne hQ hB hB9 hBpos hyl hyv hxv hsg hlt hge hll h1 hd htop htd hsw hsh hds hps hpe hdv hdl hBl e; lia)
      have hpl : (2 ^ w : Int) ^ ys.length = 2 ^ w * (2 ^ w) ^ (ys.length - 1) := by
        rw [Int.mul_comm, ← Int.pow_succ]; congr 1; (clear hlx hly hw hw9 hne hQ hB hB9 hBpos hyv hxv hsg hlt hge hll h1 hd htop htd hsw hsh hds hps hpe hdv hdl hBl hyt; lia)
      have hdlt : val (2 ^ w) ds < (2 ^ w) ^ ys.length := by
        have a1 : (d + 1) * (2 ^ w) ^ (ys.length - 1) ≤ 2 ^ (w - s) * (2 ^ w) ^ (ys.length - 1) := Int.mul_le_mul_of_nonneg_right (by (clear hlx hly hw hw9 hne hQ hB hB9 hBpos hyl hyv hxv hsg hlt hge hll h1 hd htop htd hsw hsh hps hpe hdv hdl hBl hyt hpl; lia)) (by (with_reducible exact Int.le_of_lt (by assumption)))
        have a2 : val (2 ^ w) ys * 2 ^ s < 2 ^ (w - s) * (2 ^ w) ^ (ys.length - 1) * 2 ^ s := Int.mul_lt_mul_of_pos_right (by (clear hlx hly hw hw9 hne hQ hB hB9 hBpos hyl hyv hxv hsg hlt hge hll h1 hd htop htd hsw hsh hds hps hpe hdv hdl hBl hpl; omega)) hps
        have a3 : 2 ^ (w - s) * (2 ^ w) ^ (ys.length - 1) * 2 ^ s = (2 ^ w : Int) ^ ys.length := by rw [hpl, ← hpe]; grind
        (clear hlx hly hw hw9 hne hQ hB hB9 hBpos hyl hyv hxv hsg hlt hge hll h1 hd htop htd hsw hsh hds hps hpe hdl hBl hyt hpl a1; omega)
      have hdl' : ds.length = ys.length := by rcases hdl with h | h <;> omega
      have hylow := row_low hBpos dy ny hne
      have hDge : (2 ^ w : Int) ^ (ys.length - 1) * 2 ^ s ≤ val (2 ^ w) ds := by
        rw [hdv]; exact Int.mul_le_mul_of_nonneg_right hylow (by (with_reducible exact cposn))
      have hDge1 : (2 ^ w : Int) ^ (ys.length - 1) ≤ val (2 ^ w) ds := by
        have := Int.mul_le_mul_of_nonneg_left (show 1 ≤ (2 : Int) ^ s by (with_reducible exact cpos1)) (show 0 ≤ (2 ^ w : Int) ^ (ys.length - 1) by (with_reducible exact Int.le_of_lt (by assumption)))
        (clear hlx hly hw hw9 hne hQ hB hB9 hBpos hyl hyv hxv hsg hlt hge hll h1 hd htop htd hsw hsh hds hps hpe hdv hdl hBl hyt hpl hdlt hdl' hylow; lia)
      have hdtop : 0 < ds.getD (ds.length - 1) 0 := top_pos (by (with_reducible exact cp1 (by assumption))) dd (by (clear hlx hly hw hw9 hne hQ hB hB9 hBpos hyv hxv hsg hlt hge hll h1 hd htop htd hsw hsh hds hps hpe hdv hdl hBl hyt hpl hdlt hylow hDge hDge1; lia)) (by rw [hdl']; exact hDge1)
      refine ⟨a, xs, s, w, rfl, xx1 _ _ ha, by (with_reducible exact c10 (by assumption)), hw, hw9, hsw, dx, fun rr H2 zs x2 hrr0 hrr dz hzv hzl => ?_⟩
      (repeat (first | dsimp only [sCons, sNil, sAssign, sIf, sRet, sNever, eCall, aNil, aCons, cInt, cBin, eNeg, eList, eTup, eIdx, eSlice, tCmp, pNone, oAdd_i, oSub_i, oMul_i, kLt_i, kEq_i, oAdd_r, oMul_r, fLen_r, vBool_b, vInt_i, vRef_r, LoopQ_next, LoopQ_ret, retQ_next, retQ_ret, cv0_3, cv0_4, cv0_5, cv0_6, cvl0, cv1_3, cv1_4, cv1_5, cv1_6, cvl1, cv2_3, cv2_4, cv2_5, cv2_6, cvl2, cv3, cv3_4, cv3_5, cv3_6, cvl3, cv4, cv4_3, cv4_5, cv4_6, cvl4, cv5, cv5_3, cv5_4, cv5_6, cv6, cv6_3, cv6_4, cv6_5] | simp only [reduceIte, if_true, if_false, Bool.false_eq_true, reduceCtorEq, hsh] | with_reducible refine head_of t_divrem_school_8.eq_1 ?_ | with_reducible refine head_of t_divrem_school_7.eq_1 ?_ | with_reducible refine head_of t_divrem_school_6.eq_1 ?_ | with_reducible refine head_of t_divrem_school_5.eq_1 ?_ | with_reducible refine head_of t_divrem_school_4.eq_1 ?_ | with_reducible refine head_of t_divrem_school_3.eq_1 ?_ | with_reducible refine head_of t_divrem_school_2.eq_1 ?_ | with_reducible refine head_of t_divrem_school_1.eq_1 ?_))
      have xx2 := xx1.trans x2
      refine ⟨by simp, fun rz hrz => ?_⟩
      have x3 : Ext H2 (updH H2 rz (O.list [V.int 0])) := Ext.upd hrz
      refine len_iv (x3 _ _ (xx2 _ _ ha)) (by (with_reducible exact c20b (by assumption))) ?_
      (repeat (first | dsimp only [sCons, sNil, sAssign, sIf, sRet, sNever, eCall, aNil, aCons, cInt, cBin, eNeg, eList, eTup, eIdx, eSlice, tCmp, pNone, oAdd_i, oSub_i, oMul_i, kLt_i, kEq_i, oAdd_r, oMul_r, fLen_r, vBool_b, vInt_i, vRef_r, LoopQ_next, LoopQ_ret, retQ_next, retQ_ret, cv0_3, cv0_4, cv0_5, cv0_6, cvl0, cv1_3, cv1_4, cv1_5, cv1_6, cvl1, cv2_3, cv2_4, cv2_5, cv2_6, cvl2, cv3, cv3_4, cv3_5, cv3_6, cvl3, cv4, cv4_3, cv4_5, cv4_6, cvl4, cv5, cv5_3, cv5_4, cv5_6, cv6, cv6_3, cv6_4, cv6_5] | simp only [reduceIte, if_true, if_false, Bool.false_eq_true, reduceCtorEq] | with_reducible refine head_of t_divrem_school_8.eq_1 ?_ | with_reducible refine head_of t_divrem_school_7.eq_1 ?_ | with_reducible refine head_of t_divrem_school_6.eq_1 ?_ | with_reducible refine head_of t_divrem_school_5.eq_1 ?_ | with_reducible refine head_of t_divrem_school_4.eq_1 ?_ | with_reducible refine head_of t_divrem_school_3.eq_1 ?_ | with_reducible refine head_of t_divrem_school_2.eq_1 ?_ | with_reducible refine head_of t_divrem_school_1.eq_1 ?_))
      refine len_iv (x3 _ _ hrr) (by (clear hly hw hw9 hne hQ hB hB9 hBpos hyl hyv hxv hsg hlt hge hll h1 hd htop htd hsw hsh hds hps hpe hdv hdl hBl hyt hpl hdlt hdl' hylow hDge hDge1 hdtop hzv; lia)) ?_
      (repeat (first | dsimp only [sCons, sNil, sAssign, sIf, sRet, sNever, eCall, aNil, aCons, cInt, cBin, eNeg, eList, eTup, eIdx, eSlice, tCmp, pNone, oAdd_i, oSub_i, oMul_i, kLt_i, kEq_i, oAdd_r, oMul_r, fLen_r, vBool_b, vInt_i, vRef_r, LoopQ_next, LoopQ_ret, retQ_next, retQ_ret, cv0_3, cv0_4, cv0_5, cv0_6, cvl0, cv1_3, cv1_4, cv1_5, cv1_6, cvl1, cv2_3, cv2_4, cv2_5, cv2_6, cvl2, cv3, cv3_4, cv3_5, cv3_6, cvl3, cv4, cv4_3, cv4_5, cv4_6, cvl4, cv5, cv5_3, cv5_4, cv5_6, cv6, cv6_3, cv6_4, cv6_5] | simp only [reduceIte, if_true, if_false, Bool.false_eq_true, reduceCtorEq] | with_reducible refine head_of t_divrem_school_8.eq_1 ?_ | with_reducible refine head_of t_divrem_school_7.eq_1 ?_ | with_reducible refine head_of t_divrem_school_6.eq_1 ?_ | with_reducible refine head_of t_divrem_school_5.eq_1 ?_ | with_reducible refine head_of t_divrem_school_4.eq_1 ?_ | with_reducible refine head_of t_divrem_school_3.eq_1 ?_ | with_reducible refine head_of t_divrem_school_2.eq_1 ?_ | with_reducible refine head_of t_divrem_school_1.eq_1 ?_))
      have ep : (xs.length : Int) + 1 - zs.length = ((xs.length + 1 - zs.length : Nat) : Int) := by (clear hlx hly hw hw9 hne hQ hB hB9 hBpos hyl hyv hxv hsg hlt hge hll h1 hd htop htd hsw hsh hds hps hpe hdv hdl hBl hyt hpl hdlt hdl' hylow hDge hDge1 hdtop hzv; lia)
      refine ⟨.int 0, updH_same .., by (clear hlx hly hw hw9 hne hQ hB hB9 hBpos hyl hyv hxv hsg hlt hge hll h1 hd htop htd hsw hsh hds hps hpe hdv hdl hBl hyt hpl hdlt hdl' hylow hDge hDge1 hdtop hzv hzl; lia), by (clear hly hw hw9 hne hQ hB hB9 hBpos hyl hyv hxv hsg hlt hge h1 hd htop htd hsw hsh hds hps hpe hdv hdl hBl hyt hpl hdlt hdl' hylow hDge hDge1 hdtop hzv hzl ep; lia), fun ry hry => ?_⟩
      have x4 := x3.trans (Ext.upd (o := O.list (List.replicate (Int.toNat ((xs.length : Int) + 1 - zs.length)) (V.int 0))) hry)
      rw [ep, Int.toNat_natCast, iv_zeros] at x4 ⊢
      refine ⟨_, _, x4 _ _ hrr, updH_same .., by rw [iv_length, iv_length]; simp; (clear hly hw hw9 hne hQ hB hB9 hBpos hyl hyv hxv hsg hlt hge hll h1 hd htop htd hsw hsh hds hps hpe hdv hdl hBl hyt hpl hdlt hdl' hylow hDge hDge1 hdtop hzv hzl; lia), fun rR hrR => ?_⟩
      have x5 := x4.trans (Ext.upd (o := O.list (iv zs ++ iv (List.replicate (xs.length + 1 - zs.length) 0))) hrR)
      have eiv : iv zs ++ iv (List.replicate (xs.length + 1 - zs.length) 0) = iv (zs ++ List.replicate (xs.length + 1 - zs.length) 0) := by simp [iv]
      rw [eiv] at x5 ⊢
      generalize hR : zs ++ List.replicate (xs.length + 1 - zs.length) 0 = R at x5 ⊢
      have hRl : R.length = xs.length + 1 := by rw [← hR]; simp; (clear hlx hly hw hw9 hne hQ hB hB9 hBpos hyl hyv hxv hsg hlt hge hll h1 hd htop htd hsw hsh hds hps hpe hdv hdl hBl hyt hpl hdlt hdl' hylow hDge hDge1 hdtop hzv hzl; lia)
      have dR : Dig (2 ^ w) R := by rw [← hR]; exact dz.append (Dig.zeros hBpos _)
      have hRv : val (2 ^ w) R = val (2 ^ w) xs * 2 ^ s := by rw [← hR, val_append, val_zeros, hzv]; simp
      generalize hH5 : updH _ rR (O.list (iv R)) = H5 at x5 ⊢
      have hH5R : H5 rR = some (.list (iv R)) := by rw [← hH5, updH_same]
      have hrR2 : H2 rR = none := x4.free hrR
      have hrR0 : H rR = none := xx2.free hrR2
      have hH5d : H5 rd = some (.list (iv ds)) := x5 _ _ (x2 _ _ hrd)
      have nRd : rR ≠ rd := by
        rintro rfl
        rw [x2 _ _ hrd] at hrR2
        cases hrR2
      have hxl := val_lt hBpos dx
      have hmain : val (2 ^ w) R < val (2 ^ w) ds * (2 ^ w) ^ (xs.length + 1 - ys.length) := by
        have a1 : val (2 ^ w) xs * 2 ^ s < (2 ^ w) ^ xs.length * 2 ^ s := Int.mul_lt_mul_of_pos_right hxl hps
        have a2 : (2 ^ w) ^ (ys.length - 1) * 2 ^ s * (2 ^ w) ^ (xs.length + 1 - ys.length) ≤ val (2 ^ w) ds * (2 ^ w) ^ (xs.length + 1 - ys.length) := Int.mul_le_mul_of_nonneg_right hDge (Int.le_of_lt (pow_pos' hBpos _))
        have a3 : (2 ^ w : Int) ^ (ys.length - 1) * (2 ^ w) ^ (xs.length + 1 - ys.length) = (2 ^ w) ^ xs.length := by rw [← Int.pow_add]; congr 1; (clear hlx hly hw hw9 hne hQ hB hB9 hBpos hyv hxv hsg hlt hge h1 hd htop htd hsw hsh hds hps hpe hdv hdl hBl hyt hpl hdlt hdl' hylow hDge hDge1 hdtop hzv hzl ep hRl hRv nRd hxl a1 a2; lia)
        have a4 : (2 ^ w : Int) ^ (ys.length - 1) * 2 ^ s * (2 ^ w) ^ (xs.length + 1 - ys.length) = (2 ^ w) ^ xs.length * 2 ^ s := by rw [← a3]; grind
        (clear hlx hly hw hw9 hne hQ hB hB9 hBpos hyl hyv hxv hsg hlt hge hll h1 hd htop htd hsw hsh hds hps hpe hdv hdl hBl hyt hpl hdlt hdl' hylow hDge hDge1 hdtop hzv hzl ep hRl nRd hxl a3; lia)
      (repeat (first | dsimp only [sCons, sNil, sAssign, sIf, sRet, sNever, eCall, aNil, aCons, cInt, cBin, eNeg, eList, eTup, eIdx, eSlice, tCmp, pNone, oAdd_i, oSub_i, oMul_i, kLt_i, kEq_i, oAdd_r, oMul_r, fLen_r, vBool_b, vInt_i, vRef_r, LoopQ_next, LoopQ_ret, retQ_next, retQ_ret, cv0_3, cv0_4, cv0_5, cv0_6, cvl0, cv1_3, cv1_4, cv1_5, cv1_6, cvl1, cv2_3, cv2_4, cv2_5, cv2_6, cvl2, cv3, cv3_4, cv3_5, cv3_6, cvl3, cv4, cv4_3, cv4_5, cv4_6, cvl4, cv5, cv5_3, cv5_4, cv5_6, cv6, cv6_3, cv6_4, cv6_5] | simp only [reduceIte, if_true, if_false, Bool.false_eq_true, reduceCtorEq, hsh] | with_reducible refine head_of t_divrem_school_8.eq_1 ?_ | with_reducible refine head_of t_divrem_school_7.eq_1 ?_ | with_reducible refine head_of t_divrem_school_6.eq_1 ?_ | with_reducible refine head_of t_divrem_school_5.eq_1 ?_ | with_reducible refine head_of t_divrem_school_4.eq_1 ?_ | with_reducible refine head_of t_divrem_school_3.eq_1 ?_ | with_reducible refine head_of t_divrem_school_2.eq_1 ?_ | with_reducible refine head_of t_divrem_school_1.eq_1 ?_))
      refine ⟨rR, rd, R, ds, w, xs.length + 1 - ys.length, rfl, hH5R, hH5d, nRd, by (clear hlx hly hw hw9 hne hQ hB hB9 hBpos hyl hyv hxv hsg hlt hge h1 hd htop htd hsw hsh hds hps hpe hdv hdl hBl hyt hpl hdlt hylow hDge hDge1 hdtop hzv hzl ep hRv nRd hxl hmain; lia), by (clear hly hw hw9 hne hQ hB hB9 hBpos hyl hyv hxv hsg hlt hge hll h1 hd htop htd hsw hsh hds hps hpe hdv hdl hBl hyt hpl hdlt hdl' hylow hDge hDge1 hdtop hzv hzl ep hRv nRd hxl hmain; lia), by (clear hlx hly hw hw9 hne hQ hB hB9 hBpos hyv hxv hsg hlt hge hll hd htop htd hsw hsh hds hps hpe hdv hdl hBl hyt hpl hdlt hylow hDge hDge1 hdtop hzv hzl ep hRl hRv nRd hxl hmain; lia), hw, hw9, dR, dd, hdtop, hmain, fun rq H6 qs R' x6 hrq0 hH6R hH6q hql dq hRl' dR' hdiv hrem => ?_⟩
      (repeat (first | dsimp only [sCons, sNil, sAssign, sIf, sRet, sNever, eCall, aNil, aCons, cInt, cBin, eNeg, eList, eTup, eIdx, eSlice, tCmp, pNone, oAdd_i, oSub_i, oMul_i, kLt_i, kEq_i, oAdd_r, oMul_r, fLen_r, vBool_b, vInt_i, vRef_r, LoopQ_next, LoopQ_ret, retQ_next, retQ_ret, cv0_3, cv0_4, cv0_5, cv0_6, cvl0, cv1_3, cv1_4, cv1_5, cv1_6, cvl1, cv2_3, cv2_4, cv2_5, cv2_6, cvl2, cv3, cv3_4, cv3_5, cv3_6, cvl3, cv4, cv4_3, cv4_5, cv4_6, cvl4, cv5, cv5_3, cv5_4, cv5_6, cv6, cv6_3, cv6_4, cv6_5] | simp only [reduceIte, if_true, if_false, Bool.false_eq_true, reduceCtorEq, hsh] | with_reducible refine head_of t_divrem_school_8.eq_1 ?_ | with_reducible refine head_of t_divrem_school_7.eq_1 ?_ | with_reducible refine head_of t_divrem_school_6.eq_1 ?_ | with_reducible refine head_of t_divrem_school_5.eq_1 ?_ | with_reducible refine head_of t_divrem_school_4.eq_1 ?_ | with_reducible refine head_of t_divrem_school_3.eq_1 ?_ | with_reducible refine head_of t_divrem_school_2.eq_1 ?_ | with_reducible refine head_of t_divrem_school_1.eq_1 ?_))
      have xx6 : Ext H H6 := (xx2.trans x5).through hrR0 x6
      refine ⟨rq, qs, rfl, hH6q, by (clear hly hw hw9 hne hQ hB hB9 hBpos hyl hyv hxv hsg hlt hge hll h1 hd htop htd hsw hsh hds hps hpe hdv hdl hBl hyt hpl hdlt hdl' hylow hDge hDge1 hdtop hzv hzl ep hRl hRv nRd hxl hmain hRl' hdiv hrem; omega), fun r1 H7 q1 hq1 x7 hr10 hr1 => ?_⟩
      (repeat (first | dsimp only [sCons, sNil, sAssign, sIf, sRet, sNever, eCall, aNil, aCons, cInt, cBin, eNeg, eList, eTup, eIdx, eSlice, tCmp, pNone, oAdd_i, oSub_i, oMul_i, kLt_i, kEq_i, oAdd_r, oMul_r, fLen_r, vBool_b, vInt_i, vRef_r, LoopQ_next, LoopQ_ret, retQ_next, retQ_ret, cv0_3, cv0_4, cv0_5, cv0_6, cvl0, cv1_3, cv1_4, cv1_5, cv1_6, cvl1, cv2_3, cv2_4, cv2_5, cv2_6, cvl2, cv3, cv3_4, cv3_5, cv3_6, cvl3, cv4, cv4_3, cv4_5, cv4_6, cvl4, cv5, cv5_3, cv5_4, cv5_6, cv6, cv6_3, cv6_4, cv6_5] | simp only [reduceIte, if_true, if_false, Bool.false_eq_true, reduceCtorEq, hsh] | with_reducible refine head_of t_divrem_school_8.eq_1 ?_ | with_reducible refine head_of t_divrem_school_7.eq_1 ?_ | with_reducible refine head_of t_divrem_school_6.eq_1 ?_ | with_reducible refine head_of t_divrem_school_5.eq_1 ?_ | with_reducible refine head_of t_divrem_school_4.eq_1 ?_ | with_reducible refine head_of t_divrem_school_3.eq_1 ?_ | with_reducible refine head_of t_divrem_school_2.eq_1 ?_ | with_reducible refine head_of t_divrem_school_1.eq_1 ?_))
      refine ⟨rR, R', rfl, x7 _ _ hH6R, by (clear hly hw hw9 hne hQ hB hB9 hBpos hyl hyv hxv hsg hlt hge hll h1 hd htop htd hsw hsh hds hps hpe hdv hdl hBl hyt hpl hdlt hdl' hylow hDge hDge1 hdtop hzv hzl ep hRv nRd hxl hmain hql hdiv hrem; lia), fun r2 H8 n1 hn1 x8 hr20 hr2 => ?_⟩
      (repeat (first | dsimp only [sCons, sNil, sAssign, sIf, sRet, sNever, eCall, aNil, aCons, cInt, cBin, eNeg, eList, eTup, eIdx, eSlice, tCmp, pNone, oAdd_i, oSub_i, oMul_i, kLt_i, kEq_i, oAdd_r, oMul_r, fLen_r, vBool_b, vInt_i, vRef_r, LoopQ_next, LoopQ_ret, retQ_next, retQ_ret, cv0_3, cv0_4, cv0_5, cv0_6, cvl0, cv1_3, cv1_4, cv1_5, cv1_6, cvl1, cv2_3, cv2_4, cv2_5, cv2_6, cvl2, cv3, cv3_4, cv3_5, cv3_6, cvl3, cv4, cv4_3, cv4_5, cv4_6, cvl4, cv5, cv5_3, cv5_4, cv5_6, cv6, cv6_3, cv6_4, cv6_5] | simp only [reduceIte, if_true, if_false, Bool.false_eq_true, reduceCtorEq, hsh] | with_reducible refine head_of t_divrem_school_8.eq_1 ?_ | with_reducible refine head_of t_divrem_school_7.eq_1 ?_ | with_reducible refine head_of t_divrem_school_6.eq_1 ?_ | with_reducible refine head_of t_divrem_school_5.eq_1 ?_ | with_reducible refine head_of t_divrem_school_4.eq_1 ?_ | with_reducible refine head_of t_divrem_school_3.eq_1 ?_ | with_reducible refine head_of t_divrem_school_2.eq_1 ?_ | with_reducible refine head_of t_divrem_school_1.eq_1 ?_))
      have hn1r := hn1.row dR'
      have hn1l : n1.length ≤ R'.length := by
        obtain ⟨_, k, e⟩ := hn1
        rw [e]; simp
      refine ⟨r2, n1, s, w, rfl, hr2, by (clear hly hw hw9 hne hQ hB hB9 hBpos hyl hyv hxv hsg hlt hge h1 hd htop htd hsw hsh hds hps hpe hdv hdl hBl hyt hpl hdlt hdl' hylow hDge hDge1 hdtop hzv hzl ep hRv nRd hxl hmain hql hdiv hrem; lia), hw, hw9, hsw, hn1r.dig, fun r3 H9 rs x9 hr30 hr3 hrs => ?_⟩
      (repeat (first | dsimp only [sCons, sNil, sAssign, sIf, sRet, sNever, eCall, aNil, aCons, cInt, cBin, eNeg, eList, eTup, eIdx, eSlice, tCmp, pNone, oAdd_i, oSub_i, oMul_i, kLt_i, kEq_i, oAdd_r, oMul_r, fLen_r, vBool_b, vInt_i, vRef_r, LoopQ_next, LoopQ_ret, retQ_next, retQ_ret, cv0_3, cv0_4, cv0_5, cv0_6, cvl0, cv1_3, cv1_4, cv1_5, cv1_6, cvl1, cv2_3, cv2_4, cv2_5, cv2_6, cvl2, cv3, cv3_4, cv3_5, cv3_6, cvl3, cv4, cv4_3, cv4_5, cv4_6, cvl4, cv5, cv5_3, cv5_4, cv5_6, cv6, cv6_3, cv6_4, cv6_5] | simp only [reduceIte, if_true, if_false, Bool.false_eq_true, reduceCtorEq, hsh] | with_reducible refine head_of t_divrem_school_8.eq_1 ?_ | with_reducible refine head_of t_divrem_school_7.eq_1 ?_ | with_reducible refine head_of t_divrem_school_6.eq_1 ?_ | with_reducible refine head_of t_divrem_school_5.eq_1 ?_ | with_reducible refine head_of t_divrem_school_4.eq_1 ?_ | with_reducible refine head_of t_divrem_school_3.eq_1 ?_ | with_reducible refine head_of t_divrem_school_2.eq_1 ?_ | with_reducible refine head_of t_divrem_school_1.eq_1 ?_))
      refine ⟨by simp, fun t ht => ?_⟩
      have x10 := Ext.upd (o := O.tup [V.ref r1, V.ref r3]) ht
      -- the arithmetic
      have hR'0 := val_nonneg hBpos dR'
      rw [hRv, hdv] at hdiv
      rw [hdv] at hrem
      have hfac : val (2 ^ w) R' = (val (2 ^ w) xs - val (2 ^ w) qs * val (2 ^ w) ys) * 2 ^ s := by grind
      generalize hrm : val (2 ^ w) xs - val (2 ^ w) qs * val (2 ^ w) ys = rem at hfac
      have hrem0 : 0 ≤ rem := by
        by_cases hz : 0 ≤ rem
        · exact hz
        · have := Int.mul_lt_mul_of_pos_right (show rem < 0 by (clear hlx hly hw hw9 hne hQ hB hB9 hBpos hyl hyv hxv hsg hlt hge hll h1 hd htop htd hsw hsh hds hps hpe hdv hdl hBl hyt hpl hdlt hdl' hylow hDge hDge1 hdtop hzv hzl ep hRl hRv nRd hxl hmain hql hRl' hdiv hrem hn1l hR'0 hrm hfac; lia)) hps
          (clear hlx hly hw hw9 hne hQ hB hB9 hBpos hyl hyv hxv hsg hlt hge hll h1 hd htop htd hsw hsh hds hps hpe hdv hdl hBl hyt hpl hdlt hdl' hylow hDge hDge1 hdtop hzv hzl ep hRl hRv nRd hxl hmain hql hRl' hdiv hrem hn1l hrm hz; lia)
      have hrem1 : rem < val (2 ^ w) ys := by
        rw [hfac] at hrem
        exact Int.lt_of_mul_lt_mul_right hrem (Int.le_of_lt hps)
      obtain ⟨e1, e2⟩ := divmod_eq (a := val (2 ^ w) xs) (q := val (2 ^ w) qs) (d := val (2 ^ w) ys) (r := rem) (by (clear hlx hly hw hw9 hne hQ hB hB9 hBpos hyl hyv hxv hsg hlt hge hll h1 hd htop htd hsw hsh hds hps hpe hdv hdl hBl hyt hpl hdlt hdl' hylow hDge hDge1 hdtop hzv hzl ep hRl hRv nRd hxl hmain hql hRl' hdiv hrem hn1l hR'0 hfac hrem0 hrem1; lia)) hrem0 hrem1
      have hrs' : val (2 ^ w) n1 / 2 ^ s = rem := by rw [hn1r.eq, hfac, Int.mul_ediv_cancel _ (by (with_reducible exact cpz (by assumption)))]
      rw [hrs'] at hrs
      refine hQ t r1 r3 _ q1 rs (xx6.trans (x7.trans (x8.trans (x9.trans x10)))) (updH_same ..) (x10 _ _ (x9 _ _ (x8 _ _ hr1))) (x10 _ _ hr3) ?_ ?_
      · rw [e1]; exact hq1.row dq
      · rw [e2]; exact hrs
end Mine
end

section
open PySem
set_option linter.unusedVariables false
set_option linter.unusedSimpArgs false
namespace Mine

noncomputable def PoolOk (p : Nat) (H : Hp) : Prop := ∃ g, ∃ k s : Int, ∃ gs : List Int, H p = some (.list [.ref g, .int k, .int s]) ∧ H g = some (.list (iv gs)) ∧ g ≠ p ∧ 0 ≤ k ∧ k ≤ gs.length ∧ gs.length ≤ 1000 ∧ 0 ≤ s ∧ s < 2 ^ 40
theorem PoolOk.ext {p : Nat} {H H' : Hp} (h : PoolOk p H) (x : Ext H H') : PoolOk p H' := by
  obtain ⟨g, k, s, gs, h1, h2, h3⟩ := h
  exact ⟨g, k, s, gs, x _ _ h1, x _ _ h2, h3⟩
theorem PoolOk.there {p : Nat} {H : Hp} (h : PoolOk p H) : ∃ o, H p = some o := by
  obtain ⟨g, k, s, gs, h1, _⟩ := h
  exact ⟨_, h1⟩
theorem idx_at {r : Nat} {n : Int} {H : Hp} {vs : List V} {v : V} {Q : V → Hp → Prop} (h : H r = some (.list vs)) (h0 : 0 ≤ n) (h1 : n < 2 ^ 62) (hv : vs[n.toNat]? = some v) (hq : Q v H) : idxK r n H Q := ⟨_, v, h, .inl ⟨h0, h1, hv⟩, hq⟩

noncomputable def P_law_draw : PF := fun args H Q => ∃ p many, args = [.ref p, .int many] ∧ PoolOk p H ∧ 0 < many ∧ ∀ z H', 0 ≤ z → z < many → ExtBut p H H' → PoolOk p H' → Q (.int z) H'

noncomputable def t_law_draw_2 : PS := (sCons (sRet (cBin oMod (cBin oFdiv (eIdx (cVar 0) (cInt 2)) (cInt 7)) (cVar 1))) sNil)
noncomputable def t_law_draw_0i_1 : PS := (sCons (sRet (cBin oMod (eIdx (eIdx (cVar 0) (cInt 0)) (cBin oSub (eIdx (cVar 0) (cInt 1)) (cInt 1))) (cVar 1))) sNil)
noncomputable def t_law_draw_1 : PS := (sCons (sSetIdx (cVar 0) (cInt 2) (cBin oMod (cBin oAdd (cBin oMul (eIdx (cVar 0) (cInt 2)) (cInt 4021)) (cInt 577)) (cInt 1000003))) t_law_draw_2)
noncomputable def ps_law_draw : PS := (sCons (sIf (tCmp kLt (eIdx (cVar 0) (cInt 1)) (eCall fLen (aCons (eIdx (cVar 0) (cInt 0)) aNil))) (sCons (sSetIdx (cVar 0) (cInt 1) (cBin oAdd (eIdx (cVar 0) (cInt 1)) (cInt 1))) t_law_draw_0i_1) sNil) t_law_draw_1)

theorem pu_law_draw (args : List V) (H : Hp) (Q : V → Hp → Prop) (h : P_law_draw args H Q) : args.length = 2 ∧ ps_law_draw (fun i => args[i]?) H (retQ Q) := by
  obtain ⟨p, many, rfl, ⟨g, k, s, gs, hp, hg, hgp, hk0, hk, hl, hs0, hs⟩, hm, hQ⟩ := h
  refine ⟨rfl, ?_⟩
  (repeat (first | dsimp only [sCons, sNil, sSetIdx, sIf, sRet, eCall, aNil, aCons, cInt, cBin, eIdx, tCmp, oAdd_i, oSub_i, oMul_i, oFdiv_i, oMod_i, kLt_i, oAdd_r, oMul_r, fLen_r, vBool_b, vInt_i, vRef_r, LoopQ_next, LoopQ_ret, retQ_next, retQ_ret, cvl0, cvl1, ps_law_draw] | simp only [reduceIte, if_true, if_false, Bool.false_eq_true, reduceCtorEq] | with_reducible refine head_of t_law_draw_2.eq_1 ?_ | with_reducible refine head_of t_law_draw_0i_1.eq_1 ?_ | with_reducible refine head_of t_law_draw_1.eq_1 ?_))
  refine idx_at hp (by decide) (by decide) rfl (idx_at hp (by decide) (by decide) rfl ?_)
  (repeat (first | dsimp only [sCons, sNil, sSetIdx, sIf, sRet, eCall, aNil, aCons, cInt, cBin, eIdx, tCmp, oAdd_i, oSub_i, oMul_i, oFdiv_i, oMod_i, kLt_i, oAdd_r, oMul_r, fLen_r, vBool_b, vInt_i, vRef_r, LoopQ_next, LoopQ_ret, retQ_next, retQ_ret, cvl0, cvl1] | simp only [reduceIte, if_true, if_false, Bool.false_eq_true, reduceCtorEq] | with_reducible refine head_of t_law_draw_2.eq_1 ?_ | with_reducible refine head_of t_law_draw_0i_1.eq_1 ?_ | with_reducible refine head_of t_law_draw_1.eq_1 ?_))
  refine len_iv hg (by (with_reducible exact c20 (by assumption))) ?_
  (repeat (first | dsimp only [sCons, sNil, sSetIdx, sIf, sRet, eCall, aNil, aCons, cInt, cBin, eIdx, tCmp, oAdd_i, oSub_i, oMul_i, oFdiv_i, oMod_i, kLt_i, oAdd_r, oMul_r, fLen_r, vBool_b, vInt_i, vRef_r, LoopQ_next, LoopQ_ret, retQ_next, retQ_ret, cvl0, cvl1] | simp only [reduceIte, if_true, if_false, Bool.false_eq_true, reduceCtorEq] | with_reducible refine head_of t_law_draw_2.eq_1 ?_ | with_reducible refine head_of t_law_draw_0i_1.eq_1 ?_ | with_reducible refine head_of t_law_draw_1.eq_1 ?_))
  by_cases hlt : k < gs.length
  · rw [decide_eq_true hlt]
    (repeat (first | dsimp only [sCons, sNil, sSetIdx, sIf, sRet, eCall, aNil, aCons, cInt, cBin, eIdx, tCmp, oAdd_i, oSub_i, oMul_i, oFdiv_i, oMod_i, kLt_i, oAdd_r, oMul_r, fLen_r, vBool_b, vInt_i, vRef_r, LoopQ_next, LoopQ_ret, retQ_next, retQ_ret, cvl0, cvl1] | simp only [reduceIte, if_true, if_false, Bool.false_eq_true, reduceCtorEq] | with_reducible refine head_of t_law_draw_2.eq_1 ?_ | with_reducible refine head_of t_law_draw_0i_1.eq_1 ?_ | with_reducible refine head_of t_law_draw_1.eq_1 ?_))
    refine idx_at hp (by decide) (by decide) rfl ?_
    (repeat (first | dsimp only [sCons, sNil, sSetIdx, sIf, sRet, eCall, aNil, aCons, cInt, cBin, eIdx, tCmp, oAdd_i, oSub_i, oMul_i, oFdiv_i, oMod_i, kLt_i, oAdd_r, oMul_r, fLen_r, vBool_b, vInt_i, vRef_r, LoopQ_next, LoopQ_ret, retQ_next, retQ_ret, cvl0, cvl1] | simp only [reduceIte, if_true, if_false, Bool.false_eq_true, reduceCtorEq] | with_reducible refine head_of t_law_draw_2.eq_1 ?_ | with_reducible refine head_of t_law_draw_0i_1.eq_1 ?_ | with_reducible refine head_of t_law_draw_1.eq_1 ?_))
    refine ⟨_, hp, by decide, by simp, by decide, ?_⟩
    rw [show ([V.ref g, V.int k, V.int s].set (Int.toNat 1) (V.int (k + 1))) = [V.ref g, V.int (k + 1), V.int s] from rfl]
    generalize hH1 : updH H p (.list [V.ref g, V.int (k + 1), V.int s]) = H1
    have hp1 : H1 p = some (.list [V.ref g, V.int (k + 1), V.int s]) := by rw [← hH1, updH_same]
    have x1 : ExtBut p H H1 := by rw [← hH1]; exact .upd
    have hg1 : H1 g = some (.list (iv gs)) := x1 _ _ hgp hg
    (repeat (first | dsimp only [sCons, sNil, sSetIdx, sIf, sRet, eCall, aNil, aCons, cInt, cBin, eIdx, tCmp, oAdd_i, oSub_i, oMul_i, oFdiv_i, oMod_i, kLt_i, oAdd_r, oMul_r, fLen_r, vBool_b, vInt_i, vRef_r, LoopQ_next, LoopQ_ret, retQ_next, retQ_ret, cvl0, cvl1] | simp only [reduceIte, if_true, if_false, Bool.false_eq_true, reduceCtorEq] | with_reducible refine head_of t_law_draw_2.eq_1 ?_ | with_reducible refine head_of t_law_draw_0i_1.eq_1 ?_ | with_reducible refine head_of t_law_draw_1.eq_1 ?_))
    refine idx_at hp1 (by decide) (by decide) rfl (idx_at hp1 (by decide) (by decide) rfl ?_)
    (repeat (first | dsimp only [sCons, sNil, sSetIdx, sIf, sRet, eCall, aNil, aCons, cInt, cBin, eIdx, tCmp, oAdd_i, oSub_i, oMul_i, oFdiv_i, oMod_i, kLt_i, oAdd_r, oMul_r, fLen_r, vBool_b, vInt_i, vRef_r, LoopQ_next, LoopQ_ret, retQ_next, retQ_ret, cvl0, cvl1] | simp only [reduceIte, if_true, if_false, Bool.false_eq_true, reduceCtorEq] | with_reducible refine head_of t_law_draw_2.eq_1 ?_ | with_reducible refine head_of t_law_draw_0i_1.eq_1 ?_ | with_reducible refine head_of t_law_draw_1.eq_1 ?_))
    refine idx_iv hg1 (by (clear hgp hk hl hs0 hs hm hQ hlt; lia)) (by (clear hp hg hgp hk0 hk hl hs0 hs hm hQ hH1 hp1 x1 hg1; lia)) (by (with_reducible exact c20 (by assumption))) ?_
    (repeat (first | dsimp only [sCons, sNil, sSetIdx, sIf, sRet, eCall, aNil, aCons, cInt, cBin, eIdx, tCmp, oAdd_i, oSub_i, oMul_i, oFdiv_i, oMod_i, kLt_i, oAdd_r, oMul_r, fLen_r, vBool_b, vInt_i, vRef_r, LoopQ_next, LoopQ_ret, retQ_next, retQ_ret, cvl0, cvl1] | simp only [reduceIte, if_true, if_false, Bool.false_eq_true, reduceCtorEq] | with_reducible refine head_of t_law_draw_2.eq_1 ?_ | with_reducible refine head_of t_law_draw_0i_1.eq_1 ?_ | with_reducible refine head_of t_law_draw_1.eq_1 ?_))
    refine ⟨by (with_reducible exact cpz (by assumption)), ?_⟩
    rw [fmod_pos (by (with_reducible exact Int.le_of_lt (by assumption)))]
    exact hQ _ H1 (Int.emod_nonneg _ (by (with_reducible exact cpz (by assumption)))) (Int.emod_lt_of_pos _ hm) x1 ⟨g, k + 1, s, gs, hp1, hg1, hgp, by (clear hgp hk hl hs0 hs hm hQ hlt; lia), by (clear hp hg hgp hk0 hk hl hs0 hs hm hQ hH1 hp1 x1 hg1; lia), hl, hs0, hs⟩
  · rw [decide_eq_false hlt]
    (repeat (first | dsimp only [sCons, sNil, sSetIdx, sIf, sRet, eCall, aNil, aCons, cInt, cBin, eIdx, tCmp, oAdd_i, oSub_i, oMul_i, oFdiv_i, oMod_i, kLt_i, oAdd_r, oMul_r, fLen_r, vBool_b, vInt_i, vRef_r, LoopQ_next, LoopQ_ret, retQ_next, retQ_ret, cvl0, cvl1] | simp only [reduceIte, if_true, if_false, Bool.false_eq_true, reduceCtorEq] | with_reducible refine head_of t_law_draw_2.eq_1 ?_ | with_reducible refine head_of t_law_draw_0i_1.eq_1 ?_ | with_reducible refine head_of t_law_draw_1.eq_1 ?_))
    refine idx_at hp (by decide) (by decide) rfl ?_
    (repeat (first | dsimp only [sCons, sNil, sSetIdx, sIf, sRet, eCall, aNil, aCons, cInt, cBin, eIdx, tCmp, oAdd_i, oSub_i, oMul_i, oFdiv_i, oMod_i, kLt_i, oAdd_r, oMul_r, fLen_r, vBool_b, vInt_i, vRef_r, LoopQ_next, LoopQ_ret, retQ_next, retQ_ret, cvl0, cvl1] | simp only [reduceIte, if_true, if_false, Bool.false_eq_true, reduceCtorEq] | with_reducible refine head_of t_law_draw_2.eq_1 ?_ | with_reducible refine head_of t_law_draw_0i_1.eq_1 ?_ | with_reducible refine head_of t_law_draw_1.eq_1 ?_))
    refine ⟨Small.le (by (with_reducible exact cm62 (by assumption))) (by (clear hgp hk0 hk hl hs0 hm hQ hlt; lia)), Small.le (by decide) (by decide), by decide, ?_⟩
    rw [fmod_pos (by decide)]
    refine ⟨_, hp, by decide, by simp, by decide, ?_⟩
    have h1 := Int.emod_nonneg (s * 4021 + 577) (show (1000003 : Int) ≠ 0 by decide)
    have h2 := Int.emod_lt_of_pos (s * 4021 + 577) (show (0 : Int) < 1000003 by decide)
    generalize (s * 4021 + 577) % 1000003 = s' at h1 h2 ⊢
    rw [show ([V.ref g, V.int k, V.int s].set (Int.toNat 2) (V.int s')) = [V.ref g, V.int k, V.int s'] from rfl]
    generalize hH1 : updH H p (.list [V.ref g, V.int k, V.int s']) = H1
    have hp1 : H1 p = some (.list [V.ref g, V.int k, V.int s']) := by rw [← hH1, updH_same]
    have x1 : ExtBut p H H1 := by rw [← hH1]; exact .upd
    (repeat (first | dsimp only [sCons, sNil, sSetIdx, sIf, sRet, eCall, aNil, aCons, cInt, cBin, eIdx, tCmp, oAdd_i, oSub_i, oMul_i, oFdiv_i, oMod_i, kLt_i, oAdd_r, oMul_r, fLen_r, vBool_b, vInt_i, vRef_r, LoopQ_next, LoopQ_ret, retQ_next, retQ_ret, cvl0, cvl1] | simp only [reduceIte, if_true, if_false, Bool.false_eq_true, reduceCtorEq] | with_reducible refine head_of t_law_draw_2.eq_1 ?_ | with_reducible refine head_of t_law_draw_0i_1.eq_1 ?_ | with_reducible refine head_of t_law_draw_1.eq_1 ?_))
    refine idx_at hp1 (by decide) (by decide) rfl ?_
    (repeat (first | dsimp only [sCons, sNil, sSetIdx, sIf, sRet, eCall, aNil, aCons, cInt, cBin, eIdx, tCmp, oAdd_i, oSub_i, oMul_i, oFdiv_i, oMod_i, kLt_i, oAdd_r, oMul_r, fLen_r, vBool_b, vInt_i, vRef_r, LoopQ_next, LoopQ_ret, retQ_next, retQ_ret, cvl0, cvl1] | simp only [reduceIte, if_true, if_false, Bool.false_eq_true, reduceCtorEq] | with_reducible refine head_of t_law_draw_2.eq_1 ?_ | with_reducible refine head_of t_law_draw_0i_1.eq_1 ?_ | with_reducible refine head_of t_law_draw_1.eq_1 ?_))
    refine ⟨by decide, Small.le (by decide) (by decide), by (with_reducible exact cpz (by assumption)), ?_⟩
    rw [fmod_pos (by (with_reducible exact Int.le_of_lt (by assumption)))]
    exact hQ _ H1 (Int.emod_nonneg _ (by (with_reducible exact cpz (by assumption)))) (Int.emod_lt_of_pos _ hm) x1 ⟨g, k, s', gs, hp1, x1 _ _ hgp hg, hgp, hk0, hk, hl, h1, by (clear hgp hk0 hk hl hs0 hs hm hQ hlt h1; lia)⟩

noncomputable def P_law_row : PF := fun args H Q => ∃ n, ∃ w : Nat, args = [.int n, .int w] ∧ 0 ≤ n ∧ n < 2 ^ 600 ∧ 1 ≤ w ∧ w ≤ 9 ∧ ∀ r H' xs, Ext H H' → H r = none → H' r = some (.list (iv xs)) → IsRow (2 ^ w) n xs → Q (.ref r) H'

noncomputable def t_law_row_1b_1 : PS := (sCons (sAssign 0 (cBin oFdiv (cVar 0) (cBin oPow (cInt 2) (cVar 1)))) sNil)
noncomputable def t_law_row_1b_0 : PS := (sCons (sExpr (eApp (cVar 2) (cBin oMod (cVar 0) (cBin oPow (cInt 2) (cVar 1))))) t_law_row_1b_1)
noncomputable def t_law_row_2 : PS := (sCons (sRet (cVar 2)) sNil)
noncomputable def t_law_row_1 : PS := (sCons (sWhile (tCmp kGt (cVar 0) (cInt 0)) t_law_row_1b_0) t_law_row_2)
noncomputable def ps_law_row : PS := (sCons (sAssign 2 (eList aNil)) t_law_row_1)

theorem pu_law_row (args : List V) (H : Hp) (Q : V → Hp → Prop) (h : P_law_row args H Q) : args.length = 2 ∧ ps_law_row (fun i => args[i]?) H (retQ Q) := by
  obtain ⟨n, w, rfl, hn0, hn, hw, hw9, hQ⟩ := h
  refine ⟨rfl, ?_⟩
  have hB := two_le hw
  have hB9 := le_512 hw9
  have hBpos : (0 : Int) < 2 ^ w := by (with_reducible exact cpos)
  (repeat (first | dsimp only [sCons, sNil, sAssign, sRet, sExpr, aNil, aCons, cInt, cBin, eList, eApp, tCmp, oFdiv_i, oMod_i, oPow_i, kGt_i, vBool_b, vInt_i, vRef_r, LoopQ_next, LoopQ_ret, retQ_next, retQ_ret, cv0, cv0_2, cvl0, cv1_0, cv1_2, cvl1, cv2, cv2_0, cvl2, ps_law_row] | simp only [reduceIte, if_true, if_false, Bool.false_eq_true, reduceCtorEq] | with_reducible refine head_of t_law_row_1b_1.eq_1 ?_ | with_reducible refine head_of t_law_row_1b_0.eq_1 ?_ | with_reducible refine head_of t_law_row_2.eq_1 ?_ | with_reducible refine head_of t_law_row_1.eq_1 ?_))
  refine ⟨by simp, fun r hr => ?_⟩
  (repeat (first | dsimp only [sCons, sNil, sAssign, sRet, sExpr, aNil, aCons, cInt, cBin, eList, eApp, tCmp, oFdiv_i, oMod_i, oPow_i, kGt_i, vBool_b, vInt_i, vRef_r, LoopQ_next, LoopQ_ret, retQ_next, retQ_ret, cv0, cv0_2, cvl0, cv1_0, cv1_2, cvl1, cv2, cv2_0, cvl2] | simp only [reduceIte, if_true, if_false, Bool.false_eq_true, reduceCtorEq] | with_reducible refine head_of t_law_row_1b_1.eq_1 ?_ | with_reducible refine head_of t_law_row_1b_0.eq_1 ?_ | with_reducible refine head_of t_law_row_2.eq_1 ?_ | with_reducible refine head_of t_law_row_1.eq_1 ?_))
  refine while_hide (fun f m' H' => ∃ c xs, m' 0 = some (.int c) ∧ c = (f : Nat) ∧ m' 1 = some (.int w) ∧ m' 2 = some (.ref r) ∧ Ext H H' ∧ H' r = some (.list (iv xs)) ∧ Dig (2 ^ w) xs ∧ val (2 ^ w) xs + (2 ^ w) ^ xs.length * c = n ∧ (c = 0 → Norm xs))
    ⟨n.toNat, n, [], rfl, by (clear hn hw hw9 hQ hB hB9 hBpos; lia), rfl, rfl, Ext.upd hr, updH_same .., Dig.nil, by simp [val], fun _ => norm_nil⟩ ?_
  rintro f m' H' ⟨c, xs, m0, rfl, m1, m2, x, hx, dx, hv, hnm⟩ P hP
  (repeat (first | dsimp only [sCons, sNil, sAssign, sRet, sExpr, aNil, aCons, cInt, cBin, eList, eApp, tCmp, oFdiv_i, oMod_i, oPow_i, kGt_i, vBool_b, vInt_i, vRef_r, LoopQ_next, LoopQ_ret, retQ_next, retQ_ret, cv0, cv0_2, cvl0, cv1_0, cv1_2, cvl1, cv2, cv2_0, cvl2] | simp only [reduceIte, if_true, if_false, Bool.false_eq_true, reduceCtorEq, cVar_at m0, cVar_at m1, cVar_at m2] | with_reducible refine head_of t_law_row_1b_1.eq_1 ?_ | with_reducible refine head_of t_law_row_1b_0.eq_1 ?_ | with_reducible refine head_of t_law_row_2.eq_1 ?_ | with_reducible refine head_of t_law_row_1.eq_1 ?_))
  by_cases hf : 0 < f
  · rw [show decide ((0 : Int) < (f : Nat)) = true from decide_eq_true (by (clear hn0 hn hw hw9 hQ hB hB9 hBpos hv hnm hP; lia))]
    have hx0 := val_nonneg hBpos dx
    have hpl := pow_pos' hBpos xs.length
    have hlen : xs.length ≤ 600 := by
      have a1 : (2 ^ w : Int) ^ xs.length * 1 ≤ (2 ^ w) ^ xs.length * f := Int.mul_le_mul_of_nonneg_left (by (clear hn0 hn hw hw9 hQ hB hB9 hBpos hv hnm hP hx0 hpl; lia)) (by (with_reducible exact Int.le_of_lt (by assumption)))
      have a2 : (2 : Int) ^ xs.length ≤ (2 ^ w) ^ xs.length := by
        rw [← Int.pow_mul]; exact pow_le_pow (by decide) (Nat.le_mul_of_pos_left _ (by (clear hn0 hn hw9 hQ hB hB9 hBpos hv hnm hP hf hx0 hpl a1; lia)))
      have a3 : (2 : Int) ^ xs.length < 2 ^ 600 := by (clear hn0 hw hw9 hQ hB hB9 hBpos hnm hP hf hpl; lia)
      have := pow_lt_pow (B := 2) (by decide) a3
      (with_reducible exact Nat.le_of_lt (by assumption))
    (repeat (first | dsimp only [sCons, sNil, sAssign, sRet, sExpr, aNil, aCons, cInt, cBin, eList, eApp, tCmp, oFdiv_i, oMod_i, oPow_i, kGt_i, vBool_b, vInt_i, vRef_r, LoopQ_next, LoopQ_ret, retQ_next, retQ_ret, cv0, cv0_2, cvl0, cv1_0, cv1_2, cvl1, cv2, cv2_0, cvl2] | simp only [reduceIte, if_true, if_false, Bool.false_eq_true, reduceCtorEq, cVar_at m0, cVar_at m1, cVar_at m2, Int.toNat_natCast] | with_reducible refine head_of t_law_row_1b_1.eq_1 ?_ | with_reducible refine head_of t_law_row_1b_0.eq_1 ?_ | with_reducible refine head_of t_law_row_2.eq_1 ?_ | with_reducible refine head_of t_law_row_1.eq_1 ?_))
    refine ⟨isL_iv hx, by (with_reducible exact Int.natCast_nonneg _), by (with_reducible exact cw (by assumption)), by decide, by (with_reducible exact cpz (by assumption)), ?_⟩
    rw [fmod_pos (by (with_reducible exact cposn))]
    refine app_iv hx (by (clear hn0 hn hw hw9 hQ hB hB9 hBpos hv hnm hP hf hx0 hpl; lia)) ?_
    (repeat (first | dsimp only [sCons, sNil, sAssign, sRet, sExpr, aNil, aCons, cInt, cBin, eList, eApp, tCmp, oFdiv_i, oMod_i, oPow_i, kGt_i, vBool_b, vInt_i, vRef_r, LoopQ_next, LoopQ_ret, retQ_next, retQ_ret, cv0, cv0_2, cvl0, cv1_0, cv1_2, cvl1, cv2, cv2_0, cvl2] | simp only [reduceIte, if_true, if_false, Bool.false_eq_true, reduceCtorEq, cVar_at m0, cVar_at m1, cVar_at m2, Int.toNat_natCast] | with_reducible refine head_of t_law_row_1b_1.eq_1 ?_ | with_reducible refine head_of t_law_row_1b_0.eq_1 ?_ | with_reducible refine head_of t_law_row_2.eq_1 ?_ | with_reducible refine head_of t_law_row_1.eq_1 ?_))
    refine ⟨by (with_reducible exact Int.natCast_nonneg _), by (with_reducible exact cw (by assumption)), by decide, by (with_reducible exact cpz (by assumption)), Small.le (by (with_reducible exact cm62' (by assumption))) (by (with_reducible exact c62' (by assumption))), ?_⟩
    rw [fdiv_pos (by (with_reducible exact cposn))]
    have h1 := Int.emod_nonneg (f : Int) (show (2 ^ w : Int) ≠ 0 by (with_reducible exact cpz (by assumption)))
    have h2 := Int.emod_lt_of_pos (f : Int) hBpos
    have h3 := Int.emod_add_mul_ediv (f : Int) (2 ^ w)
    have h4 : 0 ≤ (f : Int) / 2 ^ w := Int.ediv_nonneg (by (with_reducible exact Int.natCast_nonneg _)) (by (with_reducible exact cposn))
    have h5 : (f : Int) / 2 ^ w < f := Int.ediv_lt_of_lt_mul hBpos (by
      have := Int.mul_le_mul_of_nonneg_left hB (show 0 ≤ (f : Int) by (with_reducible exact Int.natCast_nonneg _)); (clear hn0 hn hw hw9 hQ hB hB9 hBpos hv hnm hP hx0 hpl hlen h1 h2 h3 h4; lia))
    have e : (((f : Int) / 2 ^ w).toNat : Int) = (f : Int) / 2 ^ w := Int.toNat_of_nonneg h4
    refine hP ((f : Int) / 2 ^ w).toNat _ _ (by (clear hn0 hn hw hw9 hQ hB hB9 hBpos hv hnm hP hf hx0 hpl hlen h1 h2 h3 h4; lia)) ⟨(f : Int) / 2 ^ w, xs ++ [(f : Int) % 2 ^ w], rfl, e.symm, m1, m2, x.over hr, updH_same .., dx.snoc h1 h2, ?_, fun hz => ?_⟩
    · rw [val_snoc, List.length_append, List.length_singleton, Int.pow_succ]
      grind
    · unfold Norm
      rw [List.getLast?_append]
      simp
      rw [hz, Int.mul_zero, Int.add_zero] at h3
      (clear hn0 hn hw hw9 hQ hB hB9 hBpos hv hnm hP hx0 hpl hlen h1 h2 h4 h5 e hz; lia)
  · rw [show decide ((0 : Int) < (f : Nat)) = false from decide_eq_false (by (clear hn0 hn hw hw9 hQ hB hB9 hBpos hv hnm hP; lia))]
    (repeat (first | dsimp only [sCons, sNil, sAssign, sRet, sExpr, aNil, aCons, cInt, cBin, eList, eApp, tCmp, oFdiv_i, oMod_i, oPow_i, kGt_i, vBool_b, vInt_i, vRef_r, LoopQ_next, LoopQ_ret, retQ_next, retQ_ret, cv0, cv0_2, cvl0, cv1_0, cv1_2, cvl1, cv2, cv2_0, cvl2] | simp only [reduceIte, if_true, if_false, Bool.false_eq_true, reduceCtorEq, cVar_at m2] | with_reducible refine head_of t_law_row_1b_1.eq_1 ?_ | with_reducible refine head_of t_law_row_1b_0.eq_1 ?_ | with_reducible refine head_of t_law_row_2.eq_1 ?_ | with_reducible refine head_of t_law_row_1.eq_1 ?_))
    have hf0 : f = 0 := by (clear hn0 hn hw hw9 hQ hB hB9 hBpos hv hnm hP; lia)
    subst hf0
    refine hQ r H' xs x hr hx ⟨dx, hnm rfl, by simpa using hv⟩

noncomputable def P_law_number : PF := fun args H Q => ∃ p, ∃ w most : Nat, args = [.ref p, .int w, .int most] ∧ PoolOk p H ∧ 1 ≤ w ∧ w ≤ 9 ∧ most ≤ 8 ∧ ∀ z H', 0 ≤ z → z < (2 ^ w) ^ most → ExtBut p H H' → PoolOk p H' → Q (.int z) H'

noncomputable def t_law_number_1b_1 : PS := (sCons (sAssign 3 (cBin oAdd (cBin oMul (cVar 3) (cBin oPow (cInt 2) (cVar 1))) (cVar 5))) sNil)
noncomputable def t_law_number_1b_0 : PS := (sCons (sAssign 5 (eIdx (eList (aCons (cInt 0) (aCons (cBin oSub (cBin oPow (cInt 2) (cVar 1)) (cInt 1)) (aCons (cInt 1) (aCons (eCall P_law_draw (aCons (cVar 0) (aCons (cBin oPow (cInt 2) (cVar 1)) aNil))) (aCons (cBin oSub (cBin oPow (cInt 2) (cVar 1)) (cInt 1)) (aCons (cBin oPow (cInt 2) (cBin oSub (cVar 1) (cInt 1))) aNil))))))) (eCall P_law_draw (aCons (cVar 0) (aCons (cInt 6) aNil))))) t_law_number_1b_1)
noncomputable def t_law_number_2 : PS := (sCons (sRet (cVar 3)) sNil)
noncomputable def t_law_number_1 : PS := (sCons (sForR 4 (aCons (eCall P_law_draw (aCons (cVar 0) (aCons (cBin oAdd (cVar 2) (cInt 1)) aNil))) aNil) t_law_number_1b_0) t_law_number_2)
noncomputable def ps_law_number : PS := (sCons (sAssign 3 (cInt 0)) t_law_number_1)

theorem small_pow {x B : Int} {k : Nat} (hB0 : 1 ≤ B) (hB : B ≤ 512) (h0 : 0 ≤ x) (h : x < B ^ k) (hk : k ≤ 20) : Small x := by
  have h1 : B ^ k ≤ 512 ^ k := by
    clear h hk
    induction k with
    | zero => simp
    | succ k ih =>
      rw [Int.pow_succ, Int.pow_succ]
      exact Int.mul_le_mul ih hB (by (clear hB h0 ih; lia)) (Int.le_of_lt (Int.pow_pos (by decide)))
  have h2 : (512 : Int) ^ k ≤ 512 ^ 20 := pow_le_pow (by decide) hk
  have h3 : (512 : Int) ^ 20 < 2 ^ 199 := by decide +kernel
  have h4 : x < 2 ^ 199 := by lia
  unfold Small
  (clear hB0 hB h hk h1 h2 h3; lia)

theorem pu_law_number (args : List V) (H : Hp) (Q : V → Hp → Prop) (h : P_law_number args H Q) : args.length = 3 ∧ ps_law_number (fun i => args[i]?) H (retQ Q) := by
  obtain ⟨p, w, most, rfl, hp, hw, hw9, hmost, hQ⟩ := h
  refine ⟨rfl, ?_⟩
  have hB := two_le hw
  have hB9 := le_512 hw9
  have hBpos : (0 : Int) < 2 ^ w := by (with_reducible exact cpos)
  have hhalf : (2 : Int) ^ (w - 1) * 2 = 2 ^ w := by rw [← Int.pow_succ]; congr 1; (clear hw9 hmost hQ hB hB9 hBpos; lia)
  have hhp : (0 : Int) < 2 ^ (w - 1) := Int.pow_pos (by decide)
  (repeat (first | dsimp only [sCons, sNil, sAssign, sRet, eCall, aNil, aCons, cInt, cBin, eList, eIdx, oAdd_i, oSub_i, oMul_i, oPow_i, oAdd_r, oMul_r, vBool_b, vInt_i, vRef_r, LoopQ_next, LoopQ_ret, retQ_next, retQ_ret, cv0_3, cv0_4, cv0_5, cvl0, cv1_3, cv1_4, cv1_5, cvl1, cv2_3, cv2_4, cv2_5, cvl2, cv3, cv3_4, cv3_5, cvl3, cv5, cv5_3, cv5_4, ps_law_number, sForR] | simp only [reduceIte, if_true, if_false, Bool.false_eq_true, reduceCtorEq] | with_reducible refine head_of t_law_number_1b_1.eq_1 ?_ | with_reducible refine head_of t_law_number_1b_0.eq_1 ?_ | with_reducible refine head_of t_law_number_2.eq_1 ?_ | with_reducible refine head_of t_law_number_1.eq_1 ?_))
  refine ⟨p, _, rfl, hp, by (clear hw hw9 hmost hQ hB hB9 hBpos hhalf hhp; lia), fun z H1 hz0 hz1 x1 hp1 => ?_⟩
  refine ⟨_, _, _, rfl, ⟨by (clear hw hw9 hmost hQ hB hB9 hBpos hhalf hhp hz0 hz1; lia), by (with_reducible exact cposn), by (clear hw hw9 hmost hQ hB hB9 hBpos hhalf hhp hz1; lia), by (clear hw hw9 hQ hB hB9 hBpos hhalf hhp hz0; lia), .inl rfl⟩, ?_⟩
  obtain ⟨n, rfl⟩ := Int.eq_ofNat_of_zero_le hz0
  rw [rng_up]
  refine ⟨fun k m' H' => m' 0 = some (.ref p) ∧ m' 1 = some (.int w) ∧ ExtBut p H H' ∧ PoolOk p H' ∧ ∃ f, m' 3 = some (.int f) ∧ 0 ≤ f ∧ f < (2 ^ w) ^ k, ⟨rfl, rfl, x1, hp1, 0, rfl, by (with_reducible exact Int.le_refl _), by simp⟩, ?_, ?_⟩
  · intro k m' H' hk hI
    refine loop_hide fun P hP => ?_
    obtain ⟨m0, m1, x, hpk, f, m3, hf0, hf⟩ := hI
    (repeat (first | dsimp only [sCons, sNil, sAssign, sRet, eCall, aNil, aCons, cInt, cBin, eList, eIdx, oAdd_i, oSub_i, oMul_i, oPow_i, oAdd_r, oMul_r, vBool_b, vInt_i, vRef_r, LoopQ_next, LoopQ_ret, retQ_next, retQ_ret, cv0_3, cv0_4, cv0_5, cvl0, cv1_3, cv1_4, cv1_5, cvl1, cv2_3, cv2_4, cv2_5, cvl2, cv3, cv3_4, cv3_5, cvl3, cv5, cv5_3, cv5_4] | simp only [reduceIte, if_true, if_false, Bool.false_eq_true, reduceCtorEq, cVar_at m0, cVar_at m1, cVar_at m3, Int.toNat_natCast] | with_reducible refine head_of t_law_number_1b_1.eq_1 ?_ | with_reducible refine head_of t_law_number_1b_0.eq_1 ?_ | with_reducible refine head_of t_law_number_2.eq_1 ?_ | with_reducible refine head_of t_law_number_1.eq_1 ?_))
    refine ⟨by (with_reducible exact Int.natCast_nonneg _), by (with_reducible exact cw (by assumption)), by decide, by (with_reducible exact Int.natCast_nonneg _), by (with_reducible exact cw (by assumption)), by decide, ?_⟩
    refine ⟨p, _, rfl, hpk, hBpos, fun d1 H2 hd0 hd1 x2 hp2 => ?_⟩
    (repeat (first | dsimp only [sCons, sNil, sAssign, sRet, eCall, aNil, aCons, cInt, cBin, eList, eIdx, oAdd_i, oSub_i, oMul_i, oPow_i, oAdd_r, oMul_r, vBool_b, vInt_i, vRef_r, LoopQ_next, LoopQ_ret, retQ_next, retQ_ret, cv0_3, cv0_4, cv0_5, cvl0, cv1_3, cv1_4, cv1_5, cvl1, cv2_3, cv2_4, cv2_5, cvl2, cv3, cv3_4, cv3_5, cvl3, cv5, cv5_3, cv5_4] | simp only [reduceIte, if_true, if_false, Bool.false_eq_true, reduceCtorEq, cVar_at m0, cVar_at m1, cVar_at m3, Int.toNat_natCast] | with_reducible refine head_of t_law_number_1b_1.eq_1 ?_ | with_reducible refine head_of t_law_number_1b_0.eq_1 ?_ | with_reducible refine head_of t_law_number_2.eq_1 ?_ | with_reducible refine head_of t_law_number_1.eq_1 ?_))
    refine ⟨by (with_reducible exact Int.natCast_nonneg _), by (with_reducible exact cw (by assumption)), by decide, by (clear hw9 hmost hQ hB hB9 hBpos hhalf hhp hz0 hz1 hk hP hf0 hf hd0 hd1; lia), by (clear hw hmost hQ hB hB9 hBpos hhalf hhp hz0 hz1 hk hP hf0 hf hd0 hd1; lia), by decide, by simp, fun r hr => ?_⟩
    rw [show ((w : Int) - 1).toNat = w - 1 by (clear hw hw9 hmost hQ hB hB9 hBpos hhalf hhp hz0 hz1 hk hP hf0 hf hd0 hd1; lia)]
    have x3 : Ext H2 (updH H2 r (.list [V.int 0, V.int (2 ^ w - 1), V.int 1, V.int d1, V.int (2 ^ w - 1), V.int (2 ^ (w - 1))])) := Ext.upd hr
    have hl : updH H2 r (.list [V.int 0, V.int (2 ^ w - 1), V.int 1, V.int d1, V.int (2 ^ w - 1), V.int (2 ^ (w - 1))]) r = some (.list (iv [0, 2 ^ w - 1, 1, d1, 2 ^ w - 1, 2 ^ (w - 1)])) := updH_same ..
    generalize updH H2 r (.list [V.int 0, V.int (2 ^ w - 1), V.int 1, V.int d1, V.int (2 ^ w - 1), V.int (2 ^ (w - 1))]) = H3 at x3 hl ⊢
    have nrp : r ≠ p := by
      obtain ⟨o, ho⟩ := hp2.there
      exact (ne_fresh ho hr).symm
    refine ⟨p, _, rfl, hp2.ext x3, by decide, fun d2 H4 he0 he1 x4 hp4 => ?_⟩
    (repeat (first | dsimp only [sCons, sNil, sAssign, sRet, eCall, aNil, aCons, cInt, cBin, eList, eIdx, oAdd_i, oSub_i, oMul_i, oPow_i, oAdd_r, oMul_r, vBool_b, vInt_i, vRef_r, LoopQ_next, LoopQ_ret, retQ_next, retQ_ret, cv0_3, cv0_4, cv0_5, cvl0, cv1_3, cv1_4, cv1_5, cvl1, cv2_3, cv2_4, cv2_5, cvl2, cv3, cv3_4, cv3_5, cvl3, cv5, cv5_3, cv5_4] | simp only [reduceIte, if_true, if_false, Bool.false_eq_true, reduceCtorEq] | with_reducible refine head_of t_law_number_1b_1.eq_1 ?_ | with_reducible refine head_of t_law_number_1b_0.eq_1 ?_ | with_reducible refine head_of t_law_number_2.eq_1 ?_ | with_reducible refine head_of t_law_number_1.eq_1 ?_))
    refine idx_iv (x4 _ _ nrp hl) he0 (by simpa using he1) (by simp) ?_
    have dd : Dig (2 ^ w) [0, 2 ^ w - 1, 1, d1, 2 ^ w - 1, 2 ^ (w - 1)] :=
      Dig.cons (by (with_reducible exact Int.le_refl _)) (by (with_reducible assumption)) (Dig.cons (by (clear hw hw9 hmost hQ hB9 hBpos hhalf hhp hz0 hz1 hk hP hf0 hf hd0 hd1 nrp he0 he1 hp x1 hp1 m0 m1 x hpk m3 x2 hp2 hr x3 hl x4 hp4; lia)) (by (clear hw hw9 hmost hQ hB hB9 hBpos hhalf hhp hz0 hz1 hk hP hf0 hf hd0 hd1 nrp he0 he1 hp x1 hp1 m0 m1 x hpk m3 x2 hp2 hr x3 hl x4 hp4; lia)) (Dig.cons (by (clear hw hw9 hmost hQ hB hB9 hBpos hhalf hhp hz0 hz1 hk hP hf0 hf hd0 hd1 nrp he0 he1; lia)) (by (with_reducible exact cp1 (by assumption))) (Dig.cons hd0 hd1 (Dig.cons (by (clear hp hw hw9 hmost hQ hB9 hBpos hhalf hhp x1 hp1 hz0 hz1 hk hP m0 m1 x hpk m3 hf0 hf hd0 hd1 x2 hp2 hr x3 hl nrp he0 he1 x4 hp4; lia)) (by (clear hp hw hw9 hmost hQ hB hB9 hBpos hhalf hhp x1 hp1 hz0 hz1 hk hP m0 m1 x hpk m3 hf0 hf hd0 hd1 x2 hp2 hr x3 hl nrp he0 he1 x4 hp4; lia)) (Dig.cons (by (with_reducible exact cposn)) (by (clear hw hw9 hmost hQ hB9 hBpos hhp hz0 hz1 hk hP hf0 hf hd0 hd1 nrp he0 he1; lia)) Dig.nil)))))
    have hlimb := dd.get hBpos d2.toNat
    generalize [0, 2 ^ w - 1, 1, d1, 2 ^ w - 1, 2 ^ (w - 1)].getD d2.toNat 0 = limb at hlimb ⊢
    (repeat (first | dsimp only [sCons, sNil, sAssign, sRet, eCall, aNil, aCons, cInt, cBin, eList, eIdx, oAdd_i, oSub_i, oMul_i, oPow_i, oAdd_r, oMul_r, vBool_b, vInt_i, vRef_r, LoopQ_next, LoopQ_ret, retQ_next, retQ_ret, cv0_3, cv0_4, cv0_5, cvl0, cv1_3, cv1_4, cv1_5, cvl1, cv2_3, cv2_4, cv2_5, cvl2, cv3, cv3_4, cv3_5, cvl3, cv5, cv5_3, cv5_4] | simp only [reduceIte, if_true, if_false, Bool.false_eq_true, reduceCtorEq, cVar_at m0, cVar_at m1, cVar_at m3, Int.toNat_natCast] | with_reducible refine head_of t_law_number_1b_1.eq_1 ?_ | with_reducible refine head_of t_law_number_1b_0.eq_1 ?_ | with_reducible refine head_of t_law_number_2.eq_1 ?_ | with_reducible refine head_of t_law_number_1.eq_1 ?_))
    refine ⟨by (with_reducible exact Int.natCast_nonneg _), by (with_reducible exact cw (by assumption)), by decide, small_pow (by (with_reducible exact cpos1)) hB9 hf0 hf (by (clear hw hw9 hQ hB hB9 hBpos hhalf hhp hz0 hP hf0 hf hd0 hd1 nrp he0 he1 hlimb; lia)), Small.le (by (with_reducible exact cm62' (by assumption))) (by (with_reducible exact c62' (by assumption))), ?_⟩
    refine hP _ _ ⟨m0, m1, ((x.trans x2).trans x3.but).trans x4, hp4, _, rfl, ?_, ?_⟩
    · have := Int.mul_nonneg hf0 (Int.le_of_lt hBpos); (clear hw hw9 hmost hQ hB hB9 hBpos hhalf hhp hz0 hz1 hk hP hf0 hf hd0 hd1 nrp he0 he1; lia)
    · have : (f + 1) * 2 ^ w ≤ (2 ^ w) ^ k * 2 ^ w := Int.mul_le_mul_of_nonneg_right (by (clear hw hw9 hmost hQ hB hB9 hBpos hhalf hhp hz0 hz1 hk hP hf0 hd0 hd1 nrp he0 he1 hlimb; lia)) (by (with_reducible exact cposn))
      rw [Int.add_mul, Int.one_mul] at this
      rw [Int.pow_succ]
      (clear hw hw9 hmost hQ hB hB9 hBpos hhalf hhp hz0 hz1 hk hP hf0 hf hd0 hd1 nrp he0 he1 hp x1 hp1 m0 m1 x hpk m3 x2 hp2 hr x3 hl x4 hp4 dd; lia)
  · rintro m' H' ⟨m0, m1, x, hpk, f, m3, hf0, hf⟩
    (repeat (first | dsimp only [sCons, sNil, sAssign, sRet, eCall, aNil, aCons, cInt, cBin, eList, eIdx, oAdd_i, oSub_i, oMul_i, oPow_i, oAdd_r, oMul_r, vBool_b, vInt_i, vRef_r, LoopQ_next, LoopQ_ret, retQ_next, retQ_ret, cv0_3, cv0_4, cv0_5, cvl0, cv1_3, cv1_4, cv1_5, cvl1, cv2_3, cv2_4, cv2_5, cvl2, cv3, cv3_4, cv3_5, cvl3, cv5, cv5_3, cv5_4] | simp only [reduceIte, if_true, if_false, Bool.false_eq_true, reduceCtorEq, cVar_at m3] | with_reducible refine head_of t_law_number_1b_1.eq_1 ?_ | with_reducible refine head_of t_law_number_1b_0.eq_1 ?_ | with_reducible refine head_of t_law_number_2.eq_1 ?_ | with_reducible refine head_of t_law_number_1.eq_1 ?_))
    have : (2 ^ w : Int) ^ n ≤ (2 ^ w) ^ most := pow_le_pow hBpos (by (clear hw hw9 hmost hQ hB hB9 hBpos hhalf hhp hz0 hf0 hf; lia))
    exact hQ f H' hf0 (by (with_reducible exact Int.lt_of_lt_of_le (by assumption) (by assumption))) x hpk
end Mine
end

section
open PySem
set_option linter.unusedVariables false
set_option linter.unusedSimpArgs false
namespace Mine

noncomputable def P_law_whole : PF := fun args H Q => ∃ a xs, ∃ w : Nat, args = [.ref a, .int w] ∧ H a = some (.list (iv xs)) ∧ xs.length ≤ 8 ∧ 1 ≤ w ∧ w ≤ 9 ∧ Dig (2 ^ w) xs ∧ ∀ H', Ext H H' → Q (.int (val (2 ^ w) xs)) H'
noncomputable def P_law_guess_right : PF := fun args H Q => ∃ p, ∃ w : Nat, args = [.ref p, .int w] ∧ PoolOk p H ∧ 2 ≤ w ∧ w ≤ 9 ∧ ∀ H', ExtBut p H H' → PoolOk p H' → Q (.bool true) H'

noncomputable def t_law_guess_right_11 : PS := (sCons (sRet (eAnd (eCmp kEq (eCall P_law_whole (aCons (cVar 7) (aCons (cVar 1) aNil))) (cBin oSub (cVar 5) (cBin oMul (cVar 4) (cVar 3)))) (eCmp kEq (eCall fLen (aCons (cVar 7) aNil)) (cInt 4)))) sNil)
noncomputable def t_law_guess_right_10 : PS := (sCons (sIf (tCmp kEq (cVar 9) (cInt 1)) (sCons (sExpr (eCall P_put_back (aCons (cVar 7) (aCons (cVar 6) (aCons (cInt 0) (aCons (cVar 1) aNil)))))) sNil) sNil) t_law_guess_right_11)
noncomputable def t_law_guess_right_9 : PS := (sCons (sIf (tOr (tCmp kNe (cVar 9) (eIf (tCmp kGt (cVar 8) (cVar 4)) (cInt 1) (cInt 0))) (tOr (tCmp kNe (eCall P_law_whole (aCons (cVar 7) (aCons (cVar 1) aNil))) (cBin oMod (cBin oSub (cVar 5) (cBin oMul (cVar 8) (cVar 3))) (cBin oPow (cVar 2) (cInt 4)))) tOrNil)) (sCons (sRet (cBool false)) sNil) sNil) t_law_guess_right_10)
noncomputable def t_law_guess_right_8 : PS := (sCons (sAssign 9 (eCall P_take_away (aCons (cVar 7) (aCons (cVar 6) (aCons (cVar 8) (aCons (cInt 0) (aCons (cVar 1) aNil))))))) t_law_guess_right_9)
noncomputable def t_law_guess_right_7 : PS := (sCons (sIf (tAnd (tCmp kNe (cVar 8) (cVar 4)) (tAnd (tCmp kNe (cVar 8) (cBin oAdd (cVar 4) (cInt 1))) tAndNil)) (sCons (sRet (cBool false)) sNil) sNil) t_law_guess_right_8)
noncomputable def t_law_guess_right_6 : PS := (sCons (sAssign 8 (eCall P_guessed_limb (aCons (eSlice (cVar 7) (pSome (cInt 1)) pNone) (aCons (eIdx (cVar 6) (cInt 2)) (aCons (eIdx (cVar 6) (cInt 1)) (aCons (cVar 1) aNil)))))) t_law_guess_right_7)
noncomputable def t_law_guess_right_5 : PS := (sCons (sAssign2 6 7 (eCall P_law_row (aCons (cVar 3) (aCons (cVar 1) aNil))) (eSlice (cBin oAdd (eCall P_law_row (aCons (cVar 5) (aCons (cVar 1) aNil))) (eList (aCons (cInt 0) (aCons (cInt 0) (aCons (cInt 0) (aCons (cInt 0) aNil)))))) pNone (pSome (cInt 4)))) t_law_guess_right_6)
noncomputable def t_law_guess_right_4 : PS := (sCons (sAssign 5 (cBin oAdd (cBin oMul (cVar 4) (cVar 3)) (eIdx (eList (aCons (cBin oSub (cVar 3) (cInt 1)) (aCons (cInt 0) (aCons (eCall P_law_draw (aCons (cVar 0) (aCons (cVar 3) aNil))) aNil)))) (eCall P_law_draw (aCons (cVar 0) (aCons (cInt 3) aNil)))))) t_law_guess_right_5)
noncomputable def t_law_guess_right_3 : PS := (sCons (sAssign 4 (eIdx (eList (aCons (cBin oSub (cVar 2) (cInt 1)) (aCons (cBin oSub (cVar 2) (cInt 2)) (aCons (cInt 0) (aCons (cInt 1) (aCons (eCall P_law_draw (aCons (cVar 0) (aCons (cVar 2) aNil))) aNil)))))) (eCall P_law_draw (aCons (cVar 0) (aCons (cInt 5) aNil))))) t_law_guess_right_4)
noncomputable def t_law_guess_right_2 : PS := (sCons (sIf (tCmp kEq (eCall P_law_draw (aCons (cVar 0) (aCons (cInt 2) aNil))) (cInt 0)) (sCons (sAssign 3 (cBin oAdd (cBin oFdiv (cBin oPow (cVar 2) (cInt 3)) (cInt 2)) (eIdx (eList (aCons (cInt 0) (aCons (cInt 1) (aCons (cBin oSub (cVar 2) (cInt 1)) (aCons (cBin oFdiv (cBin oPow (cVar 2) (cInt 2)) (cInt 2)) aNil))))) (eCall P_law_draw (aCons (cVar 0) (aCons (cInt 4) aNil)))))) sNil) sNil) t_law_guess_right_3)
noncomputable def t_law_guess_right_1 : PS := (sCons (sAssign 3 (cBin oAdd (cBin oFdiv (cBin oPow (cVar 2) (cInt 3)) (cInt 2)) (eCall P_law_draw (aCons (cVar 0) (aCons (cBin oFdiv (cBin oPow (cVar 2) (cInt 3)) (cInt 2)) aNil))))) t_law_guess_right_2)
noncomputable def ps_law_guess_right : PS := (sCons (sAssign 2 (cBin oPow (cInt 2) (cVar 1))) t_law_guess_right_1)

theorem pow_nat (B : Int) : B ^ 2 = B * B ∧ B ^ 3 = B * B * B ∧ B ^ 4 = B * B * B * B := by
  refine ⟨?_, ?_, ?_⟩ <;> grind
theorem len4 {xs : List Int} (h : xs.length = 4) : ∃ a b c d, xs = [a, b, c, d] := by
  match xs, h with
  | [a, b, c, d], _ => exact ⟨a, b, c, d, rfl⟩

set_option maxRecDepth 100000 in
theorem guess_tail {p : Nat} {w : Nat} {H : Hp} {m : Ev} {Q : V → Hp → Prop} {D limb left : Int} (hw : 2 ≤ w) (hw9 : w ≤ 9) (m0 : m 0 = some (.ref p)) (m1 : m 1 = some (.int w)) (m2 : m 2 = some (.int (2 ^ w))) (m3 : m 3 = some (.int D)) (m4 : m 4 = some (.int limb)) (m5 : m 5 = some (.int left))
    (hD0 : 2 ^ w * 2 ^ w ≤ D) (hD1 : D < 2 ^ w * 2 ^ w * 2 ^ w) (hl0 : 0 ≤ limb) (hl1 : limb < 2 ^ w) (hr0 : limb * D ≤ left) (hr1 : left < (limb + 1) * D) (hQ : ∀ H', Ext H H' → Q (.bool true) H') :
    t_law_guess_right_5 m H (retQ Q) := by
  have hB := two_le (show 1 ≤ w by (with_reducible exact cge2 (by assumption)))
  have hB9 := le_512 hw9
  have hBpos : (0 : Int) < 2 ^ w := by (with_reducible exact cpos)
  have hBB : (2 ^ w : Int) * 2 ^ w ≤ 512 * 512 := Int.mul_le_mul hB9 hB9 (by (with_reducible exact cposn)) (by decide)
  have hBBB : (2 ^ w : Int) * 2 ^ w * 2 ^ w ≤ 512 * 512 * 512 := Int.mul_le_mul hBB hB9 (by (with_reducible exact cposn)) (by decide)
  obtain ⟨p2, p3, p4⟩ := pow_nat (2 ^ w)
  have hBB4 : (4 : Int) ≤ 2 ^ w * 2 ^ w := Int.mul_le_mul hB hB (by decide) (by (with_reducible exact cposn))
  have hlD : (limb + 1) * D ≤ 2 ^ w * D := Int.mul_le_mul_of_nonneg_right (by (clear hw hw9 hD0 hD1 hl0 hr0 hr1 hQ hB hB9 hBpos hBB hBBB p2 p3 p4 hBB4; lia)) (by (clear hw hw9 hD1 hl0 hl1 hr0 hr1 hQ hB hB9 hBpos hBB hBBB p2 p3 p4 m0 m1 m2 m3 m4 m5 hBB4; lia))
  have hleft0 : 0 ≤ left := by have := Int.mul_nonneg hl0 (show 0 ≤ D by (clear hw hw9 m0 m1 m2 m3 m4 m5 hD1 hl0 hl1 hr0 hr1 hQ hB hB9 hBpos hBB hBBB p2 p3 p4 hBB4 hlD; lia)); (with_reducible exact Int.le_trans (by assumption) (by assumption))
  have hleftD : left < D * 2 ^ w := by rw [Int.mul_comm D]; (with_reducible exact Int.lt_of_lt_of_le (by assumption) (by assumption))
  have hBD : 2 ^ w * D ≤ 512 * (512 * 512 * 512) := Int.mul_le_mul hB9 (by (clear hw hw9 hD0 hl0 hl1 hr0 hr1 hQ hB hB9 hBpos hBB p2 p3 p4 hBB4 hlD hleft0 hleftD; lia)) (by omega) (by decide)
  have hleft4 : left < (2 ^ w) ^ 4 := by
    rw [p4]
    have : 2 ^ w * D ≤ 2 ^ w * (2 ^ w * 2 ^ w * 2 ^ w) := Int.mul_le_mul_of_nonneg_left (by (with_reducible exact Int.le_of_lt (by assumption))) (by (with_reducible exact cposn))
    have e : (2 : Int) ^ w * (2 ^ w * 2 ^ w * 2 ^ w) = 2 ^ w * 2 ^ w * 2 ^ w * 2 ^ w := by grind
    (clear hw hw9 hD0 hD1 hl0 hl1 hr0 hQ hB hB9 hBpos hBB hBBB p2 p3 p4 hBB4 hleft0 hleftD hBD; lia)
  (repeat (first | dsimp only [sCons, sNil, sAssign, sAssign2, sIf, sRet, sExpr, eCall, aNil, aCons, cInt, cBool, cBin, eCmp, eIf, eAnd, eList, eIdx, eSlice, tCmp, tAnd, tAndNil, tOr, tOrNil, pNone, pSome, oAdd_i, oSub_i, oMul_i, oFdiv_i, oMod_i, oPow_i, kGt_i, kEq_i, kNe_i, oAdd_r, oMul_r, fLen_r, vBool_b, vInt_i, vRef_r, LoopQ_next, LoopQ_ret, retQ_next, retQ_ret, cv0_2, cv0_3, cv0_4, cv0_5, cv0_6, cv0_7, cv0_8, cv0_9, cvl0, cv1_2, cv1_3, cv1_4, cv1_5, cv1_6, cv1_7, cv1_8, cv1_9, cvl1, cv2, cv2_3, cv2_4, cv2_5, cv2_6, cv2_7, cv2_8, cv2_9, cvl2, cv3, cv3_2, cv3_4, cv3_5, cv3_6, cv3_7, cv3_8, cv3_9, cvl3, cv4, cv4_2, cv4_3, cv4_5, cv4_6, cv4_7, cv4_8, cv4_9, cvl4, cv5, cv5_2, cv5_3, cv5_4, cv5_6, cv5_7, cv5_8, cv5_9, cv6, cv6_2, cv6_3, cv6_4, cv6_5, cv6_7, cv6_8, cv6_9, cv7, cv7_2, cv7_3, cv7_4, cv7_5, cv7_6, cv7_8, cv7_9, cv8, cv8_2, cv8_3, cv8_4, cv8_5, cv8_6, cv8_7, cv8_9, cv9, cv9_2, cv9_3, cv9_4, cv9_5, cv9_6, cv9_7, cv9_8] | simp only [reduceIte, if_true, if_false, Bool.false_eq_true, reduceCtorEq, cVar_at m0, cVar_at m1, cVar_at m2, cVar_at m3, cVar_at m4, cVar_at m5] | with_reducible refine head_of t_law_guess_right_11.eq_1 ?_ | with_reducible refine head_of t_law_guess_right_10.eq_1 ?_ | with_reducible refine head_of t_law_guess_right_9.eq_1 ?_ | with_reducible refine head_of t_law_guess_right_8.eq_1 ?_ | with_reducible refine head_of t_law_guess_right_7.eq_1 ?_ | with_reducible refine head_of t_law_guess_right_6.eq_1 ?_ | with_reducible refine head_of t_law_guess_right_5.eq_1 ?_ | with_reducible refine head_of t_law_guess_right_4.eq_1 ?_ | with_reducible refine head_of t_law_guess_right_3.eq_1 ?_ | with_reducible refine head_of t_law_guess_right_2.eq_1 ?_ | with_reducible refine head_of t_law_guess_right_1.eq_1 ?_))
  refine ⟨D, w, rfl, by omega, by have : (2 : Int) ^ 40 < 2 ^ 600 := by decide +kernel
                                  (clear hw hw9 hD0 hl0 hl1 hr0 hr1 hQ hB hB9 hBpos hBB p2 p3 p4 hBB4 hlD hleft0 hleftD hBD hleft4 this; omega), by (with_reducible exact cge2 (by assumption)), hw9, fun rb H1 bs x1 hrb0 hrb hbs => ?_⟩
  (repeat (first | dsimp only [sCons, sNil, sAssign, sAssign2, sIf, sRet, sExpr, eCall, aNil, aCons, cInt, cBool, cBin, eCmp, eIf, eAnd, eList, eIdx, eSlice, tCmp, tAnd, tAndNil, tOr, tOrNil, pNone, pSome, oAdd_i, oSub_i, oMul_i, oFdiv_i, oMod_i, oPow_i, kGt_i, kEq_i, kNe_i, oAdd_r, oMul_r, fLen_r, vBool_b, vInt_i, vRef_r, LoopQ_next, LoopQ_ret, retQ_next, retQ_ret, cv0_2, cv0_3, cv0_4, cv0_5, cv0_6, cv0_7, cv0_8, cv0_9, cvl0, cv1_2, cv1_3, cv1_4, cv1_5, cv1_6, cv1_7, cv1_8, cv1_9, cvl1, cv2, cv2_3, cv2_4, cv2_5, cv2_6, cv2_7, cv2_8, cv2_9, cvl2, cv3, cv3_2, cv3_4, cv3_5, cv3_6, cv3_7, cv3_8, cv3_9, cvl3, cv4, cv4_2, cv4_3, cv4_5, cv4_6, cv4_7, cv4_8, cv4_9, cvl4, cv5, cv5_2, cv5_3, cv5_4, cv5_6, cv5_7, cv5_8, cv5_9, cv6, cv6_2, cv6_3, cv6_4, cv6_5, cv6_7, cv6_8, cv6_9, cv7, cv7_2, cv7_3, cv7_4, cv7_5, cv7_6, cv7_8, cv7_9, cv8, cv8_2, cv8_3, cv8_4, cv8_5, cv8_6, cv8_7, cv8_9, cv9, cv9_2, cv9_3, cv9_4, cv9_5, cv9_6, cv9_7, cv9_8] | simp only [reduceIte, if_true, if_false, Bool.false_eq_true, reduceCtorEq, cVar_at m0, cVar_at m1, cVar_at m2, cVar_at m3, cVar_at m4, cVar_at m5] | with_reducible refine head_of t_law_guess_right_11.eq_1 ?_ | with_reducible refine head_of t_law_guess_right_10.eq_1 ?_ | with_reducible refine head_of t_law_guess_right_9.eq_1 ?_ | with_reducible refine head_of t_law_guess_right_8.eq_1 ?_ | with_reducible refine head_of t_law_guess_right_7.eq_1 ?_ | with_reducible refine head_of t_law_guess_right_6.eq_1 ?_ | with_reducible refine head_of t_law_guess_right_5.eq_1 ?_ | with_reducible refine head_of t_law_guess_right_4.eq_1 ?_ | with_reducible refine head_of t_law_guess_right_3.eq_1 ?_ | with_reducible refine head_of t_law_guess_right_2.eq_1 ?_ | with_reducible refine head_of t_law_guess_right_1.eq_1 ?_))
  refine ⟨left, w, rfl, hleft0, by have : (2 : Int) ^ 40 < 2 ^ 600 := by decide +kernel
                                   (clear hw hw9 hD0 hD1 hl0 hl1 hr0 hQ hB hB9 hBpos hBB hBBB p2 p3 p4 hBB4 hleft0 hleftD hleft4 this; omega), by (with_reducible exact cge2 (by assumption)), hw9, fun rl H2 zs x2 hrl0 hrl hzs => ?_⟩
  (repeat (first | dsimp only [sCons, sNil, sAssign, sAssign2, sIf, sRet, sExpr, eCall, aNil, aCons, cInt, cBool, cBin, eCmp, eIf, eAnd, eList, eIdx, eSlice, tCmp, tAnd, tAndNil, tOr, tOrNil, pNone, pSome, oAdd_i, oSub_i, oMul_i, oFdiv_i, oMod_i, oPow_i, kGt_i, kEq_i, kNe_i, oAdd_r, oMul_r, fLen_r, vBool_b, vInt_i, vRef_r, LoopQ_next, LoopQ_ret, retQ_next, retQ_ret, cv0_2, cv0_3, cv0_4, cv0_5, cv0_6, cv0_7, cv0_8, cv0_9, cvl0, cv1_2, cv1_3, cv1_4, cv1_5, cv1_6, cv1_7, cv1_8, cv1_9, cvl1, cv2, cv2_3, cv2_4, cv2_5, cv2_6, cv2_7, cv2_8, cv2_9, cvl2, cv3, cv3_2, cv3_4, cv3_5, cv3_6, cv3_7, cv3_8, cv3_9, cvl3, cv4, cv4_2, cv4_3, cv4_5, cv4_6, cv4_7, cv4_8, cv4_9, cvl4, cv5, cv5_2, cv5_3, cv5_4, cv5_6, cv5_7, cv5_8, cv5_9, cv6, cv6_2, cv6_3, cv6_4, cv6_5, cv6_7, cv6_8, cv6_9, cv7, cv7_2, cv7_3, cv7_4, cv7_5, cv7_6, cv7_8, cv7_9, cv8, cv8_2, cv8_3, cv8_4, cv8_5, cv8_6, cv8_7, cv8_9, cv9, cv9_2, cv9_3, cv9_4, cv9_5, cv9_6, cv9_7, cv9_8] | simp only [reduceIte, if_true, if_false, Bool.false_eq_true, reduceCtorEq, cVar_at m0, cVar_at m1, cVar_at m2, cVar_at m3, cVar_at m4, cVar_at m5] | with_reducible refine head_of t_law_guess_right_11.eq_1 ?_ | with_reducible refine head_of t_law_guess_right_10.eq_1 ?_ | with_reducible refine head_of t_law_guess_right_9.eq_1 ?_ | with_reducible refine head_of t_law_guess_right_8.eq_1 ?_ | with_reducible refine head_of t_law_guess_right_7.eq_1 ?_ | with_reducible refine head_of t_law_guess_right_6.eq_1 ?_ | with_reducible refine head_of t_law_guess_right_5.eq_1 ?_ | with_reducible refine head_of t_law_guess_right_4.eq_1 ?_ | with_reducible refine head_of t_law_guess_right_3.eq_1 ?_ | with_reducible refine head_of t_law_guess_right_2.eq_1 ?_ | with_reducible refine head_of t_law_guess_right_1.eq_1 ?_))
  refine ⟨by simp, fun rz hrz => ?_⟩
  have x3 : Ext H2 (updH H2 rz (.list [V.int 0, V.int 0, V.int 0, V.int 0])) := Ext.upd hrz
  have hzl := hzs.len (k := 4) (by (with_reducible exact cp1 (by assumption))) hleft4
  refine ⟨_, _, x3 _ _ hrl, updH_same .., by rw [iv_length]; simp; (clear hw hw9 hD0 hD1 hl0 hl1 hr0 hr1 hQ hB hB9 hBpos hBB hBBB p2 p3 p4 hBB4 hlD hleft0 hleftD hBD hleft4; lia), fun rs hrs => ?_⟩
  have eiv : iv zs ++ [V.int 0, V.int 0, V.int 0, V.int 0] = iv (zs ++ [0, 0, 0, 0]) := by simp [iv]
  rw [eiv]
  refine ⟨by decide, cut_take (updH_same ..) (by simp; lia) fun rr hrr => ?_⟩
  have etk : List.take (Int.toNat 4) (zs ++ [0, 0, 0, 0]) = zs ++ List.replicate (4 - zs.length) 0 := by
    rw [show Int.toNat 4 = 4 from rfl, show ([0, 0, 0, 0] : List Int) = List.replicate 4 0 from rfl, List.take_append, List.take_of_length_le (by (with_reducible assumption)), List.take_replicate, Nat.min_eq_left (by (clear hw hw9 hD0 hD1 hl0 hl1 hr0 hr1 hQ hB hB9 hBpos hBB hBBB p2 p3 p4 hBB4 hlD hleft0 hleftD hBD hleft4 hzl; omega))]
  rw [etk]
  have x4 := x3.trans ((Ext.upd (o := O.list (iv (zs ++ [0, 0, 0, 0]))) hrs).trans (Ext.upd (o := O.list (iv (zs ++ List.replicate (4 - zs.length) 0))) hrr))
  generalize hRdef : zs ++ List.replicate (4 - zs.length) 0 = R at x4 ⊢
  have hRl : R.length = 4 := by rw [← hRdef]; simp; (clear hw hw9 hD0 hD1 hl0 hl1 hr0 hr1 hQ hB hB9 hBpos hBB hBBB p2 p3 p4 hBB4 hlD hleft0 hleftD hBD hleft4; omega)
  have dR : Dig (2 ^ w) R := by rw [← hRdef]; exact hzs.dig.append (Dig.zeros hBpos _)
  have hRv : val (2 ^ w) R = left := by rw [← hRdef, val_append, val_zeros, hzs.eq]; simp
  generalize hH5 : updH _ rr (O.list (iv R)) = H5 at x4 ⊢
  have hH5R : H5 rr = some (.list (iv R)) := by rw [← hH5, updH_same]
  have hrr2 : H2 rr = none := (x3.trans (Ext.upd (o := O.list (iv (zs ++ [0, 0, 0, 0]))) hrs)).free hrr
  have hrr0 : H rr = none := (x1.trans x2).free hrr2
  have hb5 : H5 rb = some (.list (iv bs)) := x4 _ _ (x2 _ _ hrb)
  have nrb : rr ≠ rb := by
    rintro rfl
    rw [x2 _ _ hrb] at hrr2
    cases hrr2
  have xx5 : Ext H H5 := (x1.trans x2).trans x4
  -- the divisor's three limbs
  have hbl1 := hbs.len (k := 3) (by (with_reducible exact cp1 (by assumption))) (by rw [p3]; exact hD1)
  have hbl2 : 2 < bs.length := by
    have h1 := val_lt hBpos hbs.dig
    rw [hbs.eq] at h1
    exact pow_lt_pow (B := 2 ^ w) (by (with_reducible exact cp1 (by assumption))) (by rw [p2]; (clear hw hw9 hD1 hl0 hl1 hr0 hr1 hQ hB hB9 hBpos hBB hBBB p2 p3 p4 hBB4 hlD hleft0 hleftD hBD hleft4 hzl hRl hRv nrb hbl1; lia))
  obtain ⟨b0, b1, b2, rfl⟩ := len3 (xs := bs) (by (clear hw hw9 hD0 hD1 hl0 hl1 hr0 hr1 hQ hB hB9 hBpos hBB hBBB p2 p3 p4 hBB4 hlD hleft0 hleftD hBD hleft4 hzl hRl hRv nrb; lia))
  have d0 := hbs.dig.head
  have d1 := hbs.dig.tail.head
  have d2 := hbs.dig.tail.tail.head
  have hb2 : 0 < b2 := norm_top hbs.dig hbs.norm (by simp)
  have hbv := hbs.eq
  simp only [val, Int.mul_zero, Int.add_zero] at hbv
  obtain ⟨y0, y1, y2, y3, rfl⟩ := len4 hRl
  have e0 := dR.head
  have e1 := dR.tail.head
  have hRv' := hRv
  simp only [val, Int.mul_zero, Int.add_zero] at hRv'
  (repeat (first | dsimp only [sCons, sNil, sAssign, sAssign2, sIf, sRet, sExpr, eCall, aNil, aCons, cInt, cBool, cBin, eCmp, eIf, eAnd, eList, eIdx, eSlice, tCmp, tAnd, tAndNil, tOr, tOrNil, pNone, pSome, oAdd_i, oSub_i, oMul_i, oFdiv_i, oMod_i, oPow_i, kGt_i, kEq_i, kNe_i, oAdd_r, oMul_r, fLen_r, vBool_b, vInt_i, vRef_r, LoopQ_next, LoopQ_ret, retQ_next, retQ_ret, cv0_2, cv0_3, cv0_4, cv0_5, cv0_6, cv0_7, cv0_8, cv0_9, cvl0, cv1_2, cv1_3, cv1_4, cv1_5, cv1_6, cv1_7, cv1_8, cv1_9, cvl1, cv2, cv2_3, cv2_4, cv2_5, cv2_6, cv2_7, cv2_8, cv2_9, cvl2, cv3, cv3_2, cv3_4, cv3_5, cv3_6, cv3_7, cv3_8, cv3_9, cvl3, cv4, cv4_2, cv4_3, cv4_5, cv4_6, cv4_7, cv4_8, cv4_9, cvl4, cv5, cv5_2, cv5_3, cv5_4, cv5_6, cv5_7, cv5_8, cv5_9, cv6, cv6_2, cv6_3, cv6_4, cv6_5, cv6_7, cv6_8, cv6_9, cv7, cv7_2, cv7_3, cv7_4, cv7_5, cv7_6, cv7_8, cv7_9, cv8, cv8_2, cv8_3, cv8_4, cv8_5, cv8_6, cv8_7, cv8_9, cv9, cv9_2, cv9_3, cv9_4, cv9_5, cv9_6, cv9_7, cv9_8] | simp only [reduceIte, if_true, if_false, Bool.false_eq_true, reduceCtorEq, cVar_at m0, cVar_at m1, cVar_at m2, cVar_at m3, cVar_at m4, cVar_at m5] | with_reducible refine head_of t_law_guess_right_11.eq_1 ?_ | with_reducible refine head_of t_law_guess_right_10.eq_1 ?_ | with_reducible refine head_of t_law_guess_right_9.eq_1 ?_ | with_reducible refine head_of t_law_guess_right_8.eq_1 ?_ | with_reducible refine head_of t_law_guess_right_7.eq_1 ?_ | with_reducible refine head_of t_law_guess_right_6.eq_1 ?_ | with_reducible refine head_of t_law_guess_right_5.eq_1 ?_ | with_reducible refine head_of t_law_guess_right_4.eq_1 ?_ | with_reducible refine head_of t_law_guess_right_3.eq_1 ?_ | with_reducible refine head_of t_law_guess_right_2.eq_1 ?_ | with_reducible refine head_of t_law_guess_right_1.eq_1 ?_))
  refine ⟨by decide, cut_drop hH5R (by simp) fun rt hrt => ?_⟩
  rw [show List.drop (Int.toNat 1) [y0, y1, y2, y3] = [y1, y2, y3] from rfl]
  have x6 : Ext H5 (updH H5 rt (O.list (iv [y1, y2, y3]))) := Ext.upd hrt
  (repeat (first | dsimp only [sCons, sNil, sAssign, sAssign2, sIf, sRet, sExpr, eCall, aNil, aCons, cInt, cBool, cBin, eCmp, eIf, eAnd, eList, eIdx, eSlice, tCmp, tAnd, tAndNil, tOr, tOrNil, pNone, pSome, oAdd_i, oSub_i, oMul_i, oFdiv_i, oMod_i, oPow_i, kGt_i, kEq_i, kNe_i, oAdd_r, oMul_r, fLen_r, vBool_b, vInt_i, vRef_r, LoopQ_next, LoopQ_ret, retQ_next, retQ_ret, cv0_2, cv0_3, cv0_4, cv0_5, cv0_6, cv0_7, cv0_8, cv0_9, cvl0, cv1_2, cv1_3, cv1_4, cv1_5, cv1_6, cv1_7, cv1_8, cv1_9, cvl1, cv2, cv2_3, cv2_4, cv2_5, cv2_6, cv2_7, cv2_8, cv2_9, cvl2, cv3, cv3_2, cv3_4, cv3_5, cv3_6, cv3_7, cv3_8, cv3_9, cvl3, cv4, cv4_2, cv4_3, cv4_5, cv4_6, cv4_7, cv4_8, cv4_9, cvl4, cv5, cv5_2, cv5_3, cv5_4, cv5_6, cv5_7, cv5_8, cv5_9, cv6, cv6_2, cv6_3, cv6_4, cv6_5, cv6_7, cv6_8, cv6_9, cv7, cv7_2, cv7_3, cv7_4, cv7_5, cv7_6, cv7_8, cv7_9, cv8, cv8_2, cv8_3, cv8_4, cv8_5, cv8_6, cv8_7, cv8_9, cv9, cv9_2, cv9_3, cv9_4, cv9_5, cv9_6, cv9_7, cv9_8] | simp only [reduceIte, if_true, if_false, Bool.false_eq_true, reduceCtorEq, cVar_at m0, cVar_at m1, cVar_at m2, cVar_at m3, cVar_at m4, cVar_at m5] | with_reducible refine head_of t_law_guess_right_11.eq_1 ?_ | with_reducible refine head_of t_law_guess_right_10.eq_1 ?_ | with_reducible refine head_of t_law_guess_right_9.eq_1 ?_ | with_reducible refine head_of t_law_guess_right_8.eq_1 ?_ | with_reducible refine head_of t_law_guess_right_7.eq_1 ?_ | with_reducible refine head_of t_law_guess_right_6.eq_1 ?_ | with_reducible refine head_of t_law_guess_right_5.eq_1 ?_ | with_reducible refine head_of t_law_guess_right_4.eq_1 ?_ | with_reducible refine head_of t_law_guess_right_3.eq_1 ?_ | with_reducible refine head_of t_law_guess_right_2.eq_1 ?_ | with_reducible refine head_of t_law_guess_right_1.eq_1 ?_))
  refine idx_iv (x6 _ _ hb5) (by decide) (by simp) (by simp) ?_
  (repeat (first | dsimp only [sCons, sNil, sAssign, sAssign2, sIf, sRet, sExpr, eCall, aNil, aCons, cInt, cBool, cBin, eCmp, eIf, eAnd, eList, eIdx, eSlice, tCmp, tAnd, tAndNil, tOr, tOrNil, pNone, pSome, oAdd_i, oSub_i, oMul_i, oFdiv_i, oMod_i, oPow_i, kGt_i, kEq_i, kNe_i, oAdd_r, oMul_r, fLen_r, vBool_b, vInt_i, vRef_r, LoopQ_next, LoopQ_ret, retQ_next, retQ_ret, cv0_2, cv0_3, cv0_4, cv0_5, cv0_6, cv0_7, cv0_8, cv0_9, cvl0, cv1_2, cv1_3, cv1_4, cv1_5, cv1_6, cv1_7, cv1_8, cv1_9, cvl1, cv2, cv2_3, cv2_4, cv2_5, cv2_6, cv2_7, cv2_8, cv2_9, cvl2, cv3, cv3_2, cv3_4, cv3_5, cv3_6, cv3_7, cv3_8, cv3_9, cvl3, cv4, cv4_2, cv4_3, cv4_5, cv4_6, cv4_7, cv4_8, cv4_9, cvl4, cv5, cv5_2, cv5_3, cv5_4, cv5_6, cv5_7, cv5_8, cv5_9, cv6, cv6_2, cv6_3, cv6_4, cv6_5, cv6_7, cv6_8, cv6_9, cv7, cv7_2, cv7_3, cv7_4, cv7_5, cv7_6, cv7_8, cv7_9, cv8, cv8_2, cv8_3, cv8_4, cv8_5, cv8_6, cv8_7, cv8_9, cv9, cv9_2, cv9_3, cv9_4, cv9_5, cv9_6, cv9_7, cv9_8] | simp only [reduceIte, if_true, if_false, Bool.false_eq_true, reduceCtorEq, cVar_at m0, cVar_at m1, cVar_at m2, cVar_at m3, cVar_at m4, cVar_at m5] | with_reducible refine head_of t_law_guess_right_11.eq_1 ?_ | with_reducible refine head_of t_law_guess_right_10.eq_1 ?_ | with_reducible refine head_of t_law_guess_right_9.eq_1 ?_ | with_reducible refine head_of t_law_guess_right_8.eq_1 ?_ | with_reducible refine head_of t_law_guess_right_7.eq_1 ?_ | with_reducible refine head_of t_law_guess_right_6.eq_1 ?_ | with_reducible refine head_of t_law_guess_right_5.eq_1 ?_ | with_reducible refine head_of t_law_guess_right_4.eq_1 ?_ | with_reducible refine head_of t_law_guess_right_3.eq_1 ?_ | with_reducible refine head_of t_law_guess_right_2.eq_1 ?_ | with_reducible refine head_of t_law_guess_right_1.eq_1 ?_))
  refine idx_iv (x6 _ _ hb5) (by decide) (by simp) (by simp) ?_
  (repeat (first | dsimp only [sCons, sNil, sAssign, sAssign2, sIf, sRet, sExpr, eCall, aNil, aCons, cInt, cBool, cBin, eCmp, eIf, eAnd, eList, eIdx, eSlice, tCmp, tAnd, tAndNil, tOr, tOrNil, pNone, pSome, oAdd_i, oSub_i, oMul_i, oFdiv_i, oMod_i, oPow_i, kGt_i, kEq_i, kNe_i, oAdd_r, oMul_r, fLen_r, vBool_b, vInt_i, vRef_r, LoopQ_next, LoopQ_ret, retQ_next, retQ_ret, cv0_2, cv0_3, cv0_4, cv0_5, cv0_6, cv0_7, cv0_8, cv0_9, cvl0, cv1_2, cv1_3, cv1_4, cv1_5, cv1_6, cv1_7, cv1_8, cv1_9, cvl1, cv2, cv2_3, cv2_4, cv2_5, cv2_6, cv2_7, cv2_8, cv2_9, cvl2, cv3, cv3_2, cv3_4, cv3_5, cv3_6, cv3_7, cv3_8, cv3_9, cvl3, cv4, cv4_2, cv4_3, cv4_5, cv4_6, cv4_7, cv4_8, cv4_9, cvl4, cv5, cv5_2, cv5_3, cv5_4, cv5_6, cv5_7, cv5_8, cv5_9, cv6, cv6_2, cv6_3, cv6_4, cv6_5, cv6_7, cv6_8, cv6_9, cv7, cv7_2, cv7_3, cv7_4, cv7_5, cv7_6, cv7_8, cv7_9, cv8, cv8_2, cv8_3, cv8_4, cv8_5, cv8_6, cv8_7, cv8_9, cv9, cv9_2, cv9_3, cv9_4, cv9_5, cv9_6, cv9_7, cv9_8] | simp only [reduceIte, if_true, if_false, Bool.false_eq_true, reduceCtorEq, cVar_at m0, cVar_at m1, cVar_at m2, cVar_at m3, cVar_at m4, cVar_at m5] | with_reducible refine head_of t_law_guess_right_11.eq_1 ?_ | with_reducible refine head_of t_law_guess_right_10.eq_1 ?_ | with_reducible refine head_of t_law_guess_right_9.eq_1 ?_ | with_reducible refine head_of t_law_guess_right_8.eq_1 ?_ | with_reducible refine head_of t_law_guess_right_7.eq_1 ?_ | with_reducible refine head_of t_law_guess_right_6.eq_1 ?_ | with_reducible refine head_of t_law_guess_right_5.eq_1 ?_ | with_reducible refine head_of t_law_guess_right_4.eq_1 ?_ | with_reducible refine head_of t_law_guess_right_3.eq_1 ?_ | with_reducible refine head_of t_law_guess_right_2.eq_1 ?_ | with_reducible refine head_of t_law_guess_right_1.eq_1 ?_))
  simp only [show Int.toNat 2 = 2 from rfl, show Int.toNat 1 = 1 from rfl, List.getD_cons_succ, List.getD_cons_zero]
  refine ⟨rt, y1, y2, y3, b2, b1, w, rfl, updH_same .., by (with_reducible exact cge2 (by assumption)), hw9, dR.tail, hb2, d2.2, d1.1, d1.2, fun g hg0 hg1 hgle hgor => ?_⟩
  obtain ⟨gA, gB⟩ := guess_ok (B := 2 ^ w) (f := b2) (s := b1) (D := D) (P := 2 ^ w) (lowD := b0) (N3 := (y3 * 2 ^ w + y2) * 2 ^ w + y1) (low := y0) (seg := left) (g := g)
    hB hb2 d1.1 hBpos (by grind) d0.1 d0.2 (by grind) e0.1 e0.2 hg0 hg1 hgle hgor hleft0 hleftD
  have hgl : g = limb ∨ g = limb + 1 := by
    have c1 : limb < g + 1 := Int.lt_of_mul_lt_mul_right (show limb * D < (g + 1) * D by (clear hw hw9 hD0 hD1 hl0 hl1 hr1 hQ hB hB9 hBpos hBB hBBB p2 p3 p4 hBB4 hlD hleft0 hleftD hBD hleft4 hzl nrb hbl1 hbl2 d0 d1 d2 hb2 hbv hRl hRv e0 e1 hRv' hg0 hg1 hgle hgor gB; omega)) (by (clear hw hw9 hD1 hl0 hl1 hr0 hr1 hQ hB hB9 hBpos hBB hBBB p2 p3 p4 hlD hleft0 hleftD hBD hleft4 hzl nrb hbl1 hbl2 d0 d1 d2 hb2 hbv hRl hRv e0 e1 hRv' hg0 hg1 hgle hgor gA gB; omega))
    have c2 : g - 1 < limb + 1 := Int.lt_of_mul_lt_mul_right (show (g - 1) * D < (limb + 1) * D by (clear hw hw9 hD0 hD1 hl0 hl1 hr0 hQ hB hB9 hBpos hBB hBBB p2 p3 p4 hBB4 hlD hleft0 hleftD hBD hleft4 hzl nrb hbl1 hbl2 d0 d1 d2 hb2 hbv hRl hRv e0 e1 hRv' hg0 hg1 hgle hgor gA c1; omega)) (by (clear hw hw9 m0 m1 m2 m3 m4 m5 hD1 hl0 hl1 hr0 hr1 hQ hB hB9 hBpos hBB hBBB p2 p3 p4 hBB4 hlD hleft0 hleftD hBD hleft4 x1 hrb0 x2 hrl0 hrl hzs hrz x3 hzl hrs eiv hrr etk x4 hrr2 hrr0 nrb xx5 hrb hbs hb5 hbl1 hbl2 d0 d1 d2 hb2 hbv hRdef hRl dR hRv hH5 hH5R e0 e1 hRv' hrt x6 hg0 hg1 hgle hgor gA gB c1; lia))
    (clear hw hw9 hD0 hD1 hl0 hl1 hr0 hr1 hQ hB hB9 hBpos hBB hBBB p2 p3 p4 hBB4 hlD hleft0 hleftD hBD hleft4 hzl nrb hbl1 hbl2 d0 d1 d2 hb2 hbv hRl hRv e0 e1 hRv' hg0 hg1 hgle hgor gA gB; lia)
  have hgB : g < 2 ^ w := by (clear hw hw9 hD0 hD1 hl0 hl1 hr0 hr1 hQ hB hB9 hBpos hBB hBBB p2 p3 p4 hBB4 hlD hleft0 hleftD hBD hleft4 hzl nrb hbl1 hbl2 d0 d1 d2 hb2 hbv hRl hRv e0 e1 hRv' hg0 hgle hgor gA gB hgl; lia)
  have htest : (decide (g ≠ limb) && decide (g ≠ limb + 1)) = false := by
    rcases hgl with h | h <;> simp [h]
  (repeat (first | dsimp only [sCons, sNil, sAssign, sAssign2, sIf, sRet, sExpr, eCall, aNil, aCons, cInt, cBool, cBin, eCmp, eIf, eAnd, eList, eIdx, eSlice, tCmp, tAnd, tAndNil, tOr, tOrNil, pNone, pSome, oAdd_i, oSub_i, oMul_i, oFdiv_i, oMod_i, oPow_i, kGt_i, kEq_i, kNe_i, oAdd_r, oMul_r, fLen_r, vBool_b, vInt_i, vRef_r, LoopQ_next, LoopQ_ret, retQ_next, retQ_ret, cv0_2, cv0_3, cv0_4, cv0_5, cv0_6, cv0_7, cv0_8, cv0_9, cvl0, cv1_2, cv1_3, cv1_4, cv1_5, cv1_6, cv1_7, cv1_8, cv1_9, cvl1, cv2, cv2_3, cv2_4, cv2_5, cv2_6, cv2_7, cv2_8, cv2_9, cvl2, cv3, cv3_2, cv3_4, cv3_5, cv3_6, cv3_7, cv3_8, cv3_9, cvl3, cv4, cv4_2, cv4_3, cv4_5, cv4_6, cv4_7, cv4_8, cv4_9, cvl4, cv5, cv5_2, cv5_3, cv5_4, cv5_6, cv5_7, cv5_8, cv5_9, cv6, cv6_2, cv6_3, cv6_4, cv6_5, cv6_7, cv6_8, cv6_9, cv7, cv7_2, cv7_3, cv7_4, cv7_5, cv7_6, cv7_8, cv7_9, cv8, cv8_2, cv8_3, cv8_4, cv8_5, cv8_6, cv8_7, cv8_9, cv9, cv9_2, cv9_3, cv9_4, cv9_5, cv9_6, cv9_7, cv9_8] | simp only [reduceIte, if_true, if_false, Bool.false_eq_true, reduceCtorEq, cVar_at m0, cVar_at m1, cVar_at m2, cVar_at m3, cVar_at m4, cVar_at m5] | with_reducible refine head_of t_law_guess_right_11.eq_1 ?_ | with_reducible refine head_of t_law_guess_right_10.eq_1 ?_ | with_reducible refine head_of t_law_guess_right_9.eq_1 ?_ | with_reducible refine head_of t_law_guess_right_8.eq_1 ?_ | with_reducible refine head_of t_law_guess_right_7.eq_1 ?_ | with_reducible refine head_of t_law_guess_right_6.eq_1 ?_ | with_reducible refine head_of t_law_guess_right_5.eq_1 ?_ | with_reducible refine head_of t_law_guess_right_4.eq_1 ?_ | with_reducible refine head_of t_law_guess_right_3.eq_1 ?_ | with_reducible refine head_of t_law_guess_right_2.eq_1 ?_ | with_reducible refine head_of t_law_guess_right_1.eq_1 ?_))
  have hcont : ∀ {P1 P2 : Prop}, P2 → (if decide (g ≠ limb) = true then if decide (g ≠ limb + 1) = true then P1 else P2 else P2) := fun {P1 P2} h => by
    rcases hgl with e | e
    · rw [decide_eq_false (show ¬ (g ≠ limb) by (clear hw hw9 hD0 hD1 hl0 hl1 hr0 hr1 hQ hB hB9 hBpos hBB hBBB p2 p3 p4 hBB4 hlD hleft0 hleftD hBD hleft4 hzl nrb hbl1 hbl2 d0 d1 d2 hb2 hbv hRl hRv e0 e1 hRv' hg0 hg1 hgle hgor gA gB hgB; lia))]; exact h
    · by_cases e2 : g ≠ limb
      · rw [decide_eq_true e2, decide_eq_false (show ¬ (g ≠ limb + 1) by (clear hw hw9 hD0 hD1 hl0 hl1 hr0 hr1 hQ hB hB9 hBpos hBB hBBB p2 p3 p4 hBB4 hlD hleft0 hleftD hBD hleft4 hzl nrb hbl1 hbl2 d0 d1 d2 hb2 hbv hRl hRv e0 e1 hRv' hg0 hg1 hgle hgor gA gB hgB e2; lia))]; exact h
      · rw [decide_eq_false e2]; exact h
  refine hcont ?_
  (repeat (first | dsimp only [sCons, sNil, sAssign, sAssign2, sIf, sRet, sExpr, eCall, aNil, aCons, cInt, cBool, cBin, eCmp, eIf, eAnd, eList, eIdx, eSlice, tCmp, tAnd, tAndNil, tOr, tOrNil, pNone, pSome, oAdd_i, oSub_i, oMul_i, oFdiv_i, oMod_i, oPow_i, kGt_i, kEq_i, kNe_i, oAdd_r, oMul_r, fLen_r, vBool_b, vInt_i, vRef_r, LoopQ_next, LoopQ_ret, retQ_next, retQ_ret, cv0_2, cv0_3, cv0_4, cv0_5, cv0_6, cv0_7, cv0_8, cv0_9, cvl0, cv1_2, cv1_3, cv1_4, cv1_5, cv1_6, cv1_7, cv1_8, cv1_9, cvl1, cv2, cv2_3, cv2_4, cv2_5, cv2_6, cv2_7, cv2_8, cv2_9, cvl2, cv3, cv3_2, cv3_4, cv3_5, cv3_6, cv3_7, cv3_8, cv3_9, cvl3, cv4, cv4_2, cv4_3, cv4_5, cv4_6, cv4_7, cv4_8, cv4_9, cvl4, cv5, cv5_2, cv5_3, cv5_4, cv5_6, cv5_7, cv5_8, cv5_9, cv6, cv6_2, cv6_3, cv6_4, cv6_5, cv6_7, cv6_8, cv6_9, cv7, cv7_2, cv7_3, cv7_4, cv7_5, cv7_6, cv7_8, cv7_9, cv8, cv8_2, cv8_3, cv8_4, cv8_5, cv8_6, cv8_7, cv8_9, cv9, cv9_2, cv9_3, cv9_4, cv9_5, cv9_6, cv9_7, cv9_8] | simp only [reduceIte, if_true, if_false, Bool.false_eq_true, reduceCtorEq, cVar_at m0, cVar_at m1, cVar_at m2, cVar_at m3, cVar_at m4, cVar_at m5] | with_reducible refine head_of t_law_guess_right_11.eq_1 ?_ | with_reducible refine head_of t_law_guess_right_10.eq_1 ?_ | with_reducible refine head_of t_law_guess_right_9.eq_1 ?_ | with_reducible refine head_of t_law_guess_right_8.eq_1 ?_ | with_reducible refine head_of t_law_guess_right_7.eq_1 ?_ | with_reducible refine head_of t_law_guess_right_6.eq_1 ?_ | with_reducible refine head_of t_law_guess_right_5.eq_1 ?_ | with_reducible refine head_of t_law_guess_right_4.eq_1 ?_ | with_reducible refine head_of t_law_guess_right_3.eq_1 ?_ | with_reducible refine head_of t_law_guess_right_2.eq_1 ?_ | with_reducible refine head_of t_law_guess_right_1.eq_1 ?_))
  refine ⟨rr, rb, [], [y0, y1, y2, y3], [], [b0, b1, b2], g, w, rfl, rfl, by simpa using x6 _ _ hH5R, x6 _ _ hb5, nrb, by simp, by (with_reducible exact cge2 (by assumption)), hw9, dR, hbs.dig, hg0, hgB, fun S lack hSl dS hlack hSv => ?_⟩
  rw [hRv, hbs.eq] at hSv
  simp only [List.length_cons, List.length_nil, Nat.zero_add, Nat.reduceAdd] at hSl hSv
  have hS0 := val_nonneg hBpos dS
  have hS1 := val_lt hBpos dS
  rw [hSl] at hS1
  have hl1' : (limb + 1) * D = limb * D + D := by grind
  have hlack' : lack = if limb < g then 1 else 0 := by
    rcases hgl with e | e
    · rw [if_neg (by (clear hw hw9 hD0 hD1 hl0 hl1 hr0 hr1 hQ hB hB9 hBpos hBB hBBB p2 p3 p4 hBB4 hlD hleft0 hleftD hBD hleft4 hzl nrb hbl1 hbl2 d0 d1 d2 hb2 hbv hRl hRv e0 e1 hRv' hg0 hg1 hgle hgor gA gB hgB hcont hlack hSl hSv hS0 hS1 hl1'; lia))]
      rw [e] at hSv
      rcases hlack with h | h
      · exact h
      · rw [h] at hSv; (clear hw hw9 hD0 hD1 hl0 hl1 hr1 hQ hB hB9 hBpos hBB hBBB p2 p3 p4 hBB4 hlD hleft0 hleftD hBD hleft4 hzl nrb hbl1 hbl2 d0 d1 d2 hb2 hbv hRl hRv e0 e1 hRv' hg0 hg1 hgle hgor gA gB hgB hcont hSl hS0 hl1' e h; omega)
    · rw [if_pos (by (clear hw hw9 hD0 hD1 hl0 hl1 hr0 hr1 hQ hB hB9 hBpos hBB hBBB p2 p3 p4 hBB4 hlD hleft0 hleftD hBD hleft4 hzl nrb hbl1 hbl2 d0 d1 d2 hb2 hbv hRl hRv e0 e1 hRv' hg0 hg1 hgle hgor gA gB hgB hcont hlack hSl hSv hS0 hS1 hl1'; lia))]
      rw [e, hl1'] at hSv
      rcases hlack with h | h
      · rw [h] at hSv; (clear hw hw9 hD0 hD1 hl0 hl1 hr0 hQ hB hB9 hBpos hBB hBBB p2 p3 p4 hBB4 hlD hleft0 hleftD hBD hleft4 hzl nrb hbl1 hbl2 d0 d1 d2 hb2 hbv hRl hRv e0 e1 hRv' hg0 hg1 hgle hgor gA gB hgB hcont hSl hS1 e h; lia)
      · exact h
  have x7 : Ext H (updH (updH H5 rt (O.list (iv [y1, y2, y3]))) rr (.list (iv ([] ++ S ++ [])))) := xx5.trans x6 |>.over hrr0
  simp only [List.nil_append, List.append_nil] at x7 ⊢
  generalize hH7 : updH (updH H5 rt (O.list (iv [y1, y2, y3]))) rr (.list (iv S)) = H7 at x7 ⊢
  have hH7R : H7 rr = some (.list (iv S)) := by rw [← hH7, updH_same]
  have hH7b : H7 rb = some (.list (iv [b0, b1, b2])) := by rw [← hH7, updH_ne _ _ (Ne.symm nrb)]; exact x6 _ _ hb5
  (repeat (first | dsimp only [sCons, sNil, sAssign, sAssign2, sIf, sRet, sExpr, eCall, aNil, aCons, cInt, cBool, cBin, eCmp, eIf, eAnd, eList, eIdx, eSlice, tCmp, tAnd, tAndNil, tOr, tOrNil, pNone, pSome, oAdd_i, oSub_i, oMul_i, oFdiv_i, oMod_i, oPow_i, kGt_i, kEq_i, kNe_i, oAdd_r, oMul_r, fLen_r, vBool_b, vInt_i, vRef_r, LoopQ_next, LoopQ_ret, retQ_next, retQ_ret, cv0_2, cv0_3, cv0_4, cv0_5, cv0_6, cv0_7, cv0_8, cv0_9, cvl0, cv1_2, cv1_3, cv1_4, cv1_5, cv1_6, cv1_7, cv1_8, cv1_9, cvl1, cv2, cv2_3, cv2_4, cv2_5, cv2_6, cv2_7, cv2_8, cv2_9, cvl2, cv3, cv3_2, cv3_4, cv3_5, cv3_6, cv3_7, cv3_8, cv3_9, cvl3, cv4, cv4_2, cv4_3, cv4_5, cv4_6, cv4_7, cv4_8, cv4_9, cvl4, cv5, cv5_2, cv5_3, cv5_4, cv5_6, cv5_7, cv5_8, cv5_9, cv6, cv6_2, cv6_3, cv6_4, cv6_5, cv6_7, cv6_8, cv6_9, cv7, cv7_2, cv7_3, cv7_4, cv7_5, cv7_6, cv7_8, cv7_9, cv8, cv8_2, cv8_3, cv8_4, cv8_5, cv8_6, cv8_7, cv8_9, cv9, cv9_2, cv9_3, cv9_4, cv9_5, cv9_6, cv9_7, cv9_8] | simp only [reduceIte, if_true, if_false, Bool.false_eq_true, reduceCtorEq, cVar_at m0, cVar_at m1, cVar_at m2, cVar_at m3, cVar_at m4, cVar_at m5] | with_reducible refine head_of t_law_guess_right_11.eq_1 ?_ | with_reducible refine head_of t_law_guess_right_10.eq_1 ?_ | with_reducible refine head_of t_law_guess_right_9.eq_1 ?_ | with_reducible refine head_of t_law_guess_right_8.eq_1 ?_ | with_reducible refine head_of t_law_guess_right_7.eq_1 ?_ | with_reducible refine head_of t_law_guess_right_6.eq_1 ?_ | with_reducible refine head_of t_law_guess_right_5.eq_1 ?_ | with_reducible refine head_of t_law_guess_right_4.eq_1 ?_ | with_reducible refine head_of t_law_guess_right_3.eq_1 ?_ | with_reducible refine head_of t_law_guess_right_2.eq_1 ?_ | with_reducible refine head_of t_law_guess_right_1.eq_1 ?_))
  have hsplit : ∀ {P1 P2 : Prop}, P2 → (if decide (limb < g) = true then (if decide (lack ≠ 1) = true then P1 else P2) else (if decide (lack ≠ 0) = true then P1 else P2)) := fun {P1 P2} h => by
    by_cases e : limb < g
    · rw [decide_eq_true e]; rw [if_pos e] at hlack'; simp [hlack']; exact h
    · rw [decide_eq_false e]; rw [if_neg e] at hlack'; simp [hlack']; exact h
  refine hsplit ?_
  refine ⟨rr, S, w, rfl, hH7R, by (clear hw hw9 hD0 hD1 hl0 hl1 hr0 hr1 hQ hB hB9 hBpos hBB hBBB p2 p3 p4 hBB4 hlD hleft0 hleftD hBD hleft4 hzl nrb hbl1 hbl2 d0 d1 d2 hb2 hbv hRl hRv e0 e1 hRv' hg0 hg1 hgle hgor gA gB hgl hgB hcont hlack hSv hS0 hS1 hl1' hlack' hsplit; lia), by (with_reducible exact cge2 (by assumption)), hw9, dS, fun H8 x8 => ?_⟩
  (repeat (first | dsimp only [sCons, sNil, sAssign, sAssign2, sIf, sRet, sExpr, eCall, aNil, aCons, cInt, cBool, cBin, eCmp, eIf, eAnd, eList, eIdx, eSlice, tCmp, tAnd, tAndNil, tOr, tOrNil, pNone, pSome, oAdd_i, oSub_i, oMul_i, oFdiv_i, oMod_i, oPow_i, kGt_i, kEq_i, kNe_i, oAdd_r, oMul_r, fLen_r, vBool_b, vInt_i, vRef_r, LoopQ_next, LoopQ_ret, retQ_next, retQ_ret, cv0_2, cv0_3, cv0_4, cv0_5, cv0_6, cv0_7, cv0_8, cv0_9, cvl0, cv1_2, cv1_3, cv1_4, cv1_5, cv1_6, cv1_7, cv1_8, cv1_9, cvl1, cv2, cv2_3, cv2_4, cv2_5, cv2_6, cv2_7, cv2_8, cv2_9, cvl2, cv3, cv3_2, cv3_4, cv3_5, cv3_6, cv3_7, cv3_8, cv3_9, cvl3, cv4, cv4_2, cv4_3, cv4_5, cv4_6, cv4_7, cv4_8, cv4_9, cvl4, cv5, cv5_2, cv5_3, cv5_4, cv5_6, cv5_7, cv5_8, cv5_9, cv6, cv6_2, cv6_3, cv6_4, cv6_5, cv6_7, cv6_8, cv6_9, cv7, cv7_2, cv7_3, cv7_4, cv7_5, cv7_6, cv7_8, cv7_9, cv8, cv8_2, cv8_3, cv8_4, cv8_5, cv8_6, cv8_7, cv8_9, cv9, cv9_2, cv9_3, cv9_4, cv9_5, cv9_6, cv9_7, cv9_8] | simp only [reduceIte, if_true, if_false, Bool.false_eq_true, reduceCtorEq, cVar_at m0, cVar_at m1, cVar_at m2, cVar_at m3, cVar_at m4, cVar_at m5] | with_reducible refine head_of t_law_guess_right_11.eq_1 ?_ | with_reducible refine head_of t_law_guess_right_10.eq_1 ?_ | with_reducible refine head_of t_law_guess_right_9.eq_1 ?_ | with_reducible refine head_of t_law_guess_right_8.eq_1 ?_ | with_reducible refine head_of t_law_guess_right_7.eq_1 ?_ | with_reducible refine head_of t_law_guess_right_6.eq_1 ?_ | with_reducible refine head_of t_law_guess_right_5.eq_1 ?_ | with_reducible refine head_of t_law_guess_right_4.eq_1 ?_ | with_reducible refine head_of t_law_guess_right_3.eq_1 ?_ | with_reducible refine head_of t_law_guess_right_2.eq_1 ?_ | with_reducible refine head_of t_law_guess_right_1.eq_1 ?_))
  have hgD : g * D ≤ 2 ^ w * D := Int.mul_le_mul_of_nonneg_right (by (with_reducible exact Int.le_of_lt (by assumption))) (by (clear hw hw9 hD1 hl0 hl1 hr0 hr1 hQ hB hB9 hBpos hBB hBBB p2 p3 p4 hlD hleft0 hleftD hBD hleft4 hzl nrb hbl1 hbl2 d0 d1 d2 hb2 hbv hRl hRv e0 e1 hRv' hg0 hg1 hgle hgor gA gB hgl hgB hcont hlack hSl hSv hS0 hS1 hl1' hlack' hsplit; omega))
  refine ⟨Small.le (by (with_reducible exact cm62 (by assumption))) (by (with_reducible exact c62 (by assumption) (by assumption))), Small.le (by (clear hw hw9 hD1 hl0 hl1 hr0 hr1 hQ hB hB9 hBpos hBB hBBB p2 p3 p4 hlD hleft0 hleftD hBD hleft4 hzl nrb hbl1 hbl2 d0 d1 d2 hb2 hbv hRl hRv e0 e1 hRv' hg0 hg1 hgle hgor gA gB hgl hgB hcont hlack hSl hSv hS0 hS1 hl1' hlack' hsplit hgD m0 m1 m2 m3 m4 m5 hBB4 x1 hrb0 x2 hrl0 hrl hzs hrz x3 hrs eiv hrr etk x4 hrr2 hrr0 xx5 hrb hbs hb5 hRdef dR hH5 hH5R hrt x6 htest dS hH7 x7 hH7R hH7b x8; lia)) (by (clear hw hw9 hD0 hl0 hl1 hr0 hr1 hQ hB hB9 hBpos hBB p2 p3 p4 hBB4 hlD hleft0 hleftD hBD hleft4 hzl nrb hbl1 hbl2 d0 d1 d2 hb2 hbv hRl hRv e0 e1 hRv' hg0 hg1 hgle hgor gA gB hgl hgB hcont hlack hSl hSv hS0 hS1 hl1' hlack' hsplit hgD; lia)), by decide, by decide, by (clear hw hw9 hD0 hD1 hl0 hl1 hr0 hr1 hQ hBpos hBB hBBB p2 p3 p4 hBB4 hlD hleft0 hleftD hBD hleft4 hzl nrb hbl1 hbl2 d0 d1 d2 hb2 hbv hRl hRv e0 e1 hRv' hg0 hg1 hgle hgor gA gB hgl hgB hcont hlack hSl hSv hS0 hS1 hl1' hlack' hsplit hgD; lia), ?_⟩
  rw [show Int.toNat 4 = 4 from rfl]
  have hp4 : (0 : Int) < (2 ^ w) ^ 4 := Int.pow_pos hBpos
  refine ⟨by (with_reducible exact cpz (by assumption)), ?_⟩
  have hmod : (left - g * D).fmod ((2 ^ w) ^ 4) = val (2 ^ w) S := by
    rw [fmod_pos (by (with_reducible exact Int.le_of_lt (by assumption)))]
    have : left - g * D = val (2 ^ w) S + (2 ^ w) ^ 4 * (-lack) := by rw [hSv]; grind
    rw [this, Int.add_mul_emod_self_left, Int.emod_eq_of_lt hS0 hS1]
  rw [hmod, decide_eq_false (show ¬ (val (2 ^ w) S ≠ val (2 ^ w) S) by simp)]
  (repeat (first | dsimp only [sCons, sNil, sAssign, sAssign2, sIf, sRet, sExpr, eCall, aNil, aCons, cInt, cBool, cBin, eCmp, eIf, eAnd, eList, eIdx, eSlice, tCmp, tAnd, tAndNil, tOr, tOrNil, pNone, pSome, oAdd_i, oSub_i, oMul_i, oFdiv_i, oMod_i, oPow_i, kGt_i, kEq_i, kNe_i, oAdd_r, oMul_r, fLen_r, vBool_b, vInt_i, vRef_r, LoopQ_next, LoopQ_ret, retQ_next, retQ_ret, cv0_2, cv0_3, cv0_4, cv0_5, cv0_6, cv0_7, cv0_8, cv0_9, cvl0, cv1_2, cv1_3, cv1_4, cv1_5, cv1_6, cv1_7, cv1_8, cv1_9, cvl1, cv2, cv2_3, cv2_4, cv2_5, cv2_6, cv2_7, cv2_8, cv2_9, cvl2, cv3, cv3_2, cv3_4, cv3_5, cv3_6, cv3_7, cv3_8, cv3_9, cvl3, cv4, cv4_2, cv4_3, cv4_5, cv4_6, cv4_7, cv4_8, cv4_9, cvl4, cv5, cv5_2, cv5_3, cv5_4, cv5_6, cv5_7, cv5_8, cv5_9, cv6, cv6_2, cv6_3, cv6_4, cv6_5, cv6_7, cv6_8, cv6_9, cv7, cv7_2, cv7_3, cv7_4, cv7_5, cv7_6, cv7_8, cv7_9, cv8, cv8_2, cv8_3, cv8_4, cv8_5, cv8_6, cv8_7, cv8_9, cv9, cv9_2, cv9_3, cv9_4, cv9_5, cv9_6, cv9_7, cv9_8] | simp only [reduceIte, if_true, if_false, Bool.false_eq_true, reduceCtorEq, cVar_at m0, cVar_at m1, cVar_at m2, cVar_at m3, cVar_at m4, cVar_at m5] | with_reducible refine head_of t_law_guess_right_11.eq_1 ?_ | with_reducible refine head_of t_law_guess_right_10.eq_1 ?_ | with_reducible refine head_of t_law_guess_right_9.eq_1 ?_ | with_reducible refine head_of t_law_guess_right_8.eq_1 ?_ | with_reducible refine head_of t_law_guess_right_7.eq_1 ?_ | with_reducible refine head_of t_law_guess_right_6.eq_1 ?_ | with_reducible refine head_of t_law_guess_right_5.eq_1 ?_ | with_reducible refine head_of t_law_guess_right_4.eq_1 ?_ | with_reducible refine head_of t_law_guess_right_3.eq_1 ?_ | with_reducible refine head_of t_law_guess_right_2.eq_1 ?_ | with_reducible refine head_of t_law_guess_right_1.eq_1 ?_))
  have hxR : H8 rr = some (.list (iv S)) := x8 _ _ hH7R
  have hxb : H8 rb = some (.list (iv [b0, b1, b2])) := x8 _ _ hH7b
  have fin : ∀ (H9 : Hp) (T : List Int), H9 rr = some (.list (iv T)) → T.length = 4 → Dig (2 ^ w) T → val (2 ^ w) T = left - limb * D → Ext H H9 →
      P_law_whole [V.ref rr, V.int w] H9 fun x H1 => (Small limb ∧ Small D ∧ kEq x (V.int (left - limb * D)) H1 fun r H3 => vBool (V.bool r) fun x => if x = true then lenK rr H3 fun x H1 => kEq x (V.int 4) H1 fun r H3 => Q (V.bool r) H3 else Q (V.bool false) H3) := fun H9 T h1 h2 h3 h4 h5 => by
    refine ⟨rr, T, w, rfl, h1, by (clear hw hw9 hD0 hD1 hl0 hl1 hr0 hr1 hQ hB hB9 hBpos hBB hBBB p2 p3 p4 hBB4 hlD hleft0 hleftD hBD hleft4 hzl nrb hbl1 hbl2 d0 d1 d2 hb2 hbv hRl hRv e0 e1 hRv' hg0 hg1 hgle hgor gA gB hgl hgB hcont hlack hSl hSv hS0 hS1 hl1' hlack' hsplit hgD hp4 hmod h4; omega), by (with_reducible exact cge2 (by assumption)), hw9, h3, fun H10 x10 => ⟨Small.le (by (with_reducible exact cm62 (by assumption))) (by (with_reducible exact c62 (by assumption) (by assumption))), Small.le (by (clear hw hw9 hD1 hl0 hl1 hr0 hr1 hQ hB hB9 hBpos hBB hBBB p2 p3 p4 hlD hleft0 hleftD hBD hleft4 hzl nrb hbl1 hbl2 d0 d1 d2 hb2 hbv hRl hRv e0 e1 hRv' hg0 hg1 hgle hgor gA gB hgl hgB hcont hlack hSl hSv hS0 hS1 hl1' hlack' hsplit hgD hp4 hmod h2 h4; omega)) (by (clear hw hw9 hD0 hl0 hl1 hr0 hr1 hQ hB hB9 hBpos hBB p2 p3 p4 hBB4 hlD hleft0 hleftD hBD hleft4 hzl nrb hbl1 hbl2 d0 d1 d2 hb2 hbv hRl hRv e0 e1 hRv' hg0 hg1 hgle hgor gA gB hgl hgB hcont hlack hSl hSv hS0 hS1 hl1' hlack' hsplit hgD hp4 hmod h2 h4; omega)), ?_⟩⟩
    rw [h4]
    (repeat (first | dsimp only [sCons, sNil, sAssign, sAssign2, sIf, sRet, sExpr, eCall, aNil, aCons, cInt, cBool, cBin, eCmp, eIf, eAnd, eList, eIdx, eSlice, tCmp, tAnd, tAndNil, tOr, tOrNil, pNone, pSome, oAdd_i, oSub_i, oMul_i, oFdiv_i, oMod_i, oPow_i, kGt_i, kEq_i, kNe_i, oAdd_r, oMul_r, fLen_r, vBool_b, vInt_i, vRef_r, LoopQ_next, LoopQ_ret, retQ_next, retQ_ret, cv0_2, cv0_3, cv0_4, cv0_5, cv0_6, cv0_7, cv0_8, cv0_9, cvl0, cv1_2, cv1_3, cv1_4, cv1_5, cv1_6, cv1_7, cv1_8, cv1_9, cvl1, cv2, cv2_3, cv2_4, cv2_5, cv2_6, cv2_7, cv2_8, cv2_9, cvl2, cv3, cv3_2, cv3_4, cv3_5, cv3_6, cv3_7, cv3_8, cv3_9, cvl3, cv4, cv4_2, cv4_3, cv4_5, cv4_6, cv4_7, cv4_8, cv4_9, cvl4, cv5, cv5_2, cv5_3, cv5_4, cv5_6, cv5_7, cv5_8, cv5_9, cv6, cv6_2, cv6_3, cv6_4, cv6_5, cv6_7, cv6_8, cv6_9, cv7, cv7_2, cv7_3, cv7_4, cv7_5, cv7_6, cv7_8, cv7_9, cv8, cv8_2, cv8_3, cv8_4, cv8_5, cv8_6, cv8_7, cv8_9, cv9, cv9_2, cv9_3, cv9_4, cv9_5, cv9_6, cv9_7, cv9_8] | simp only [reduceIte, if_true, if_false, Bool.false_eq_true, reduceCtorEq, decide_true] | with_reducible refine head_of t_law_guess_right_11.eq_1 ?_ | with_reducible refine head_of t_law_guess_right_10.eq_1 ?_ | with_reducible refine head_of t_law_guess_right_9.eq_1 ?_ | with_reducible refine head_of t_law_guess_right_8.eq_1 ?_ | with_reducible refine head_of t_law_guess_right_7.eq_1 ?_ | with_reducible refine head_of t_law_guess_right_6.eq_1 ?_ | with_reducible refine head_of t_law_guess_right_5.eq_1 ?_ | with_reducible refine head_of t_law_guess_right_4.eq_1 ?_ | with_reducible refine head_of t_law_guess_right_3.eq_1 ?_ | with_reducible refine head_of t_law_guess_right_2.eq_1 ?_ | with_reducible refine head_of t_law_guess_right_1.eq_1 ?_))
    refine len_iv (x10 _ _ h1) (by (clear hw hw9 hD0 hD1 hl0 hl1 hr0 hr1 hQ hB hB9 hBpos hBB hBBB p2 p3 p4 hBB4 hlD hleft0 hleftD hBD hleft4 hzl nrb hbl1 hbl2 d0 d1 d2 hb2 hbv hRl hRv e0 e1 hRv' hg0 hg1 hgle hgor gA gB hgl hgB hcont hlack hSl hSv hS0 hS1 hl1' hlack' hsplit hgD hp4 hmod h4; lia)) ?_
    rw [h2]
    (repeat (first | dsimp only [sCons, sNil, sAssign, sAssign2, sIf, sRet, sExpr, eCall, aNil, aCons, cInt, cBool, cBin, eCmp, eIf, eAnd, eList, eIdx, eSlice, tCmp, tAnd, tAndNil, tOr, tOrNil, pNone, pSome, oAdd_i, oSub_i, oMul_i, oFdiv_i, oMod_i, oPow_i, kGt_i, kEq_i, kNe_i, oAdd_r, oMul_r, fLen_r, vBool_b, vInt_i, vRef_r, LoopQ_next, LoopQ_ret, retQ_next, retQ_ret, cv0_2, cv0_3, cv0_4, cv0_5, cv0_6, cv0_7, cv0_8, cv0_9, cvl0, cv1_2, cv1_3, cv1_4, cv1_5, cv1_6, cv1_7, cv1_8, cv1_9, cvl1, cv2, cv2_3, cv2_4, cv2_5, cv2_6, cv2_7, cv2_8, cv2_9, cvl2, cv3, cv3_2, cv3_4, cv3_5, cv3_6, cv3_7, cv3_8, cv3_9, cvl3, cv4, cv4_2, cv4_3, cv4_5, cv4_6, cv4_7, cv4_8, cv4_9, cvl4, cv5, cv5_2, cv5_3, cv5_4, cv5_6, cv5_7, cv5_8, cv5_9, cv6, cv6_2, cv6_3, cv6_4, cv6_5, cv6_7, cv6_8, cv6_9, cv7, cv7_2, cv7_3, cv7_4, cv7_5, cv7_6, cv7_8, cv7_9, cv8, cv8_2, cv8_3, cv8_4, cv8_5, cv8_6, cv8_7, cv8_9, cv9, cv9_2, cv9_3, cv9_4, cv9_5, cv9_6, cv9_7, cv9_8] | simp only [reduceIte, if_true, if_false, Bool.false_eq_true, reduceCtorEq] | with_reducible refine head_of t_law_guess_right_11.eq_1 ?_ | with_reducible refine head_of t_law_guess_right_10.eq_1 ?_ | with_reducible refine head_of t_law_guess_right_9.eq_1 ?_ | with_reducible refine head_of t_law_guess_right_8.eq_1 ?_ | with_reducible refine head_of t_law_guess_right_7.eq_1 ?_ | with_reducible refine head_of t_law_guess_right_6.eq_1 ?_ | with_reducible refine head_of t_law_guess_right_5.eq_1 ?_ | with_reducible refine head_of t_law_guess_right_4.eq_1 ?_ | with_reducible refine head_of t_law_guess_right_3.eq_1 ?_ | with_reducible refine head_of t_law_guess_right_2.eq_1 ?_ | with_reducible refine head_of t_law_guess_right_1.eq_1 ?_))
    rw [show decide (((4 : Nat) : Int) = 4) = true from rfl]
    exact hQ H10 (h5.trans x10)
  by_cases e : limb < g
  · rw [if_pos e] at hlack'
    subst hlack'
    (repeat (first | dsimp only [sCons, sNil, sAssign, sAssign2, sIf, sRet, sExpr, eCall, aNil, aCons, cInt, cBool, cBin, eCmp, eIf, eAnd, eList, eIdx, eSlice, tCmp, tAnd, tAndNil, tOr, tOrNil, pNone, pSome, oAdd_i, oSub_i, oMul_i, oFdiv_i, oMod_i, oPow_i, kGt_i, kEq_i, kNe_i, oAdd_r, oMul_r, fLen_r, vBool_b, vInt_i, vRef_r, LoopQ_next, LoopQ_ret, retQ_next, retQ_ret, cv0_2, cv0_3, cv0_4, cv0_5, cv0_6, cv0_7, cv0_8, cv0_9, cvl0, cv1_2, cv1_3, cv1_4, cv1_5, cv1_6, cv1_7, cv1_8, cv1_9, cvl1, cv2, cv2_3, cv2_4, cv2_5, cv2_6, cv2_7, cv2_8, cv2_9, cvl2, cv3, cv3_2, cv3_4, cv3_5, cv3_6, cv3_7, cv3_8, cv3_9, cvl3, cv4, cv4_2, cv4_3, cv4_5, cv4_6, cv4_7, cv4_8, cv4_9, cvl4, cv5, cv5_2, cv5_3, cv5_4, cv5_6, cv5_7, cv5_8, cv5_9, cv6, cv6_2, cv6_3, cv6_4, cv6_5, cv6_7, cv6_8, cv6_9, cv7, cv7_2, cv7_3, cv7_4, cv7_5, cv7_6, cv7_8, cv7_9, cv8, cv8_2, cv8_3, cv8_4, cv8_5, cv8_6, cv8_7, cv8_9, cv9, cv9_2, cv9_3, cv9_4, cv9_5, cv9_6, cv9_7, cv9_8] | simp only [reduceIte, if_true, if_false, Bool.false_eq_true, reduceCtorEq, decide_true, cVar_at m0, cVar_at m1, cVar_at m2, cVar_at m3, cVar_at m4, cVar_at m5] | with_reducible refine head_of t_law_guess_right_11.eq_1 ?_ | with_reducible refine head_of t_law_guess_right_10.eq_1 ?_ | with_reducible refine head_of t_law_guess_right_9.eq_1 ?_ | with_reducible refine head_of t_law_guess_right_8.eq_1 ?_ | with_reducible refine head_of t_law_guess_right_7.eq_1 ?_ | with_reducible refine head_of t_law_guess_right_6.eq_1 ?_ | with_reducible refine head_of t_law_guess_right_5.eq_1 ?_ | with_reducible refine head_of t_law_guess_right_4.eq_1 ?_ | with_reducible refine head_of t_law_guess_right_3.eq_1 ?_ | with_reducible refine head_of t_law_guess_right_2.eq_1 ?_ | with_reducible refine head_of t_law_guess_right_1.eq_1 ?_))
    refine ⟨rr, rb, [], S, [], [b0, b1, b2], w, rfl, by simp [hSl], by simpa using hxR, hxb, nrb, by simp; (clear hw hw9 hD0 hD1 hl0 hl1 hr0 hr1 hQ hB hB9 hBpos hBB hBBB p2 p3 p4 hBB4 hlD hleft0 hleftD hBD hleft4 hzl nrb hbl1 hbl2 d0 d1 d2 hb2 hbv hRl hRv e0 e1 hRv' hg0 hg1 hgle hgor gA gB hgl hgB hcont hS0 hS1 hl1' hgD hp4 hmod fin e hlack hSv hsplit; lia), by (with_reducible exact cge2 (by assumption)), hw9, dS, hbs.dig, fun T over hTl dT hover hTv => ?_⟩
    rw [hbs.eq] at hTv
    simp only [List.length_cons, List.length_nil, Nat.zero_add, Nat.reduceAdd, List.nil_append, List.append_nil] at hTl hTv ⊢
    have hT0 := val_nonneg hBpos dT
    have hT1 := val_lt hBpos dT
    rw [hTl] at hT1
    have hg : g = limb + 1 := by (clear hw hw9 hD0 hD1 hl0 hl1 hr0 hr1 hQ hB hB9 hBpos hBB hBBB p2 p3 p4 hBB4 hlD hleft0 hleftD hBD hleft4 hzl nrb hbl1 hbl2 d0 d1 d2 hb2 hbv hRl hRv e0 e1 hRv' hg0 hg1 hgle hgor gA gB hgB hcont hSl hS0 hS1 hl1' hgD hp4 hmod fin hlack hSv hsplit hover hTl hTv hT0 hT1; lia)
    rw [hg, hl1'] at hSv
    have hTv' : val (2 ^ w) T = left - limb * D := by
      rcases hover with h | h
      · rw [h] at hTv; (clear hw hw9 hD0 hD1 hl0 hl1 hr1 hQ hB hB9 hBpos hBB hBBB p2 p3 p4 hBB4 hlD hleft0 hleftD hBD hleft4 hzl nrb hbl1 hbl2 d0 d1 d2 hb2 hbv hRl hRv e0 e1 hRv' hg0 hg1 hgle hgor gA gB hgl hgB hcont hSl hS0 hS1 hl1' hgD hp4 hmod fin e hlack hsplit hTl hT0 hg h; lia)
      · rw [h] at hTv; (clear hw hw9 hD0 hD1 hl0 hl1 hr0 hr1 hQ hB hB9 hBpos hBB hBBB p2 p3 p4 hBB4 hlD hleft0 hleftD hBD hleft4 hzl nrb hbl1 hbl2 d0 d1 d2 hb2 hbv hRl hRv e0 e1 hRv' hg0 hg1 hgle hgor gA gB hgl hgB hcont hSl hS0 hS1 hl1' hgD hp4 hmod fin e hlack hsplit hTl hT0 hT1 hg h; lia)
    (repeat (first | dsimp only [sCons, sNil, sAssign, sAssign2, sIf, sRet, sExpr, eCall, aNil, aCons, cInt, cBool, cBin, eCmp, eIf, eAnd, eList, eIdx, eSlice, tCmp, tAnd, tAndNil, tOr, tOrNil, pNone, pSome, oAdd_i, oSub_i, oMul_i, oFdiv_i, oMod_i, oPow_i, kGt_i, kEq_i, kNe_i, oAdd_r, oMul_r, fLen_r, vBool_b, vInt_i, vRef_r, LoopQ_next, LoopQ_ret, retQ_next, retQ_ret, cv0_2, cv0_3, cv0_4, cv0_5, cv0_6, cv0_7, cv0_8, cv0_9, cvl0, cv1_2, cv1_3, cv1_4, cv1_5, cv1_6, cv1_7, cv1_8, cv1_9, cvl1, cv2, cv2_3, cv2_4, cv2_5, cv2_6, cv2_7, cv2_8, cv2_9, cvl2, cv3, cv3_2, cv3_4, cv3_5, cv3_6, cv3_7, cv3_8, cv3_9, cvl3, cv4, cv4_2, cv4_3, cv4_5, cv4_6, cv4_7, cv4_8, cv4_9, cvl4, cv5, cv5_2, cv5_3, cv5_4, cv5_6, cv5_7, cv5_8, cv5_9, cv6, cv6_2, cv6_3, cv6_4, cv6_5, cv6_7, cv6_8, cv6_9, cv7, cv7_2, cv7_3, cv7_4, cv7_5, cv7_6, cv7_8, cv7_9, cv8, cv8_2, cv8_3, cv8_4, cv8_5, cv8_6, cv8_7, cv8_9, cv9, cv9_2, cv9_3, cv9_4, cv9_5, cv9_6, cv9_7, cv9_8] | simp only [reduceIte, if_true, if_false, Bool.false_eq_true, reduceCtorEq, cVar_at m0, cVar_at m1, cVar_at m2, cVar_at m3, cVar_at m4, cVar_at m5] | with_reducible refine head_of t_law_guess_right_11.eq_1 ?_ | with_reducible refine head_of t_law_guess_right_10.eq_1 ?_ | with_reducible refine head_of t_law_guess_right_9.eq_1 ?_ | with_reducible refine head_of t_law_guess_right_8.eq_1 ?_ | with_reducible refine head_of t_law_guess_right_7.eq_1 ?_ | with_reducible refine head_of t_law_guess_right_6.eq_1 ?_ | with_reducible refine head_of t_law_guess_right_5.eq_1 ?_ | with_reducible refine head_of t_law_guess_right_4.eq_1 ?_ | with_reducible refine head_of t_law_guess_right_3.eq_1 ?_ | with_reducible refine head_of t_law_guess_right_2.eq_1 ?_ | with_reducible refine head_of t_law_guess_right_1.eq_1 ?_))
    exact fin _ T (updH_same ..) hTl dT hTv' ((x7.trans x8).over hrr0)
  · rw [if_neg e] at hlack'
    subst hlack'
    rw [decide_eq_false (show ¬ ((0 : Int) = 1) by decide)]
    (repeat (first | dsimp only [sCons, sNil, sAssign, sAssign2, sIf, sRet, sExpr, eCall, aNil, aCons, cInt, cBool, cBin, eCmp, eIf, eAnd, eList, eIdx, eSlice, tCmp, tAnd, tAndNil, tOr, tOrNil, pNone, pSome, oAdd_i, oSub_i, oMul_i, oFdiv_i, oMod_i, oPow_i, kGt_i, kEq_i, kNe_i, oAdd_r, oMul_r, fLen_r, vBool_b, vInt_i, vRef_r, LoopQ_next, LoopQ_ret, retQ_next, retQ_ret, cv0_2, cv0_3, cv0_4, cv0_5, cv0_6, cv0_7, cv0_8, cv0_9, cvl0, cv1_2, cv1_3, cv1_4, cv1_5, cv1_6, cv1_7, cv1_8, cv1_9, cvl1, cv2, cv2_3, cv2_4, cv2_5, cv2_6, cv2_7, cv2_8, cv2_9, cvl2, cv3, cv3_2, cv3_4, cv3_5, cv3_6, cv3_7, cv3_8, cv3_9, cvl3, cv4, cv4_2, cv4_3, cv4_5, cv4_6, cv4_7, cv4_8, cv4_9, cvl4, cv5, cv5_2, cv5_3, cv5_4, cv5_6, cv5_7, cv5_8, cv5_9, cv6, cv6_2, cv6_3, cv6_4, cv6_5, cv6_7, cv6_8, cv6_9, cv7, cv7_2, cv7_3, cv7_4, cv7_5, cv7_6, cv7_8, cv7_9, cv8, cv8_2, cv8_3, cv8_4, cv8_5, cv8_6, cv8_7, cv8_9, cv9, cv9_2, cv9_3, cv9_4, cv9_5, cv9_6, cv9_7, cv9_8] | simp only [reduceIte, if_true, if_false, Bool.false_eq_true, reduceCtorEq, cVar_at m0, cVar_at m1, cVar_at m2, cVar_at m3, cVar_at m4, cVar_at m5] | with_reducible refine head_of t_law_guess_right_11.eq_1 ?_ | with_reducible refine head_of t_law_guess_right_10.eq_1 ?_ | with_reducible refine head_of t_law_guess_right_9.eq_1 ?_ | with_reducible refine head_of t_law_guess_right_8.eq_1 ?_ | with_reducible refine head_of t_law_guess_right_7.eq_1 ?_ | with_reducible refine head_of t_law_guess_right_6.eq_1 ?_ | with_reducible refine head_of t_law_guess_right_5.eq_1 ?_ | with_reducible refine head_of t_law_guess_right_4.eq_1 ?_ | with_reducible refine head_of t_law_guess_right_3.eq_1 ?_ | with_reducible refine head_of t_law_guess_right_2.eq_1 ?_ | with_reducible refine head_of t_law_guess_right_1.eq_1 ?_))
    have hg : g = limb := by (clear hw hw9 hD0 hD1 hl0 hl1 hr0 hr1 hQ hB hB9 hBpos hBB hBBB p2 p3 p4 hBB4 hlD hleft0 hleftD hBD hleft4 hzl nrb hbl1 hbl2 d0 d1 d2 hb2 hbv hRl hRv e0 e1 hRv' hg0 hg1 hgle hgor gA gB hgB hcont hSl hS0 hS1 hl1' hgD hp4 hmod fin hlack hSv hsplit; lia)
    rw [hg] at hSv
    exact fin H8 S hxR hSl dS (by (clear hw hw9 hD0 hD1 hl0 hl1 hr0 hr1 hQ hB hB9 hBpos hBB hBBB p2 p3 p4 hBB4 hlD hleft0 hleftD hBD hleft4 hzl nrb hbl1 hbl2 d0 d1 d2 hb2 hbv hRl hRv e0 e1 hRv' hg0 hg1 hgle hgor gA gB hgl hgB hcont hSl hS0 hS1 hl1' hgD hp4 hmod fin e hlack hsplit hg; lia)) (x7.trans x8)

theorem pu_law_guess_right (args : List V) (H : Hp) (Q : V → Hp → Prop) (h : P_law_guess_right args H Q) : args.length = 2 ∧ ps_law_guess_right (fun i => args[i]?) H (retQ Q) := by
  obtain ⟨p, w, rfl, hp, hw, hw9, hQ⟩ := h
  refine ⟨rfl, ?_⟩
  have hB9 := le_512 hw9
  have hhalf : (2 : Int) ^ (w - 1) * 2 = 2 ^ w := by rw [← Int.pow_succ]; congr 1; (clear hw9 hQ hB9; lia)
  have hh2 : (2 : Int) ≤ 2 ^ (w - 1) := two_le (show 1 ≤ w - 1 by (clear hw9 hQ hB9 hhalf; lia))
  have hB4 : (4 : Int) ≤ 2 ^ w := by (clear hw hw9 hQ hB9; lia)
  have hBpos : (0 : Int) < 2 ^ w := by (with_reducible exact cpos)
  obtain ⟨p2, p3, p4⟩ := pow_nat (2 ^ w)
  have hBB : (2 ^ w : Int) * 2 ^ w ≤ 512 * 512 := Int.mul_le_mul hB9 hB9 (by (with_reducible exact cposn)) (by decide)
  have hBBB : (2 ^ w : Int) * 2 ^ w * 2 ^ w ≤ 512 * 512 * 512 := Int.mul_le_mul hBB hB9 (by (with_reducible exact cposn)) (by decide)
  have hBB4 : (4 : Int) * 2 ^ w ≤ 2 ^ w * 2 ^ w := Int.mul_le_mul_of_nonneg_right hB4 (by (with_reducible exact cposn))
  have e3 : (2 ^ w : Int) * 2 ^ w * 2 ^ w = 2 * (2 ^ (w - 1) * (2 ^ w * 2 ^ w)) := by rw [← hhalf]; grind
  have e2 : (2 ^ w : Int) * 2 ^ w = 2 * (2 ^ (w - 1) * 2 ^ w) := by rw [← hhalf]; grind
  have hN2 : (2 : Int) * (2 ^ w * 2 ^ w) ≤ 2 ^ (w - 1) * (2 ^ w * 2 ^ w) := Int.mul_le_mul_of_nonneg_right hh2 (by (clear hw hw9 hQ hB9 hB4 hBpos p2 p3 p4 hBB hBBB e3 e2; lia))
  have hf3 : ((2 ^ w : Int) ^ 3).fdiv 2 = 2 ^ (w - 1) * (2 ^ w * 2 ^ w) := by rw [p3, e3, fdiv_pos (by decide)]; (clear hw hw9 hQ hB9 hhalf hh2 hB4 hBpos p2 p3 p4 hBB hBBB hBB4 e3 e2 hN2; omega)
  have hf2 : ((2 ^ w : Int) ^ 2).fdiv 2 = 2 ^ (w - 1) * 2 ^ w := by rw [p2, e2, fdiv_pos (by decide)]; (clear hw hw9 hQ hB9 hhalf hh2 hB4 hBpos p2 p3 p4 hBB hBBB hBB4 e3 e2 hN2 hf3; lia)
  have sm2 : Small 2 := Small.le (by decide) (by decide)
  have key : ∀ (m : Ev) (H' : Hp) (D : Int), m 0 = some (.ref p) → m 1 = some (.int w) → m 2 = some (.int (2 ^ w)) → m 3 = some (.int D) → 2 ^ w * 2 ^ w ≤ D → D < 2 ^ w * 2 ^ w * 2 ^ w → ExtBut p H H' → PoolOk p H' →
      t_law_guess_right_3 m H' (retQ Q) := fun m H' D m0 m1 m2 m3 hD0 hD1 x hpk => by
    with_reducible refine head_of t_law_guess_right_3.eq_1 ?_
    have hDp : 0 < D := by (clear hw hw9 hQ hB9 hB4 hBpos p2 p3 p4 hBB hBBB e3 e2 hN2 hf3 hf2 hD1; lia)
    (repeat (first | dsimp only [sCons, sNil, sAssign, sAssign2, sIf, sRet, sExpr, eCall, aNil, aCons, cInt, cBool, cBin, eCmp, eIf, eAnd, eList, eIdx, eSlice, tCmp, tAnd, tAndNil, tOr, tOrNil, pNone, pSome, oAdd_i, oSub_i, oMul_i, oFdiv_i, oMod_i, oPow_i, kGt_i, kEq_i, kNe_i, oAdd_r, oMul_r, fLen_r, vBool_b, vInt_i, vRef_r, LoopQ_next, LoopQ_ret, retQ_next, retQ_ret, cv0_2, cv0_3, cv0_4, cv0_5, cv0_6, cv0_7, cv0_8, cv0_9, cvl0, cv1_2, cv1_3, cv1_4, cv1_5, cv1_6, cv1_7, cv1_8, cv1_9, cvl1, cv2, cv2_3, cv2_4, cv2_5, cv2_6, cv2_7, cv2_8, cv2_9, cvl2, cv3, cv3_2, cv3_4, cv3_5, cv3_6, cv3_7, cv3_8, cv3_9, cvl3, cv4, cv4_2, cv4_3, cv4_5, cv4_6, cv4_7, cv4_8, cv4_9, cvl4, cv5, cv5_2, cv5_3, cv5_4, cv5_6, cv5_7, cv5_8, cv5_9, cv6, cv6_2, cv6_3, cv6_4, cv6_5, cv6_7, cv6_8, cv6_9, cv7, cv7_2, cv7_3, cv7_4, cv7_5, cv7_6, cv7_8, cv7_9, cv8, cv8_2, cv8_3, cv8_4, cv8_5, cv8_6, cv8_7, cv8_9, cv9, cv9_2, cv9_3, cv9_4, cv9_5, cv9_6, cv9_7, cv9_8] | simp only [reduceIte, if_true, if_false, Bool.false_eq_true, reduceCtorEq, cVar_at m0, cVar_at m1, cVar_at m2, cVar_at m3] | with_reducible refine head_of t_law_guess_right_11.eq_1 ?_ | with_reducible refine head_of t_law_guess_right_10.eq_1 ?_ | with_reducible refine head_of t_law_guess_right_9.eq_1 ?_ | with_reducible refine head_of t_law_guess_right_8.eq_1 ?_ | with_reducible refine head_of t_law_guess_right_7.eq_1 ?_ | with_reducible refine head_of t_law_guess_right_6.eq_1 ?_ | with_reducible refine head_of t_law_guess_right_4.eq_1 ?_ | with_reducible refine head_of t_law_guess_right_3.eq_1 ?_ | with_reducible refine head_of t_law_guess_right_2.eq_1 ?_ | with_reducible refine head_of t_law_guess_right_1.eq_1 ?_))
    refine ⟨p, _, rfl, hpk, hBpos, fun d1 H2 hd0 hd1 x2 hp2 => ?_⟩
    (repeat (first | dsimp only [sCons, sNil, sAssign, sAssign2, sIf, sRet, sExpr, eCall, aNil, aCons, cInt, cBool, cBin, eCmp, eIf, eAnd, eList, eIdx, eSlice, tCmp, tAnd, tAndNil, tOr, tOrNil, pNone, pSome, oAdd_i, oSub_i, oMul_i, oFdiv_i, oMod_i, oPow_i, kGt_i, kEq_i, kNe_i, oAdd_r, oMul_r, fLen_r, vBool_b, vInt_i, vRef_r, LoopQ_next, LoopQ_ret, retQ_next, retQ_ret, cv0_2, cv0_3, cv0_4, cv0_5, cv0_6, cv0_7, cv0_8, cv0_9, cvl0, cv1_2, cv1_3, cv1_4, cv1_5, cv1_6, cv1_7, cv1_8, cv1_9, cvl1, cv2, cv2_3, cv2_4, cv2_5, cv2_6, cv2_7, cv2_8, cv2_9, cvl2, cv3, cv3_2, cv3_4, cv3_5, cv3_6, cv3_7, cv3_8, cv3_9, cvl3, cv4, cv4_2, cv4_3, cv4_5, cv4_6, cv4_7, cv4_8, cv4_9, cvl4, cv5, cv5_2, cv5_3, cv5_4, cv5_6, cv5_7, cv5_8, cv5_9, cv6, cv6_2, cv6_3, cv6_4, cv6_5, cv6_7, cv6_8, cv6_9, cv7, cv7_2, cv7_3, cv7_4, cv7_5, cv7_6, cv7_8, cv7_9, cv8, cv8_2, cv8_3, cv8_4, cv8_5, cv8_6, cv8_7, cv8_9, cv9, cv9_2, cv9_3, cv9_4, cv9_5, cv9_6, cv9_7, cv9_8] | simp only [reduceIte, if_true, if_false, Bool.false_eq_true, reduceCtorEq, cVar_at m0, cVar_at m1, cVar_at m2, cVar_at m3] | with_reducible refine head_of t_law_guess_right_11.eq_1 ?_ | with_reducible refine head_of t_law_guess_right_10.eq_1 ?_ | with_reducible refine head_of t_law_guess_right_9.eq_1 ?_ | with_reducible refine head_of t_law_guess_right_8.eq_1 ?_ | with_reducible refine head_of t_law_guess_right_7.eq_1 ?_ | with_reducible refine head_of t_law_guess_right_6.eq_1 ?_ | with_reducible refine head_of t_law_guess_right_4.eq_1 ?_ | with_reducible refine head_of t_law_guess_right_3.eq_1 ?_ | with_reducible refine head_of t_law_guess_right_2.eq_1 ?_ | with_reducible refine head_of t_law_guess_right_1.eq_1 ?_))
    refine ⟨by simp, fun r hr => ?_⟩
    have x3 : Ext H2 (updH H2 r (.list [V.int (2 ^ w - 1), V.int (2 ^ w - 2), V.int 0, V.int 1, V.int d1])) := Ext.upd hr
    have hl : updH H2 r (.list [V.int (2 ^ w - 1), V.int (2 ^ w - 2), V.int 0, V.int 1, V.int d1]) r = some (.list (iv [2 ^ w - 1, 2 ^ w - 2, 0, 1, d1])) := updH_same ..
    generalize updH H2 r (.list [V.int (2 ^ w - 1), V.int (2 ^ w - 2), V.int 0, V.int 1, V.int d1]) = H3 at x3 hl ⊢
    have nrp : r ≠ p := by
      obtain ⟨o, ho⟩ := hp2.there
      exact (ne_fresh ho hr).symm
    refine ⟨p, _, rfl, hp2.ext x3, by decide, fun d2 H4 he0 he1 x4 hp4 => ?_⟩
    (repeat (first | dsimp only [sCons, sNil, sAssign, sAssign2, sIf, sRet, sExpr, eCall, aNil, aCons, cInt, cBool, cBin, eCmp, eIf, eAnd, eList, eIdx, eSlice, tCmp, tAnd, tAndNil, tOr, tOrNil, pNone, pSome, oAdd_i, oSub_i, oMul_i, oFdiv_i, oMod_i, oPow_i, kGt_i, kEq_i, kNe_i, oAdd_r, oMul_r, fLen_r, vBool_b, vInt_i, vRef_r, LoopQ_next, LoopQ_ret, retQ_next, retQ_ret, cv0_2, cv0_3, cv0_4, cv0_5, cv0_6, cv0_7, cv0_8, cv0_9, cvl0, cv1_2, cv1_3, cv1_4, cv1_5, cv1_6, cv1_7, cv1_8, cv1_9, cvl1, cv2, cv2_3, cv2_4, cv2_5, cv2_6, cv2_7, cv2_8, cv2_9, cvl2, cv3, cv3_2, cv3_4, cv3_5, cv3_6, cv3_7, cv3_8, cv3_9, cvl3, cv4, cv4_2, cv4_3, cv4_5, cv4_6, cv4_7, cv4_8, cv4_9, cvl4, cv5, cv5_2, cv5_3, cv5_4, cv5_6, cv5_7, cv5_8, cv5_9, cv6, cv6_2, cv6_3, cv6_4, cv6_5, cv6_7, cv6_8, cv6_9, cv7, cv7_2, cv7_3, cv7_4, cv7_5, cv7_6, cv7_8, cv7_9, cv8, cv8_2, cv8_3, cv8_4, cv8_5, cv8_6, cv8_7, cv8_9, cv9, cv9_2, cv9_3, cv9_4, cv9_5, cv9_6, cv9_7, cv9_8] | simp only [reduceIte, if_true, if_false, Bool.false_eq_true, reduceCtorEq] | with_reducible refine head_of t_law_guess_right_11.eq_1 ?_ | with_reducible refine head_of t_law_guess_right_10.eq_1 ?_ | with_reducible refine head_of t_law_guess_right_9.eq_1 ?_ | with_reducible refine head_of t_law_guess_right_8.eq_1 ?_ | with_reducible refine head_of t_law_guess_right_7.eq_1 ?_ | with_reducible refine head_of t_law_guess_right_6.eq_1 ?_ | with_reducible refine head_of t_law_guess_right_4.eq_1 ?_ | with_reducible refine head_of t_law_guess_right_3.eq_1 ?_ | with_reducible refine head_of t_law_guess_right_2.eq_1 ?_ | with_reducible refine head_of t_law_guess_right_1.eq_1 ?_))
    refine idx_iv (x4 _ _ nrp hl) he0 (by simpa using he1) (by simp) ?_
    have dd : Dig (2 ^ w) [2 ^ w - 1, 2 ^ w - 2, 0, 1, d1] :=
      Dig.cons (by (clear hw hw9 hQ hB9 hB4 hBpos p2 p3 p4 hBB hBBB hBB4 e3 e2 hN2 hf3 hf2 hD0 hD1 hDp hd0 hd1 nrp he0 he1 hp sm2 m0 m1 m2 m3 x hpk x2 hp2 hr x3 hl x4 hp4; lia)) (by (clear hw hw9 hQ hB9 hhalf hh2 hB4 hBpos p2 p3 p4 hBB hBBB hBB4 e3 e2 hN2 hf3 hf2 hD0 hD1 hDp hd0 hd1 nrp he0 he1 hp sm2 m0 m1 m2 m3 x hpk x2 hp2 hr x3 hl x4 hp4; lia)) (Dig.cons (by (clear hw hw9 hQ hB9 hB4 hBpos p2 p3 p4 hBB hBBB hBB4 e3 e2 hN2 hf3 hf2 hD0 hD1 hDp hd0 hd1 nrp he0 he1 hp sm2 m0 m1 m2 m3 x hpk x2 hp2 hr x3 hl x4 hp4; lia)) (by (clear hw hw9 hQ hB9 hhalf hh2 hB4 hBpos p2 p3 p4 hBB hBBB hBB4 e3 e2 hN2 hf3 hf2 hD0 hD1 hDp hd0 hd1 nrp he0 he1 hp sm2 m0 m1 m2 m3 x hpk x2 hp2 hr x3 hl x4 hp4; lia)) (Dig.cons (by (with_reducible exact Int.le_refl _)) (by (with_reducible assumption)) (Dig.cons (by (clear hw hw9 hQ hB9 hhalf hh2 hB4 hBpos p2 p3 p4 hBB hBBB hBB4 e3 e2 hN2 hf3 hf2 hD0 hD1 hDp hd0 hd1 nrp he0 he1; lia)) (by (clear hw hw9 hQ hB9 hB4 hBpos p2 p3 p4 hBB hBBB hBB4 e3 e2 hN2 hf3 hf2 hD0 hD1 hDp hd0 hd1 nrp he0 he1 hp sm2 m0 m1 m2 m3 x hpk x2 hp2 hr x3 hl x4 hp4; lia)) (Dig.cons hd0 hd1 Dig.nil))))
    have hlimb := dd.get hBpos d2.toNat
    generalize [2 ^ w - 1, 2 ^ w - 2, 0, 1, d1].getD d2.toNat 0 = limb at hlimb ⊢
    (repeat (first | dsimp only [sCons, sNil, sAssign, sAssign2, sIf, sRet, sExpr, eCall, aNil, aCons, cInt, cBool, cBin, eCmp, eIf, eAnd, eList, eIdx, eSlice, tCmp, tAnd, tAndNil, tOr, tOrNil, pNone, pSome, oAdd_i, oSub_i, oMul_i, oFdiv_i, oMod_i, oPow_i, kGt_i, kEq_i, kNe_i, oAdd_r, oMul_r, fLen_r, vBool_b, vInt_i, vRef_r, LoopQ_next, LoopQ_ret, retQ_next, retQ_ret, cv0_2, cv0_3, cv0_4, cv0_5, cv0_6, cv0_7, cv0_8, cv0_9, cvl0, cv1_2, cv1_3, cv1_4, cv1_5, cv1_6, cv1_7, cv1_8, cv1_9, cvl1, cv2, cv2_3, cv2_4, cv2_5, cv2_6, cv2_7, cv2_8, cv2_9, cvl2, cv3, cv3_2, cv3_4, cv3_5, cv3_6, cv3_7, cv3_8, cv3_9, cvl3, cv4, cv4_2, cv4_3, cv4_5, cv4_6, cv4_7, cv4_8, cv4_9, cvl4, cv5, cv5_2, cv5_3, cv5_4, cv5_6, cv5_7, cv5_8, cv5_9, cv6, cv6_2, cv6_3, cv6_4, cv6_5, cv6_7, cv6_8, cv6_9, cv7, cv7_2, cv7_3, cv7_4, cv7_5, cv7_6, cv7_8, cv7_9, cv8, cv8_2, cv8_3, cv8_4, cv8_5, cv8_6, cv8_7, cv8_9, cv9, cv9_2, cv9_3, cv9_4, cv9_5, cv9_6, cv9_7, cv9_8] | simp only [reduceIte, if_true, if_false, Bool.false_eq_true, reduceCtorEq, cVar_at m0, cVar_at m1, cVar_at m2, cVar_at m3] | with_reducible refine head_of t_law_guess_right_11.eq_1 ?_ | with_reducible refine head_of t_law_guess_right_10.eq_1 ?_ | with_reducible refine head_of t_law_guess_right_9.eq_1 ?_ | with_reducible refine head_of t_law_guess_right_8.eq_1 ?_ | with_reducible refine head_of t_law_guess_right_7.eq_1 ?_ | with_reducible refine head_of t_law_guess_right_6.eq_1 ?_ | with_reducible refine head_of t_law_guess_right_4.eq_1 ?_ | with_reducible refine head_of t_law_guess_right_3.eq_1 ?_ | with_reducible refine head_of t_law_guess_right_2.eq_1 ?_ | with_reducible refine head_of t_law_guess_right_1.eq_1 ?_))
    refine ⟨Small.le (by (clear hw hw9 hQ hB9 hhalf hh2 hB4 hBpos p2 p3 p4 hBB hBBB hBB4 e3 e2 hN2 hf3 hf2 hD0 hD1 hDp hd0 hd1 nrp he0 he1; lia)) (by (clear hw hw9 hQ hhalf hh2 hB4 hBpos p2 p3 p4 hBB hBBB hBB4 e3 e2 hN2 hf3 hf2 hD0 hD1 hDp hd0 hd1 nrp he0 he1; lia)), Small.le (by (with_reducible exact cm62' (by assumption))) (by (clear hw hw9 hQ hB9 hhalf hh2 hB4 hBpos p2 p3 p4 hBB hBB4 e3 e2 hN2 hf3 hf2 hD0 hDp hd0 hd1 nrp he0 he1 hlimb; lia)), ?_⟩
    refine ⟨p, _, rfl, hp4, hDp, fun d3 H5 hf0 hf1 x5 hp5 => ?_⟩
    (repeat (first | dsimp only [sCons, sNil, sAssign, sAssign2, sIf, sRet, sExpr, eCall, aNil, aCons, cInt, cBool, cBin, eCmp, eIf, eAnd, eList, eIdx, eSlice, tCmp, tAnd, tAndNil, tOr, tOrNil, pNone, pSome, oAdd_i, oSub_i, oMul_i, oFdiv_i, oMod_i, oPow_i, kGt_i, kEq_i, kNe_i, oAdd_r, oMul_r, fLen_r, vBool_b, vInt_i, vRef_r, LoopQ_next, LoopQ_ret, retQ_next, retQ_ret, cv0_2, cv0_3, cv0_4, cv0_5, cv0_6, cv0_7, cv0_8, cv0_9, cvl0, cv1_2, cv1_3, cv1_4, cv1_5, cv1_6, cv1_7, cv1_8, cv1_9, cvl1, cv2, cv2_3, cv2_4, cv2_5, cv2_6, cv2_7, cv2_8, cv2_9, cvl2, cv3, cv3_2, cv3_4, cv3_5, cv3_6, cv3_7, cv3_8, cv3_9, cvl3, cv4, cv4_2, cv4_3, cv4_5, cv4_6, cv4_7, cv4_8, cv4_9, cvl4, cv5, cv5_2, cv5_3, cv5_4, cv5_6, cv5_7, cv5_8, cv5_9, cv6, cv6_2, cv6_3, cv6_4, cv6_5, cv6_7, cv6_8, cv6_9, cv7, cv7_2, cv7_3, cv7_4, cv7_5, cv7_6, cv7_8, cv7_9, cv8, cv8_2, cv8_3, cv8_4, cv8_5, cv8_6, cv8_7, cv8_9, cv9, cv9_2, cv9_3, cv9_4, cv9_5, cv9_6, cv9_7, cv9_8] | simp only [reduceIte, if_true, if_false, Bool.false_eq_true, reduceCtorEq, cVar_at m0, cVar_at m1, cVar_at m2, cVar_at m3] | with_reducible refine head_of t_law_guess_right_11.eq_1 ?_ | with_reducible refine head_of t_law_guess_right_10.eq_1 ?_ | with_reducible refine head_of t_law_guess_right_9.eq_1 ?_ | with_reducible refine head_of t_law_guess_right_8.eq_1 ?_ | with_reducible refine head_of t_law_guess_right_7.eq_1 ?_ | with_reducible refine head_of t_law_guess_right_6.eq_1 ?_ | with_reducible refine head_of t_law_guess_right_4.eq_1 ?_ | with_reducible refine head_of t_law_guess_right_3.eq_1 ?_ | with_reducible refine head_of t_law_guess_right_2.eq_1 ?_ | with_reducible refine head_of t_law_guess_right_1.eq_1 ?_))
    refine ⟨by simp, fun r' hr' => ?_⟩
    have x6 : Ext H5 (updH H5 r' (.list [V.int (D - 1), V.int 0, V.int d3])) := Ext.upd hr'
    have hl' : updH H5 r' (.list [V.int (D - 1), V.int 0, V.int d3]) r' = some (.list (iv [D - 1, 0, d3])) := updH_same ..
    generalize updH H5 r' (.list [V.int (D - 1), V.int 0, V.int d3]) = H6 at x6 hl' ⊢
    have nrp' : r' ≠ p := by
      obtain ⟨o, ho⟩ := hp5.there
      exact (ne_fresh ho hr').symm
    refine ⟨p, _, rfl, hp5.ext x6, by decide, fun d4 H7 hg0 hg1 x7 hp7 => ?_⟩
    (repeat (first | dsimp only [sCons, sNil, sAssign, sAssign2, sIf, sRet, sExpr, eCall, aNil, aCons, cInt, cBool, cBin, eCmp, eIf, eAnd, eList, eIdx, eSlice, tCmp, tAnd, tAndNil, tOr, tOrNil, pNone, pSome, oAdd_i, oSub_i, oMul_i, oFdiv_i, oMod_i, oPow_i, kGt_i, kEq_i, kNe_i, oAdd_r, oMul_r, fLen_r, vBool_b, vInt_i, vRef_r, LoopQ_next, LoopQ_ret, retQ_next, retQ_ret, cv0_2, cv0_3, cv0_4, cv0_5, cv0_6, cv0_7, cv0_8, cv0_9, cvl0, cv1_2, cv1_3, cv1_4, cv1_5, cv1_6, cv1_7, cv1_8, cv1_9, cvl1, cv2, cv2_3, cv2_4, cv2_5, cv2_6, cv2_7, cv2_8, cv2_9, cvl2, cv3, cv3_2, cv3_4, cv3_5, cv3_6, cv3_7, cv3_8, cv3_9, cvl3, cv4, cv4_2, cv4_3, cv4_5, cv4_6, cv4_7, cv4_8, cv4_9, cvl4, cv5, cv5_2, cv5_3, cv5_4, cv5_6, cv5_7, cv5_8, cv5_9, cv6, cv6_2, cv6_3, cv6_4, cv6_5, cv6_7, cv6_8, cv6_9, cv7, cv7_2, cv7_3, cv7_4, cv7_5, cv7_6, cv7_8, cv7_9, cv8, cv8_2, cv8_3, cv8_4, cv8_5, cv8_6, cv8_7, cv8_9, cv9, cv9_2, cv9_3, cv9_4, cv9_5, cv9_6, cv9_7, cv9_8] | simp only [reduceIte, if_true, if_false, Bool.false_eq_true, reduceCtorEq] | with_reducible refine head_of t_law_guess_right_11.eq_1 ?_ | with_reducible refine head_of t_law_guess_right_10.eq_1 ?_ | with_reducible refine head_of t_law_guess_right_9.eq_1 ?_ | with_reducible refine head_of t_law_guess_right_8.eq_1 ?_ | with_reducible refine head_of t_law_guess_right_7.eq_1 ?_ | with_reducible refine head_of t_law_guess_right_6.eq_1 ?_ | with_reducible refine head_of t_law_guess_right_4.eq_1 ?_ | with_reducible refine head_of t_law_guess_right_3.eq_1 ?_ | with_reducible refine head_of t_law_guess_right_2.eq_1 ?_ | with_reducible refine head_of t_law_guess_right_1.eq_1 ?_))
    refine idx_iv (x7 _ _ nrp' hl') hg0 (by simpa using hg1) (by simp) ?_
    have dd' : Dig D [D - 1, 0, d3] := Dig.cons (by (clear hw hw9 hQ hB9 hhalf hh2 hB4 hBpos p2 p3 p4 hBB hBBB hBB4 e3 e2 hN2 hf3 hf2 hD0 hD1 hd0 hd1 nrp he0 he1 hlimb hf0 hf1 nrp' hg0 hg1 hp sm2 m0 m1 m2 m3 x hpk x2 hp2 hr x3 hl x4 hp4 dd x5 hp5 hr' x6 hl' x7 hp7; lia)) (by (clear hw hw9 hQ hB9 hhalf hh2 hB4 hBpos p2 p3 p4 hBB hBBB hBB4 e3 e2 hN2 hf3 hf2 hD0 hD1 hDp hd0 hd1 nrp he0 he1 hlimb hf0 hf1 nrp' hg0 hg1 hp sm2 m0 m1 m2 m3 x hpk x2 hp2 hr x3 hl x4 hp4 dd x5 hp5 hr' x6 hl' x7 hp7; lia)) (Dig.cons (by (with_reducible exact Int.le_refl _)) (by (with_reducible assumption)) (Dig.cons hf0 hf1 Dig.nil))
    have hrest := dd'.get hDp d4.toNat
    generalize [D - 1, 0, d3].getD d4.toNat 0 = rest at hrest ⊢
    (repeat (first | dsimp only [sCons, sNil, sAssign, sAssign2, sIf, sRet, sExpr, eCall, aNil, aCons, cInt, cBool, cBin, eCmp, eIf, eAnd, eList, eIdx, eSlice, tCmp, tAnd, tAndNil, tOr, tOrNil, pNone, pSome, oAdd_i, oSub_i, oMul_i, oFdiv_i, oMod_i, oPow_i, kGt_i, kEq_i, kNe_i, oAdd_r, oMul_r, fLen_r, vBool_b, vInt_i, vRef_r, LoopQ_next, LoopQ_ret, retQ_next, retQ_ret, cv0_2, cv0_3, cv0_4, cv0_5, cv0_6, cv0_7, cv0_8, cv0_9, cvl0, cv1_2, cv1_3, cv1_4, cv1_5, cv1_6, cv1_7, cv1_8, cv1_9, cvl1, cv2, cv2_3, cv2_4, cv2_5, cv2_6, cv2_7, cv2_8, cv2_9, cvl2, cv3, cv3_2, cv3_4, cv3_5, cv3_6, cv3_7, cv3_8, cv3_9, cvl3, cv4, cv4_2, cv4_3, cv4_5, cv4_6, cv4_7, cv4_8, cv4_9, cvl4, cv5, cv5_2, cv5_3, cv5_4, cv5_6, cv5_7, cv5_8, cv5_9, cv6, cv6_2, cv6_3, cv6_4, cv6_5, cv6_7, cv6_8, cv6_9, cv7, cv7_2, cv7_3, cv7_4, cv7_5, cv7_6, cv7_8, cv7_9, cv8, cv8_2, cv8_3, cv8_4, cv8_5, cv8_6, cv8_7, cv8_9, cv9, cv9_2, cv9_3, cv9_4, cv9_5, cv9_6, cv9_7, cv9_8] | simp only [reduceIte, if_true, if_false, Bool.false_eq_true, reduceCtorEq, cVar_at m0, cVar_at m1, cVar_at m2, cVar_at m3] | with_reducible refine head_of t_law_guess_right_11.eq_1 ?_ | with_reducible refine head_of t_law_guess_right_10.eq_1 ?_ | with_reducible refine head_of t_law_guess_right_9.eq_1 ?_ | with_reducible refine head_of t_law_guess_right_8.eq_1 ?_ | with_reducible refine head_of t_law_guess_right_7.eq_1 ?_ | with_reducible refine head_of t_law_guess_right_6.eq_1 ?_ | with_reducible refine head_of t_law_guess_right_4.eq_1 ?_ | with_reducible refine head_of t_law_guess_right_3.eq_1 ?_ | with_reducible refine head_of t_law_guess_right_2.eq_1 ?_ | with_reducible refine head_of t_law_guess_right_1.eq_1 ?_))
    have el : (limb + 1) * D = limb * D + D := by grind
    have xx : ExtBut p H H7 := ((((x.trans x2).trans x3.but).trans (x4.trans x5)).trans x6.but).trans x7
    exact guess_tail hw hw9 m0 m1 m2 m3 rfl rfl hD0 hD1 hlimb.1 hlimb.2 (by (clear hw hw9 hQ hB9 hhalf hh2 hB4 hBpos p2 p3 p4 hBB hBBB hBB4 e3 e2 hN2 hf3 hf2 hD0 hD1 hDp hd0 hd1 nrp he0 he1 hlimb hf0 hf1 nrp' hg0 hg1 el; lia)) (by (clear hw hw9 hQ hB9 hhalf hh2 hB4 hBpos p2 p3 p4 hBB hBBB hBB4 e3 e2 hN2 hf3 hf2 hD0 hD1 hDp hd0 hd1 nrp he0 he1 hlimb hf0 hf1 nrp' hg0 hg1; lia)) fun H8 x8 => hQ H8 (xx.trans x8.but) (hp7.ext x8)
  (repeat (first | dsimp only [sCons, sNil, sAssign, sAssign2, sIf, sRet, sExpr, eCall, aNil, aCons, cInt, cBool, cBin, eCmp, eIf, eAnd, eList, eIdx, eSlice, tCmp, tAnd, tAndNil, tOr, tOrNil, pNone, pSome, oAdd_i, oSub_i, oMul_i, oFdiv_i, oMod_i, oPow_i, kGt_i, kEq_i, kNe_i, oAdd_r, oMul_r, fLen_r, vBool_b, vInt_i, vRef_r, LoopQ_next, LoopQ_ret, retQ_next, retQ_ret, cv0_2, cv0_3, cv0_4, cv0_5, cv0_6, cv0_7, cv0_8, cv0_9, cvl0, cv1_2, cv1_3, cv1_4, cv1_5, cv1_6, cv1_7, cv1_8, cv1_9, cvl1, cv2, cv2_3, cv2_4, cv2_5, cv2_6, cv2_7, cv2_8, cv2_9, cvl2, cv3, cv3_2, cv3_4, cv3_5, cv3_6, cv3_7, cv3_8, cv3_9, cvl3, cv4, cv4_2, cv4_3, cv4_5, cv4_6, cv4_7, cv4_8, cv4_9, cvl4, cv5, cv5_2, cv5_3, cv5_4, cv5_6, cv5_7, cv5_8, cv5_9, cv6, cv6_2, cv6_3, cv6_4, cv6_5, cv6_7, cv6_8, cv6_9, cv7, cv7_2, cv7_3, cv7_4, cv7_5, cv7_6, cv7_8, cv7_9, cv8, cv8_2, cv8_3, cv8_4, cv8_5, cv8_6, cv8_7, cv8_9, cv9, cv9_2, cv9_3, cv9_4, cv9_5, cv9_6, cv9_7, cv9_8, ps_law_guess_right] | simp only [reduceIte, if_true, if_false, Bool.false_eq_true, reduceCtorEq, Int.toNat_natCast, show Int.toNat 3 = 3 from rfl, show Int.toNat 2 = 2 from rfl] | with_reducible refine head_of t_law_guess_right_11.eq_1 ?_ | with_reducible refine head_of t_law_guess_right_10.eq_1 ?_ | with_reducible refine head_of t_law_guess_right_9.eq_1 ?_ | with_reducible refine head_of t_law_guess_right_8.eq_1 ?_ | with_reducible refine head_of t_law_guess_right_7.eq_1 ?_ | with_reducible refine head_of t_law_guess_right_6.eq_1 ?_ | with_reducible refine head_of t_law_guess_right_5.eq_1 ?_ | with_reducible refine head_of t_law_guess_right_4.eq_1 ?_ | with_reducible refine head_of t_law_guess_right_2.eq_1 ?_ | with_reducible refine head_of t_law_guess_right_1.eq_1 ?_))
  refine ⟨by (with_reducible exact Int.natCast_nonneg _), by (with_reducible exact cw (by assumption)), by decide, ?_⟩
  (repeat (first | dsimp only [sCons, sNil, sAssign, sAssign2, sIf, sRet, sExpr, eCall, aNil, aCons, cInt, cBool, cBin, eCmp, eIf, eAnd, eList, eIdx, eSlice, tCmp, tAnd, tAndNil, tOr, tOrNil, pNone, pSome, oAdd_i, oSub_i, oMul_i, oFdiv_i, oMod_i, oPow_i, kGt_i, kEq_i, kNe_i, oAdd_r, oMul_r, fLen_r, vBool_b, vInt_i, vRef_r, LoopQ_next, LoopQ_ret, retQ_next, retQ_ret, cv0_2, cv0_3, cv0_4, cv0_5, cv0_6, cv0_7, cv0_8, cv0_9, cvl0, cv1_2, cv1_3, cv1_4, cv1_5, cv1_6, cv1_7, cv1_8, cv1_9, cvl1, cv2, cv2_3, cv2_4, cv2_5, cv2_6, cv2_7, cv2_8, cv2_9, cvl2, cv3, cv3_2, cv3_4, cv3_5, cv3_6, cv3_7, cv3_8, cv3_9, cvl3, cv4, cv4_2, cv4_3, cv4_5, cv4_6, cv4_7, cv4_8, cv4_9, cvl4, cv5, cv5_2, cv5_3, cv5_4, cv5_6, cv5_7, cv5_8, cv5_9, cv6, cv6_2, cv6_3, cv6_4, cv6_5, cv6_7, cv6_8, cv6_9, cv7, cv7_2, cv7_3, cv7_4, cv7_5, cv7_6, cv7_8, cv7_9, cv8, cv8_2, cv8_3, cv8_4, cv8_5, cv8_6, cv8_7, cv8_9, cv9, cv9_2, cv9_3, cv9_4, cv9_5, cv9_6, cv9_7, cv9_8] | simp only [reduceIte, if_true, if_false, Bool.false_eq_true, reduceCtorEq, Int.toNat_natCast, show Int.toNat 3 = 3 from rfl, show Int.toNat 2 = 2 from rfl] | with_reducible refine head_of t_law_guess_right_11.eq_1 ?_ | with_reducible refine head_of t_law_guess_right_10.eq_1 ?_ | with_reducible refine head_of t_law_guess_right_9.eq_1 ?_ | with_reducible refine head_of t_law_guess_right_8.eq_1 ?_ | with_reducible refine head_of t_law_guess_right_7.eq_1 ?_ | with_reducible refine head_of t_law_guess_right_6.eq_1 ?_ | with_reducible refine head_of t_law_guess_right_5.eq_1 ?_ | with_reducible refine head_of t_law_guess_right_4.eq_1 ?_ | with_reducible refine head_of t_law_guess_right_2.eq_1 ?_ | with_reducible refine head_of t_law_guess_right_1.eq_1 ?_))
  refine ⟨by decide, by decide, by (clear hw hw9 hQ hB4 hBpos p2 p3 p4 hBB hBBB hBB4 e3 e2 hN2 hf3 hf2 key hp hhalf sm2; lia), by decide, sm2, by decide, by decide, by omega, by decide, sm2, ?_⟩
  rw [hf3]
  refine ⟨p, _, rfl, hp, by (clear hw hw9 hQ hB9 hB4 hBpos p2 p3 p4 hBB hBBB e3 e2 hf3 hf2 key; lia), fun z H1 hz0 hz1 x1 hp1 => ?_⟩
  (repeat (first | dsimp only [sCons, sNil, sAssign, sAssign2, sIf, sRet, sExpr, eCall, aNil, aCons, cInt, cBool, cBin, eCmp, eIf, eAnd, eList, eIdx, eSlice, tCmp, tAnd, tAndNil, tOr, tOrNil, pNone, pSome, oAdd_i, oSub_i, oMul_i, oFdiv_i, oMod_i, oPow_i, kGt_i, kEq_i, kNe_i, oAdd_r, oMul_r, fLen_r, vBool_b, vInt_i, vRef_r, LoopQ_next, LoopQ_ret, retQ_next, retQ_ret, cv0_2, cv0_3, cv0_4, cv0_5, cv0_6, cv0_7, cv0_8, cv0_9, cvl0, cv1_2, cv1_3, cv1_4, cv1_5, cv1_6, cv1_7, cv1_8, cv1_9, cvl1, cv2, cv2_3, cv2_4, cv2_5, cv2_6, cv2_7, cv2_8, cv2_9, cvl2, cv3, cv3_2, cv3_4, cv3_5, cv3_6, cv3_7, cv3_8, cv3_9, cvl3, cv4, cv4_2, cv4_3, cv4_5, cv4_6, cv4_7, cv4_8, cv4_9, cvl4, cv5, cv5_2, cv5_3, cv5_4, cv5_6, cv5_7, cv5_8, cv5_9, cv6, cv6_2, cv6_3, cv6_4, cv6_5, cv6_7, cv6_8, cv6_9, cv7, cv7_2, cv7_3, cv7_4, cv7_5, cv7_6, cv7_8, cv7_9, cv8, cv8_2, cv8_3, cv8_4, cv8_5, cv8_6, cv8_7, cv8_9, cv9, cv9_2, cv9_3, cv9_4, cv9_5, cv9_6, cv9_7, cv9_8] | simp only [reduceIte, if_true, if_false, Bool.false_eq_true, reduceCtorEq, Int.toNat_natCast, show Int.toNat 3 = 3 from rfl, show Int.toNat 2 = 2 from rfl] | with_reducible refine head_of t_law_guess_right_11.eq_1 ?_ | with_reducible refine head_of t_law_guess_right_10.eq_1 ?_ | with_reducible refine head_of t_law_guess_right_9.eq_1 ?_ | with_reducible refine head_of t_law_guess_right_8.eq_1 ?_ | with_reducible refine head_of t_law_guess_right_7.eq_1 ?_ | with_reducible refine head_of t_law_guess_right_6.eq_1 ?_ | with_reducible refine head_of t_law_guess_right_5.eq_1 ?_ | with_reducible refine head_of t_law_guess_right_4.eq_1 ?_ | with_reducible refine head_of t_law_guess_right_2.eq_1 ?_ | with_reducible refine head_of t_law_guess_right_1.eq_1 ?_))
  refine ⟨p, _, rfl, hp1, by decide, fun y H2 hy0 hy1 x2 hp2 => ?_⟩
  (repeat (first | dsimp only [sCons, sNil, sAssign, sAssign2, sIf, sRet, sExpr, eCall, aNil, aCons, cInt, cBool, cBin, eCmp, eIf, eAnd, eList, eIdx, eSlice, tCmp, tAnd, tAndNil, tOr, tOrNil, pNone, pSome, oAdd_i, oSub_i, oMul_i, oFdiv_i, oMod_i, oPow_i, kGt_i, kEq_i, kNe_i, oAdd_r, oMul_r, fLen_r, vBool_b, vInt_i, vRef_r, LoopQ_next, LoopQ_ret, retQ_next, retQ_ret, cv0_2, cv0_3, cv0_4, cv0_5, cv0_6, cv0_7, cv0_8, cv0_9, cvl0, cv1_2, cv1_3, cv1_4, cv1_5, cv1_6, cv1_7, cv1_8, cv1_9, cvl1, cv2, cv2_3, cv2_4, cv2_5, cv2_6, cv2_7, cv2_8, cv2_9, cvl2, cv3, cv3_2, cv3_4, cv3_5, cv3_6, cv3_7, cv3_8, cv3_9, cvl3, cv4, cv4_2, cv4_3, cv4_5, cv4_6, cv4_7, cv4_8, cv4_9, cvl4, cv5, cv5_2, cv5_3, cv5_4, cv5_6, cv5_7, cv5_8, cv5_9, cv6, cv6_2, cv6_3, cv6_4, cv6_5, cv6_7, cv6_8, cv6_9, cv7, cv7_2, cv7_3, cv7_4, cv7_5, cv7_6, cv7_8, cv7_9, cv8, cv8_2, cv8_3, cv8_4, cv8_5, cv8_6, cv8_7, cv8_9, cv9, cv9_2, cv9_3, cv9_4, cv9_5, cv9_6, cv9_7, cv9_8] | simp only [reduceIte, if_true, if_false, Bool.false_eq_true, reduceCtorEq, Int.toNat_natCast, show Int.toNat 3 = 3 from rfl, show Int.toNat 2 = 2 from rfl] | with_reducible refine head_of t_law_guess_right_11.eq_1 ?_ | with_reducible refine head_of t_law_guess_right_10.eq_1 ?_ | with_reducible refine head_of t_law_guess_right_9.eq_1 ?_ | with_reducible refine head_of t_law_guess_right_8.eq_1 ?_ | with_reducible refine head_of t_law_guess_right_7.eq_1 ?_ | with_reducible refine head_of t_law_guess_right_6.eq_1 ?_ | with_reducible refine head_of t_law_guess_right_5.eq_1 ?_ | with_reducible refine head_of t_law_guess_right_4.eq_1 ?_ | with_reducible refine head_of t_law_guess_right_2.eq_1 ?_ | with_reducible refine head_of t_law_guess_right_1.eq_1 ?_))
  by_cases hy : y = 0
  · (repeat (first | dsimp only [sCons, sNil, sAssign, sAssign2, sIf, sRet, sExpr, eCall, aNil, aCons, cInt, cBool, cBin, eCmp, eIf, eAnd, eList, eIdx, eSlice, tCmp, tAnd, tAndNil, tOr, tOrNil, pNone, pSome, oAdd_i, oSub_i, oMul_i, oFdiv_i, oMod_i, oPow_i, kGt_i, kEq_i, kNe_i, oAdd_r, oMul_r, fLen_r, vBool_b, vInt_i, vRef_r, LoopQ_next, LoopQ_ret, retQ_next, retQ_ret, cv0_2, cv0_3, cv0_4, cv0_5, cv0_6, cv0_7, cv0_8, cv0_9, cvl0, cv1_2, cv1_3, cv1_4, cv1_5, cv1_6, cv1_7, cv1_8, cv1_9, cvl1, cv2, cv2_3, cv2_4, cv2_5, cv2_6, cv2_7, cv2_8, cv2_9, cvl2, cv3, cv3_2, cv3_4, cv3_5, cv3_6, cv3_7, cv3_8, cv3_9, cvl3, cv4, cv4_2, cv4_3, cv4_5, cv4_6, cv4_7, cv4_8, cv4_9, cvl4, cv5, cv5_2, cv5_3, cv5_4, cv5_6, cv5_7, cv5_8, cv5_9, cv6, cv6_2, cv6_3, cv6_4, cv6_5, cv6_7, cv6_8, cv6_9, cv7, cv7_2, cv7_3, cv7_4, cv7_5, cv7_6, cv7_8, cv7_9, cv8, cv8_2, cv8_3, cv8_4, cv8_5, cv8_6, cv8_7, cv8_9, cv9, cv9_2, cv9_3, cv9_4, cv9_5, cv9_6, cv9_7, cv9_8] | simp only [reduceIte, if_true, if_false, Bool.false_eq_true, reduceCtorEq, hy, decide_true, Int.toNat_natCast, show Int.toNat 3 = 3 from rfl, show Int.toNat 2 = 2 from rfl] | with_reducible refine head_of t_law_guess_right_11.eq_1 ?_ | with_reducible refine head_of t_law_guess_right_10.eq_1 ?_ | with_reducible refine head_of t_law_guess_right_9.eq_1 ?_ | with_reducible refine head_of t_law_guess_right_8.eq_1 ?_ | with_reducible refine head_of t_law_guess_right_7.eq_1 ?_ | with_reducible refine head_of t_law_guess_right_6.eq_1 ?_ | with_reducible refine head_of t_law_guess_right_5.eq_1 ?_ | with_reducible refine head_of t_law_guess_right_4.eq_1 ?_ | with_reducible refine head_of t_law_guess_right_2.eq_1 ?_ | with_reducible refine head_of t_law_guess_right_1.eq_1 ?_))
    refine ⟨by decide, by decide, by (clear hw hw9 hQ hB4 hBpos p2 p3 p4 hBB hBBB hBB4 e3 e2 hN2 hf3 hf2 key hz0 hz1 hy0 hy1 hy; omega), by decide, sm2, by decide, by decide, by (clear hp hw hw9 hQ hhalf hB4 hBpos p2 p3 p4 hBB hBBB hBB4 e3 e2 hN2 hf3 hf2 sm2 key hz0 hz1 x1 hp1 hy0 hy1 x2 hp2 hy; lia), by decide, sm2, by simp, fun r hr => ?_⟩
    rw [hf2]
    have x3 : Ext H2 (updH H2 r (.list [V.int 0, V.int 1, V.int (2 ^ w - 1), V.int (2 ^ (w - 1) * 2 ^ w)])) := Ext.upd hr
    have hl : updH H2 r (.list [V.int 0, V.int 1, V.int (2 ^ w - 1), V.int (2 ^ (w - 1) * 2 ^ w)]) r = some (.list (iv [0, 1, 2 ^ w - 1, 2 ^ (w - 1) * 2 ^ w])) := updH_same ..
    generalize updH H2 r (.list [V.int 0, V.int 1, V.int (2 ^ w - 1), V.int (2 ^ (w - 1) * 2 ^ w)]) = H3 at x3 hl ⊢
    have nrp : r ≠ p := by
      obtain ⟨o, ho⟩ := hp2.there
      exact (ne_fresh ho hr).symm
    refine ⟨p, _, rfl, hp2.ext x3, by decide, fun d2 H4 he0 he1 x4 hp4 => ?_⟩
    (repeat (first | dsimp only [sCons, sNil, sAssign, sAssign2, sIf, sRet, sExpr, eCall, aNil, aCons, cInt, cBool, cBin, eCmp, eIf, eAnd, eList, eIdx, eSlice, tCmp, tAnd, tAndNil, tOr, tOrNil, pNone, pSome, oAdd_i, oSub_i, oMul_i, oFdiv_i, oMod_i, oPow_i, kGt_i, kEq_i, kNe_i, oAdd_r, oMul_r, fLen_r, vBool_b, vInt_i, vRef_r, LoopQ_next, LoopQ_ret, retQ_next, retQ_ret, cv0_2, cv0_3, cv0_4, cv0_5, cv0_6, cv0_7, cv0_8, cv0_9, cvl0, cv1_2, cv1_3, cv1_4, cv1_5, cv1_6, cv1_7, cv1_8, cv1_9, cvl1, cv2, cv2_3, cv2_4, cv2_5, cv2_6, cv2_7, cv2_8, cv2_9, cvl2, cv3, cv3_2, cv3_4, cv3_5, cv3_6, cv3_7, cv3_8, cv3_9, cvl3, cv4, cv4_2, cv4_3, cv4_5, cv4_6, cv4_7, cv4_8, cv4_9, cvl4, cv5, cv5_2, cv5_3, cv5_4, cv5_6, cv5_7, cv5_8, cv5_9, cv6, cv6_2, cv6_3, cv6_4, cv6_5, cv6_7, cv6_8, cv6_9, cv7, cv7_2, cv7_3, cv7_4, cv7_5, cv7_6, cv7_8, cv7_9, cv8, cv8_2, cv8_3, cv8_4, cv8_5, cv8_6, cv8_7, cv8_9, cv9, cv9_2, cv9_3, cv9_4, cv9_5, cv9_6, cv9_7, cv9_8] | simp only [reduceIte, if_true, if_false, Bool.false_eq_true, reduceCtorEq, Int.toNat_natCast, show Int.toNat 3 = 3 from rfl, show Int.toNat 2 = 2 from rfl] | with_reducible refine head_of t_law_guess_right_11.eq_1 ?_ | with_reducible refine head_of t_law_guess_right_10.eq_1 ?_ | with_reducible refine head_of t_law_guess_right_9.eq_1 ?_ | with_reducible refine head_of t_law_guess_right_8.eq_1 ?_ | with_reducible refine head_of t_law_guess_right_7.eq_1 ?_ | with_reducible refine head_of t_law_guess_right_6.eq_1 ?_ | with_reducible refine head_of t_law_guess_right_5.eq_1 ?_ | with_reducible refine head_of t_law_guess_right_4.eq_1 ?_ | with_reducible refine head_of t_law_guess_right_2.eq_1 ?_ | with_reducible refine head_of t_law_guess_right_1.eq_1 ?_))
    refine idx_iv (x4 _ _ nrp hl) he0 (by simpa using he1) (by simp) ?_
    have dd : Dig (2 ^ (w - 1) * (2 ^ w * 2 ^ w)) [0, 1, 2 ^ w - 1, 2 ^ (w - 1) * 2 ^ w] :=
      Dig.cons (by (with_reducible exact Int.le_refl _)) (by (clear hw hw9 hQ hB4 hBpos p2 p3 p4 hBBB e3 key hz0 hz1 hy0 hy1 hy nrp he0 he1 hp hB9 hBB e2 hf3 hf2 sm2 x1 hp1 x2 hp2 hr x3 hl x4 hp4; lia)) (Dig.cons (by lia) (by (clear hw hw9 hQ hB9 hB4 hBpos p2 p3 p4 hBB hBBB e3 e2 hf3 hf2 key hz0 hz1 hy0 hy1 hy nrp he0 he1; lia)) (Dig.cons (by (clear hp hw hw9 hQ hB9 hB4 hBpos p2 p3 p4 hBB hBBB hBB4 e3 e2 hN2 hf3 hf2 sm2 key hz0 hz1 x1 hp1 hy0 hy1 x2 hp2 hy hr x3 hl nrp he0 he1 x4 hp4; lia)) (by (clear hw hw9 hQ hB9 hB4 hBpos p2 p3 p4 hBB hBBB e3 e2 hf3 hf2 key hz0 hz1 hy0 hy1 hy nrp he0 he1 hp hhalf sm2 x1 hp1 x2 hp2 hr x3 hl x4 hp4; lia)) (Dig.cons (by (clear hw hw9 hQ hB9 hB4 hBpos p2 p3 p4 hBB hBBB e3 hN2 hf3 hf2 key hz0 hz1 hy0 hy1 hy nrp he0 he1 hp hhalf hh2 hBB4 e2 sm2 x1 hp1 x2 hp2 hr x3 hl x4 hp4; lia)) (by (clear hw hw9 hQ hB9 hB4 hBpos p2 p3 p4 hBB hBBB e3 hf3 hf2 key hz0 hz1 hy0 hy1 hy nrp he0 he1; lia)) Dig.nil)))
    have hd := dd.get (by (clear hp hw hw9 hQ hB9 hB4 hBpos p2 p3 p4 hBB hBBB e3 e2 hf3 hf2 sm2 key hz0 hz1 x1 hp1 hy0 hy1 x2 hp2 hy hr x3 hl nrp he0 he1 x4 hp4 dd; lia)) d2.toNat
    generalize [0, 1, 2 ^ w - 1, 2 ^ (w - 1) * 2 ^ w].getD d2.toNat 0 = d at hd ⊢
    (repeat (first | dsimp only [sCons, sNil, sAssign, sAssign2, sIf, sRet, sExpr, eCall, aNil, aCons, cInt, cBool, cBin, eCmp, eIf, eAnd, eList, eIdx, eSlice, tCmp, tAnd, tAndNil, tOr, tOrNil, pNone, pSome, oAdd_i, oSub_i, oMul_i, oFdiv_i, oMod_i, oPow_i, kGt_i, kEq_i, kNe_i, oAdd_r, oMul_r, fLen_r, vBool_b, vInt_i, vRef_r, LoopQ_next, LoopQ_ret, retQ_next, retQ_ret, cv0_2, cv0_3, cv0_4, cv0_5, cv0_6, cv0_7, cv0_8, cv0_9, cvl0, cv1_2, cv1_3, cv1_4, cv1_5, cv1_6, cv1_7, cv1_8, cv1_9, cvl1, cv2, cv2_3, cv2_4, cv2_5, cv2_6, cv2_7, cv2_8, cv2_9, cvl2, cv3, cv3_2, cv3_4, cv3_5, cv3_6, cv3_7, cv3_8, cv3_9, cvl3, cv4, cv4_2, cv4_3, cv4_5, cv4_6, cv4_7, cv4_8, cv4_9, cvl4, cv5, cv5_2, cv5_3, cv5_4, cv5_6, cv5_7, cv5_8, cv5_9, cv6, cv6_2, cv6_3, cv6_4, cv6_5, cv6_7, cv6_8, cv6_9, cv7, cv7_2, cv7_3, cv7_4, cv7_5, cv7_6, cv7_8, cv7_9, cv8, cv8_2, cv8_3, cv8_4, cv8_5, cv8_6, cv8_7, cv8_9, cv9, cv9_2, cv9_3, cv9_4, cv9_5, cv9_6, cv9_7, cv9_8] | simp only [reduceIte, if_true, if_false, Bool.false_eq_true, reduceCtorEq, Int.toNat_natCast, show Int.toNat 3 = 3 from rfl, show Int.toNat 2 = 2 from rfl] | with_reducible refine head_of t_law_guess_right_11.eq_1 ?_ | with_reducible refine head_of t_law_guess_right_10.eq_1 ?_ | with_reducible refine head_of t_law_guess_right_9.eq_1 ?_ | with_reducible refine head_of t_law_guess_right_8.eq_1 ?_ | with_reducible refine head_of t_law_guess_right_7.eq_1 ?_ | with_reducible refine head_of t_law_guess_right_6.eq_1 ?_ | with_reducible refine head_of t_law_guess_right_5.eq_1 ?_ | with_reducible refine head_of t_law_guess_right_4.eq_1 ?_ | with_reducible refine head_of t_law_guess_right_2.eq_1 ?_ | with_reducible refine head_of t_law_guess_right_1.eq_1 ?_))
    exact key _ H4 _ rfl rfl rfl rfl (by (clear hw hw9 hQ hB9 hhalf hh2 hB4 hBpos p2 p3 p4 hBB hBBB hBB4 e3 e2 hf2 key hz0 hz1 hy0 hy1 hy nrp he0 he1; omega)) (by (clear hw hw9 hQ hB9 hhalf hh2 hB4 hBpos p2 p3 p4 hBB hBBB hBB4 e2 hN2 hf2 key hz0 hz1 hy0 hy1 hy nrp he0 he1; omega)) (((x1.trans x2).trans x3.but).trans x4) hp4
  · (repeat (first | dsimp only [sCons, sNil, sAssign, sAssign2, sIf, sRet, sExpr, eCall, aNil, aCons, cInt, cBool, cBin, eCmp, eIf, eAnd, eList, eIdx, eSlice, tCmp, tAnd, tAndNil, tOr, tOrNil, pNone, pSome, oAdd_i, oSub_i, oMul_i, oFdiv_i, oMod_i, oPow_i, kGt_i, kEq_i, kNe_i, oAdd_r, oMul_r, fLen_r, vBool_b, vInt_i, vRef_r, LoopQ_next, LoopQ_ret, retQ_next, retQ_ret, cv0_2, cv0_3, cv0_4, cv0_5, cv0_6, cv0_7, cv0_8, cv0_9, cvl0, cv1_2, cv1_3, cv1_4, cv1_5, cv1_6, cv1_7, cv1_8, cv1_9, cvl1, cv2, cv2_3, cv2_4, cv2_5, cv2_6, cv2_7, cv2_8, cv2_9, cvl2, cv3, cv3_2, cv3_4, cv3_5, cv3_6, cv3_7, cv3_8, cv3_9, cvl3, cv4, cv4_2, cv4_3, cv4_5, cv4_6, cv4_7, cv4_8, cv4_9, cvl4, cv5, cv5_2, cv5_3, cv5_4, cv5_6, cv5_7, cv5_8, cv5_9, cv6, cv6_2, cv6_3, cv6_4, cv6_5, cv6_7, cv6_8, cv6_9, cv7, cv7_2, cv7_3, cv7_4, cv7_5, cv7_6, cv7_8, cv7_9, cv8, cv8_2, cv8_3, cv8_4, cv8_5, cv8_6, cv8_7, cv8_9, cv9, cv9_2, cv9_3, cv9_4, cv9_5, cv9_6, cv9_7, cv9_8] | simp only [reduceIte, if_true, if_false, Bool.false_eq_true, reduceCtorEq, decide_eq_false hy, Int.toNat_natCast, show Int.toNat 3 = 3 from rfl, show Int.toNat 2 = 2 from rfl] | with_reducible refine head_of t_law_guess_right_11.eq_1 ?_ | with_reducible refine head_of t_law_guess_right_10.eq_1 ?_ | with_reducible refine head_of t_law_guess_right_9.eq_1 ?_ | with_reducible refine head_of t_law_guess_right_8.eq_1 ?_ | with_reducible refine head_of t_law_guess_right_7.eq_1 ?_ | with_reducible refine head_of t_law_guess_right_6.eq_1 ?_ | with_reducible refine head_of t_law_guess_right_5.eq_1 ?_ | with_reducible refine head_of t_law_guess_right_4.eq_1 ?_ | with_reducible refine head_of t_law_guess_right_2.eq_1 ?_ | with_reducible refine head_of t_law_guess_right_1.eq_1 ?_))
    exact key _ H2 _ rfl rfl rfl rfl (by (clear hw hw9 hQ hB9 hhalf hh2 hB4 hBpos p2 p3 p4 hBB hBBB hBB4 e3 e2 hf3 hf2 key hy0 hy1 hy hp sm2 hz1 x1 hp1 x2 hp2; lia)) (by (clear hw hw9 hQ hB9 hhalf hh2 hB4 hBpos p2 p3 p4 hBB hBBB hBB4 e2 hN2 hf3 hf2 key hz0 hy0 hy1 hy; lia)) (x1.trans x2) hp2
end Mine
end

section
open PySem
set_option linter.unusedVariables false
set_option linter.unusedSimpArgs false
namespace Mine

noncomputable def P_law_pool : PF := fun args H Q => ∃ a xs, args = [.ref a] ∧ H a = some (.list (iv xs)) ∧ xs.length ≤ 63 ∧ ∀ p H', Ext H H' → H p = none → PoolOk p H' → Q (.ref p) H'
noncomputable def P_law_refuses : PF := fun args H Q => ∃ a xs, ∃ w : Nat, args = [.ref a, .int w] ∧ H a = some (.list (iv xs)) ∧ xs.length ≤ 500 ∧ 1 ≤ w ∧ w ≤ 9 ∧ ∀ H', Ext H H' → Q (.bool true) H'
noncomputable def P_law : PF := fun args H Q => ∃ s ns, args = [.ref s] ∧ H s = some (.ro (iv ns)) ∧ ns.length ≤ 63 ∧ ∀ H', Q (.bool true) H'

noncomputable def t_law_12 : PS := (sCons (sRet (eAnd (eCmp kEq (cVar 8) (eCall P_law_row (aCons (cVar 6) (aCons (cVar 2) aNil)))) (eCmp kEq (cVar 9) (eCall P_law_row (aCons (cVar 3) (aCons (cVar 2) aNil)))))) sNil)
noncomputable def t_law_11 : PS := (sCons (sIf (tOr (tNot (tVal (eCall P_law_guess_right (aCons (cVar 1) (aCons (cVar 2) aNil))))) (tOr (tNot (tVal (eCall P_law_guess_right (aCons (cVar 1) (aCons (cVar 2) aNil))))) (tOr (tNot (tVal (eCall P_law_refuses (aCons (cVar 8) (aCons (cVar 2) aNil))))) tOrNil))) (sCons (sRet (cBool false)) sNil) sNil) t_law_12)
noncomputable def t_law_10 : PS := (sCons (sIf (tCmp kNe (eCall P_divrem_small (aCons (cVar 8) (aCons (eList (aCons (cVar 10) aNil)) (aCons (cVar 2) aNil)))) (eTup (aCons (eCall P_law_row (aCons (cBin oFdiv (cVar 6) (cVar 10)) (aCons (cVar 2) aNil))) (aCons (eCall P_law_row (aCons (cBin oMod (cVar 6) (cVar 10)) (aCons (cVar 2) aNil))) aNil)))) (sCons (sRet (cBool false)) sNil) sNil) t_law_11)
noncomputable def t_law_9 : PS := (sCons (sAssign 10 (cBin oAdd (cInt 1) (eCall P_law_draw (aCons (cVar 1) (aCons (cBin oSub (cBin oPow (cInt 2) (cVar 2)) (cInt 1)) aNil))))) t_law_10)
noncomputable def t_law_8 : PS := (sCons (sIf (tCmp kNe (eCall P_divrem_school (aCons (eCall P_law_row (aCons (cVar 7) (aCons (cVar 2) aNil))) (aCons (cVar 9) (aCons (cVar 2) aNil)))) (eTup (aCons (eCall P_law_row (aCons (cBin oFdiv (cVar 7) (cVar 3)) (aCons (cVar 2) aNil))) (aCons (eCall P_law_row (aCons (cBin oMod (cVar 7) (cVar 3)) (aCons (cVar 2) aNil))) aNil)))) (sCons (sRet (cBool false)) sNil) sNil) t_law_9)
noncomputable def t_law_7 : PS := (sCons (sIf (tCmp kNe (eCall P_divrem_school (aCons (cVar 8) (aCons (cVar 9) (aCons (cVar 2) aNil)))) (eTup (aCons (eCall P_law_row (aCons (cVar 4) (aCons (cVar 2) aNil))) (aCons (eCall P_law_row (aCons (cVar 5) (aCons (cVar 2) aNil))) aNil)))) (sCons (sRet (cBool false)) sNil) sNil) t_law_8)
noncomputable def t_law_6 : PS := (sCons (sAssign2 8 9 (eCall P_law_row (aCons (cVar 6) (aCons (cVar 2) aNil))) (eCall P_law_row (aCons (cVar 3) (aCons (cVar 2) aNil)))) t_law_7)
noncomputable def t_law_5 : PS := (sCons (sAssign2 6 7 (cBin oAdd (cBin oMul (cVar 4) (cVar 3)) (cVar 5)) (eCall P_law_number (aCons (cVar 1) (aCons (cVar 2) (aCons (cInt 8) aNil))))) t_law_6)
noncomputable def t_law_4 : PS := (sCons (sAssign 5 (eIdx (eList (aCons (cBin oSub (cVar 3) (cInt 1)) (aCons (cInt 0) (aCons (eCall P_law_draw (aCons (cVar 1) (aCons (cVar 3) aNil))) aNil)))) (eCall P_law_draw (aCons (cVar 1) (aCons (cInt 3) aNil))))) t_law_5)
noncomputable def t_law_3 : PS := (sCons (sIf (tCmp kEq (cVar 3) (cInt 0)) (sCons (sAssign 3 (cBin oAdd (cInt 1) (eCall P_law_draw (aCons (cVar 1) (aCons (cBin oSub (cBin oPow (cInt 2) (cVar 2)) (cInt 1)) aNil))))) sNil) sNil) t_law_4)
noncomputable def t_law_2 : PS := (sCons (sAssign2 3 4 (eCall P_law_number (aCons (cVar 1) (aCons (cVar 2) (aCons (cInt 5) aNil)))) (eCall P_law_number (aCons (cVar 1) (aCons (cVar 2) (aCons (cInt 5) aNil))))) t_law_3)
noncomputable def t_law_1 : PS := (sCons (sAssign 2 (cBin oAdd (cInt 2) (eCall P_law_draw (aCons (cVar 1) (aCons (cInt 8) aNil))))) t_law_2)
noncomputable def ps_law : PS := (sCons (sAssign 1 (eCall P_law_pool (aCons (eCall fList (aCons (cVar 0) aNil)) aNil))) t_law_1)

theorem use_row {n : Int} {w : Nat} {H : Hp} {Q : V → Hp → Prop} (h0 : 0 ≤ n) (hn : Small n) (hw : 1 ≤ w) (hw9 : w ≤ 9) (h : ∀ r H' xs, Ext H H' → H r = none → H' r = some (.list (iv xs)) → IsRow (2 ^ w) n xs → Q (.ref r) H') : P_law_row [.int n, .int w] H Q := by
  have a : (2 : Int) ^ 200 < 2 ^ 600 := by decide +kernel
  have b : n < 2 ^ 200 := by
    unfold Small at hn
    have : ((2 : Int) ^ 200) = ((2 ^ 200 : Nat) : Int) := by decide +kernel
    lia
  exact ⟨n, w, rfl, h0, by (clear h0 hw hw9 h a; lia), hw, hw9, h⟩

set_option maxRecDepth 100000 in
theorem law_tail {p w : Nat} {H : Hp} {m : Ev} {Q : V → Hp → Prop} {D q r whole other : Int} (hw : 2 ≤ w) (hw9 : w ≤ 9) (m1 : m 1 = some (.ref p)) (m2 : m 2 = some (.int w)) (m3 : m 3 = some (.int D)) (m4 : m 4 = some (.int q)) (m5 : m 5 = some (.int r)) (m6 : m 6 = some (.int whole)) (m7 : m 7 = some (.int other))
    (hD0 : 0 < D) (hD1 : D < (2 ^ w) ^ 5) (hq0 : 0 ≤ q) (hq1 : q < (2 ^ w) ^ 5) (hr0 : 0 ≤ r) (hr1 : r < D) (hwh : whole = q * D + r) (ho0 : 0 ≤ other) (ho1 : other < (2 ^ w) ^ 8) (hp : PoolOk p H) (hQ : ∀ H', Q (.bool true) H') :
    t_law_6 m H (retQ Q) := by
  have hB := two_le (show 1 ≤ w by (with_reducible exact cge2 (by assumption)))
  have hB9 := le_512 hw9
  have hBpos : (0 : Int) < 2 ^ w := by (with_reducible exact cpos)
  have hqD : q * D ≤ ((2 ^ w) ^ 5 - 1) * D := Int.mul_le_mul_of_nonneg_right (by (clear hw hw9 hD0 hD1 hq0 hr0 hr1 hwh ho0 ho1 hQ hB hB9 hBpos; lia)) (by (with_reducible exact Int.le_of_lt (by assumption)))
  have hDD : ((2 ^ w) ^ 5 - 1) * D + D = (2 ^ w) ^ 5 * D := by grind
  have hDB : (2 ^ w) ^ 5 * D ≤ (2 ^ w) ^ 5 * (2 ^ w) ^ 5 := Int.mul_le_mul_of_nonneg_left (by (with_reducible exact Int.le_of_lt (by assumption))) (Int.le_of_lt (Int.pow_pos hBpos))
  have hw0 : 0 ≤ whole := by have := Int.mul_nonneg hq0 (Int.le_of_lt hD0); (clear hw hw9 hD0 hD1 hq0 hq1 hr1 ho0 ho1 hQ hB hB9 hBpos hqD hDD hDB; lia)
  have hw1 : whole < (2 ^ w) ^ 10 := by
    rw [show (10 : Nat) = 5 + 5 from rfl, Int.pow_add]; (clear hw hw9 hD0 hD1 hq0 hq1 hr0 ho0 ho1 hQ hB hB9 hBpos hw0; lia)
  have sD : Small D := small_pow (by (with_reducible exact cpos1)) hB9 (by (with_reducible exact Int.le_of_lt (by assumption))) hD1 (by decide)
  have sq : Small q := small_pow (by (with_reducible exact cpos1)) hB9 hq0 hq1 (by decide)
  have sr : Small r := small_pow (by (with_reducible exact cpos1)) hB9 hr0 (Int.lt_trans hr1 hD1) (by decide)
  have sw : Small whole := small_pow (by (with_reducible exact cpos1)) hB9 hw0 hw1 (by decide)
  have so : Small other := small_pow (by (with_reducible exact cpos1)) hB9 ho0 ho1 (by decide)
  have hdiv : whole / D = q := by
    rw [hwh, Int.mul_comm, Int.add_comm, Int.add_mul_ediv_left _ _ (by (with_reducible exact cpz (by assumption))), Int.ediv_eq_zero_of_lt hr0 hr1]; (clear hw hw9 hD0 hD1 hq0 hq1 hr0 hr1 hwh ho0 ho1 hQ hB hB9 hBpos hqD hDD hDB hw0 hw1; lia)
  have hmod : whole % D = r := by
    rw [hwh, Int.mul_comm, Int.add_comm, Int.add_mul_emod_self_left, Int.emod_eq_of_lt hr0 hr1]
  (repeat (first | dsimp only [sCons, sNil, sAssign, sAssign2, sIf, sRet, eCall, aNil, aCons, cInt, cBool, cBin, eCmp, eAnd, eList, eTup, eIdx, tCmp, tNot, tOr, tOrNil, tVal, oAdd_i, oSub_i, oMul_i, oFdiv_i, oMod_i, oPow_i, kEq_i, kNe_i, oAdd_r, oMul_r, vBool_b, vInt_i, vRef_r, LoopQ_next, LoopQ_ret, retQ_next, retQ_ret, cv0_1, cv0_2, cv0_3, cv0_4, cv0_5, cv0_6, cv0_7, cv0_8, cv0_9, cv0_10, cvl0, cv1, cv1_2, cv1_3, cv1_4, cv1_5, cv1_6, cv1_7, cv1_8, cv1_9, cv1_10, cvl1, cv2, cv2_1, cv2_3, cv2_4, cv2_5, cv2_6, cv2_7, cv2_8, cv2_9, cv2_10, cvl2, cv3, cv3_1, cv3_2, cv3_4, cv3_5, cv3_6, cv3_7, cv3_8, cv3_9, cv3_10, cvl3, cv4, cv4_1, cv4_2, cv4_3, cv4_5, cv4_6, cv4_7, cv4_8, cv4_9, cv4_10, cvl4, cv5, cv5_1, cv5_2, cv5_3, cv5_4, cv5_6, cv5_7, cv5_8, cv5_9, cv5_10, cv6, cv6_1, cv6_2, cv6_3, cv6_4, cv6_5, cv6_7, cv6_8, cv6_9, cv6_10, cv7, cv7_1, cv7_2, cv7_3, cv7_4, cv7_5, cv7_6, cv7_8, cv7_9, cv7_10, cv8, cv8_1, cv8_2, cv8_3, cv8_4, cv8_5, cv8_6, cv8_7, cv8_9, cv8_10, cv9, cv9_1, cv9_2, cv9_3, cv9_4, cv9_5, cv9_6, cv9_7, cv9_8, cv9_10, cv10, cv10_1, cv10_2, cv10_3, cv10_4, cv10_5, cv10_6, cv10_7, cv10_8, cv10_9] | simp only [reduceIte, if_true, if_false, Bool.false_eq_true, reduceCtorEq, cVar_at m1, cVar_at m2, cVar_at m3, cVar_at m4, cVar_at m5, cVar_at m6, cVar_at m7] | with_reducible refine head_of t_law_12.eq_1 ?_ | with_reducible refine head_of t_law_11.eq_1 ?_ | with_reducible refine head_of t_law_10.eq_1 ?_ | with_reducible refine head_of t_law_9.eq_1 ?_ | with_reducible refine head_of t_law_8.eq_1 ?_ | with_reducible refine head_of t_law_7.eq_1 ?_ | with_reducible refine head_of t_law_6.eq_1 ?_ | with_reducible refine head_of t_law_5.eq_1 ?_ | with_reducible refine head_of t_law_4.eq_1 ?_ | with_reducible refine head_of t_law_3.eq_1 ?_ | with_reducible refine head_of t_law_2.eq_1 ?_ | with_reducible refine head_of t_law_1.eq_1 ?_))
  refine use_row hw0 sw (by (with_reducible exact cge2 (by assumption))) hw9 fun ra H1 xs x1 hra0 hra hxs => ?_
  (repeat (first | dsimp only [sCons, sNil, sAssign, sAssign2, sIf, sRet, eCall, aNil, aCons, cInt, cBool, cBin, eCmp, eAnd, eList, eTup, eIdx, tCmp, tNot, tOr, tOrNil, tVal, oAdd_i, oSub_i, oMul_i, oFdiv_i, oMod_i, oPow_i, kEq_i, kNe_i, oAdd_r, oMul_r, vBool_b, vInt_i, vRef_r, LoopQ_next, LoopQ_ret, retQ_next, retQ_ret, cv0_1, cv0_2, cv0_3, cv0_4, cv0_5, cv0_6, cv0_7, cv0_8, cv0_9, cv0_10, cvl0, cv1, cv1_2, cv1_3, cv1_4, cv1_5, cv1_6, cv1_7, cv1_8, cv1_9, cv1_10, cvl1, cv2, cv2_1, cv2_3, cv2_4, cv2_5, cv2_6, cv2_7, cv2_8, cv2_9, cv2_10, cvl2, cv3, cv3_1, cv3_2, cv3_4, cv3_5, cv3_6, cv3_7, cv3_8, cv3_9, cv3_10, cvl3, cv4, cv4_1, cv4_2, cv4_3, cv4_5, cv4_6, cv4_7, cv4_8, cv4_9, cv4_10, cvl4, cv5, cv5_1, cv5_2, cv5_3, cv5_4, cv5_6, cv5_7, cv5_8, cv5_9, cv5_10, cv6, cv6_1, cv6_2, cv6_3, cv6_4, cv6_5, cv6_7, cv6_8, cv6_9, cv6_10, cv7, cv7_1, cv7_2, cv7_3, cv7_4, cv7_5, cv7_6, cv7_8, cv7_9, cv7_10, cv8, cv8_1, cv8_2, cv8_3, cv8_4, cv8_5, cv8_6, cv8_7, cv8_9, cv8_10, cv9, cv9_1, cv9_2, cv9_3, cv9_4, cv9_5, cv9_6, cv9_7, cv9_8, cv9_10, cv10, cv10_1, cv10_2, cv10_3, cv10_4, cv10_5, cv10_6, cv10_7, cv10_8, cv10_9] | simp only [reduceIte, if_true, if_false, Bool.false_eq_true, reduceCtorEq, cVar_at m1, cVar_at m2, cVar_at m3, cVar_at m4, cVar_at m5, cVar_at m6, cVar_at m7] | with_reducible refine head_of t_law_12.eq_1 ?_ | with_reducible refine head_of t_law_11.eq_1 ?_ | with_reducible refine head_of t_law_10.eq_1 ?_ | with_reducible refine head_of t_law_9.eq_1 ?_ | with_reducible refine head_of t_law_8.eq_1 ?_ | with_reducible refine head_of t_law_7.eq_1 ?_ | with_reducible refine head_of t_law_6.eq_1 ?_ | with_reducible refine head_of t_law_5.eq_1 ?_ | with_reducible refine head_of t_law_4.eq_1 ?_ | with_reducible refine head_of t_law_3.eq_1 ?_ | with_reducible refine head_of t_law_2.eq_1 ?_ | with_reducible refine head_of t_law_1.eq_1 ?_))
  refine use_row (by (with_reducible exact Int.le_of_lt (by assumption))) sD (by (with_reducible exact cge2 (by assumption))) hw9 fun rb H2 ys x2 hrb0 hrb hys => ?_
  (repeat (first | dsimp only [sCons, sNil, sAssign, sAssign2, sIf, sRet, eCall, aNil, aCons, cInt, cBool, cBin, eCmp, eAnd, eList, eTup, eIdx, tCmp, tNot, tOr, tOrNil, tVal, oAdd_i, oSub_i, oMul_i, oFdiv_i, oMod_i, oPow_i, kEq_i, kNe_i, oAdd_r, oMul_r, vBool_b, vInt_i, vRef_r, LoopQ_next, LoopQ_ret, retQ_next, retQ_ret, cv0_1, cv0_2, cv0_3, cv0_4, cv0_5, cv0_6, cv0_7, cv0_8, cv0_9, cv0_10, cvl0, cv1, cv1_2, cv1_3, cv1_4, cv1_5, cv1_6, cv1_7, cv1_8, cv1_9, cv1_10, cvl1, cv2, cv2_1, cv2_3, cv2_4, cv2_5, cv2_6, cv2_7, cv2_8, cv2_9, cv2_10, cvl2, cv3, cv3_1, cv3_2, cv3_4, cv3_5, cv3_6, cv3_7, cv3_8, cv3_9, cv3_10, cvl3, cv4, cv4_1, cv4_2, cv4_3, cv4_5, cv4_6, cv4_7, cv4_8, cv4_9, cv4_10, cvl4, cv5, cv5_1, cv5_2, cv5_3, cv5_4, cv5_6, cv5_7, cv5_8, cv5_9, cv5_10, cv6, cv6_1, cv6_2, cv6_3, cv6_4, cv6_5, cv6_7, cv6_8, cv6_9, cv6_10, cv7, cv7_1, cv7_2, cv7_3, cv7_4, cv7_5, cv7_6, cv7_8, cv7_9, cv7_10, cv8, cv8_1, cv8_2, cv8_3, cv8_4, cv8_5, cv8_6, cv8_7, cv8_9, cv8_10, cv9, cv9_1, cv9_2, cv9_3, cv9_4, cv9_5, cv9_6, cv9_7, cv9_8, cv9_10, cv10, cv10_1, cv10_2, cv10_3, cv10_4, cv10_5, cv10_6, cv10_7, cv10_8, cv10_9] | simp only [reduceIte, if_true, if_false, Bool.false_eq_true, reduceCtorEq, cVar_at m1, cVar_at m2, cVar_at m3, cVar_at m4, cVar_at m5, cVar_at m6, cVar_at m7] | with_reducible refine head_of t_law_12.eq_1 ?_ | with_reducible refine head_of t_law_11.eq_1 ?_ | with_reducible refine head_of t_law_10.eq_1 ?_ | with_reducible refine head_of t_law_9.eq_1 ?_ | with_reducible refine head_of t_law_8.eq_1 ?_ | with_reducible refine head_of t_law_7.eq_1 ?_ | with_reducible refine head_of t_law_6.eq_1 ?_ | with_reducible refine head_of t_law_5.eq_1 ?_ | with_reducible refine head_of t_law_4.eq_1 ?_ | with_reducible refine head_of t_law_3.eq_1 ?_ | with_reducible refine head_of t_law_2.eq_1 ?_ | with_reducible refine head_of t_law_1.eq_1 ?_))
  have hne : ys ≠ [] := by
    rintro rfl
    have := hys.eq
    simp [val] at this
    (clear hw hw9 hD1 hq0 hq1 hr0 hr1 hwh ho0 ho1 hQ hB hB9 hBpos hqD hDD hDB hw0 hw1 hdiv hmod; lia)
  have hxl := hxs.len (k := 10) (by (with_reducible exact cp1 (by assumption))) hw1
  have hyl := hys.len (k := 5) (by (with_reducible exact cp1 (by assumption))) hD1
  refine ⟨ra, rb, xs, ys, w, rfl, x2 _ _ hra, hrb, by (clear hw hw9 hD0 hD1 hq0 hq1 hr0 hr1 hwh ho0 ho1 hQ hB hB9 hBpos hqD hDD hDB hw0 hw1 hdiv hmod hne hyl; lia), by (clear hw hw9 hD0 hD1 hq0 hq1 hr0 hr1 hwh ho0 ho1 hQ hB hB9 hBpos hqD hDD hDB hw0 hw1 hdiv hmod hne hxl; lia), by (with_reducible exact cge2 (by assumption)), hw9, hxs.dig, hxs.norm, hys.dig, hys.norm, hne, fun t r1 r2 H3 qs rs x3 ht h1 h2 hqs hrs => ?_⟩
  (repeat (first | dsimp only [sCons, sNil, sAssign, sAssign2, sIf, sRet, eCall, aNil, aCons, cInt, cBool, cBin, eCmp, eAnd, eList, eTup, eIdx, tCmp, tNot, tOr, tOrNil, tVal, oAdd_i, oSub_i, oMul_i, oFdiv_i, oMod_i, oPow_i, kEq_i, kNe_i, oAdd_r, oMul_r, vBool_b, vInt_i, vRef_r, LoopQ_next, LoopQ_ret, retQ_next, retQ_ret, cv0_1, cv0_2, cv0_3, cv0_4, cv0_5, cv0_6, cv0_7, cv0_8, cv0_9, cv0_10, cvl0, cv1, cv1_2, cv1_3, cv1_4, cv1_5, cv1_6, cv1_7, cv1_8, cv1_9, cv1_10, cvl1, cv2, cv2_1, cv2_3, cv2_4, cv2_5, cv2_6, cv2_7, cv2_8, cv2_9, cv2_10, cvl2, cv3, cv3_1, cv3_2, cv3_4, cv3_5, cv3_6, cv3_7, cv3_8, cv3_9, cv3_10, cvl3, cv4, cv4_1, cv4_2, cv4_3, cv4_5, cv4_6, cv4_7, cv4_8, cv4_9, cv4_10, cvl4, cv5, cv5_1, cv5_2, cv5_3, cv5_4, cv5_6, cv5_7, cv5_8, cv5_9, cv5_10, cv6, cv6_1, cv6_2, cv6_3, cv6_4, cv6_5, cv6_7, cv6_8, cv6_9, cv6_10, cv7, cv7_1, cv7_2, cv7_3, cv7_4, cv7_5, cv7_6, cv7_8, cv7_9, cv7_10, cv8, cv8_1, cv8_2, cv8_3, cv8_4, cv8_5, cv8_6, cv8_7, cv8_9, cv8_10, cv9, cv9_1, cv9_2, cv9_3, cv9_4, cv9_5, cv9_6, cv9_7, cv9_8, cv9_10, cv10, cv10_1, cv10_2, cv10_3, cv10_4, cv10_5, cv10_6, cv10_7, cv10_8, cv10_9] | simp only [reduceIte, if_true, if_false, Bool.false_eq_true, reduceCtorEq, cVar_at m1, cVar_at m2, cVar_at m3, cVar_at m4, cVar_at m5, cVar_at m6, cVar_at m7] | with_reducible refine head_of t_law_12.eq_1 ?_ | with_reducible refine head_of t_law_11.eq_1 ?_ | with_reducible refine head_of t_law_10.eq_1 ?_ | with_reducible refine head_of t_law_9.eq_1 ?_ | with_reducible refine head_of t_law_8.eq_1 ?_ | with_reducible refine head_of t_law_7.eq_1 ?_ | with_reducible refine head_of t_law_6.eq_1 ?_ | with_reducible refine head_of t_law_5.eq_1 ?_ | with_reducible refine head_of t_law_4.eq_1 ?_ | with_reducible refine head_of t_law_3.eq_1 ?_ | with_reducible refine head_of t_law_2.eq_1 ?_ | with_reducible refine head_of t_law_1.eq_1 ?_))
  refine use_row hq0 sq (by (with_reducible exact cge2 (by assumption))) hw9 fun r3 H4 qs' x4 _ h3 hqs' => ?_
  (repeat (first | dsimp only [sCons, sNil, sAssign, sAssign2, sIf, sRet, eCall, aNil, aCons, cInt, cBool, cBin, eCmp, eAnd, eList, eTup, eIdx, tCmp, tNot, tOr, tOrNil, tVal, oAdd_i, oSub_i, oMul_i, oFdiv_i, oMod_i, oPow_i, kEq_i, kNe_i, oAdd_r, oMul_r, vBool_b, vInt_i, vRef_r, LoopQ_next, LoopQ_ret, retQ_next, retQ_ret, cv0_1, cv0_2, cv0_3, cv0_4, cv0_5, cv0_6, cv0_7, cv0_8, cv0_9, cv0_10, cvl0, cv1, cv1_2, cv1_3, cv1_4, cv1_5, cv1_6, cv1_7, cv1_8, cv1_9, cv1_10, cvl1, cv2, cv2_1, cv2_3, cv2_4, cv2_5, cv2_6, cv2_7, cv2_8, cv2_9, cv2_10, cvl2, cv3, cv3_1, cv3_2, cv3_4, cv3_5, cv3_6, cv3_7, cv3_8, cv3_9, cv3_10, cvl3, cv4, cv4_1, cv4_2, cv4_3, cv4_5, cv4_6, cv4_7, cv4_8, cv4_9, cv4_10, cvl4, cv5, cv5_1, cv5_2, cv5_3, cv5_4, cv5_6, cv5_7, cv5_8, cv5_9, cv5_10, cv6, cv6_1, cv6_2, cv6_3, cv6_4, cv6_5, cv6_7, cv6_8, cv6_9, cv6_10, cv7, cv7_1, cv7_2, cv7_3, cv7_4, cv7_5, cv7_6, cv7_8, cv7_9, cv7_10, cv8, cv8_1, cv8_2, cv8_3, cv8_4, cv8_5, cv8_6, cv8_7, cv8_9, cv8_10, cv9, cv9_1, cv9_2, cv9_3, cv9_4, cv9_5, cv9_6, cv9_7, cv9_8, cv9_10, cv10, cv10_1, cv10_2, cv10_3, cv10_4, cv10_5, cv10_6, cv10_7, cv10_8, cv10_9] | simp only [reduceIte, if_true, if_false, Bool.false_eq_true, reduceCtorEq, cVar_at m1, cVar_at m2, cVar_at m3, cVar_at m4, cVar_at m5, cVar_at m6, cVar_at m7] | with_reducible refine head_of t_law_12.eq_1 ?_ | with_reducible refine head_of t_law_11.eq_1 ?_ | with_reducible refine head_of t_law_10.eq_1 ?_ | with_reducible refine head_of t_law_9.eq_1 ?_ | with_reducible refine head_of t_law_8.eq_1 ?_ | with_reducible refine head_of t_law_7.eq_1 ?_ | with_reducible refine head_of t_law_6.eq_1 ?_ | with_reducible refine head_of t_law_5.eq_1 ?_ | with_reducible refine head_of t_law_4.eq_1 ?_ | with_reducible refine head_of t_law_3.eq_1 ?_ | with_reducible refine head_of t_law_2.eq_1 ?_ | with_reducible refine head_of t_law_1.eq_1 ?_))
  refine use_row hr0 sr (by (with_reducible exact cge2 (by assumption))) hw9 fun r4 H5 rs' x5 _ h4 hrs' => ?_
  (repeat (first | dsimp only [sCons, sNil, sAssign, sAssign2, sIf, sRet, eCall, aNil, aCons, cInt, cBool, cBin, eCmp, eAnd, eList, eTup, eIdx, tCmp, tNot, tOr, tOrNil, tVal, oAdd_i, oSub_i, oMul_i, oFdiv_i, oMod_i, oPow_i, kEq_i, kNe_i, oAdd_r, oMul_r, vBool_b, vInt_i, vRef_r, LoopQ_next, LoopQ_ret, retQ_next, retQ_ret, cv0_1, cv0_2, cv0_3, cv0_4, cv0_5, cv0_6, cv0_7, cv0_8, cv0_9, cv0_10, cvl0, cv1, cv1_2, cv1_3, cv1_4, cv1_5, cv1_6, cv1_7, cv1_8, cv1_9, cv1_10, cvl1, cv2, cv2_1, cv2_3, cv2_4, cv2_5, cv2_6, cv2_7, cv2_8, cv2_9, cv2_10, cvl2, cv3, cv3_1, cv3_2, cv3_4, cv3_5, cv3_6, cv3_7, cv3_8, cv3_9, cv3_10, cvl3, cv4, cv4_1, cv4_2, cv4_3, cv4_5, cv4_6, cv4_7, cv4_8, cv4_9, cv4_10, cvl4, cv5, cv5_1, cv5_2, cv5_3, cv5_4, cv5_6, cv5_7, cv5_8, cv5_9, cv5_10, cv6, cv6_1, cv6_2, cv6_3, cv6_4, cv6_5, cv6_7, cv6_8, cv6_9, cv6_10, cv7, cv7_1, cv7_2, cv7_3, cv7_4, cv7_5, cv7_6, cv7_8, cv7_9, cv7_10, cv8, cv8_1, cv8_2, cv8_3, cv8_4, cv8_5, cv8_6, cv8_7, cv8_9, cv8_10, cv9, cv9_1, cv9_2, cv9_3, cv9_4, cv9_5, cv9_6, cv9_7, cv9_8, cv9_10, cv10, cv10_1, cv10_2, cv10_3, cv10_4, cv10_5, cv10_6, cv10_7, cv10_8, cv10_9] | simp only [reduceIte, if_true, if_false, Bool.false_eq_true, reduceCtorEq, cVar_at m1, cVar_at m2, cVar_at m3, cVar_at m4, cVar_at m5, cVar_at m6, cVar_at m7] | with_reducible refine head_of t_law_12.eq_1 ?_ | with_reducible refine head_of t_law_11.eq_1 ?_ | with_reducible refine head_of t_law_10.eq_1 ?_ | with_reducible refine head_of t_law_9.eq_1 ?_ | with_reducible refine head_of t_law_8.eq_1 ?_ | with_reducible refine head_of t_law_7.eq_1 ?_ | with_reducible refine head_of t_law_6.eq_1 ?_ | with_reducible refine head_of t_law_5.eq_1 ?_ | with_reducible refine head_of t_law_4.eq_1 ?_ | with_reducible refine head_of t_law_3.eq_1 ?_ | with_reducible refine head_of t_law_2.eq_1 ?_ | with_reducible refine head_of t_law_1.eq_1 ?_))
  refine ⟨by simp, fun t' ht' => ?_⟩
  have x6 : Ext H5 (updH H5 t' (.tup [.ref r3, .ref r4])) := Ext.upd ht'
  rw [hxs.eq, hys.eq, hdiv] at hqs
  rw [hxs.eq, hys.eq, hmod] at hrs
  have e1 := hqs.unique hBpos hqs'
  have e2 := hrs.unique hBpos hrs'
  subst e1 e2
  refine ⟨r1, r2, r3, r4, qs, rs, qs, rs, x6 _ _ (x5 _ _ (x4 _ _ ht)), updH_same .., x6 _ _ (x5 _ _ (x4 _ _ h1)), x6 _ _ (x5 _ _ (x4 _ _ h2)), x6 _ _ (x5 _ _ h3), x6 _ _ h4, ?_⟩
  have xx : Ext H2 (updH H5 t' (.tup [.ref r3, .ref r4])) := ((x3.trans x4).trans x5).trans x6
  generalize updH H5 t' (.tup [.ref r3, .ref r4]) = H6 at xx ⊢
  rw [show (!decide (qs = qs ∧ rs = rs)) = false by simp]
  (repeat (first | dsimp only [sCons, sNil, sAssign, sAssign2, sIf, sRet, eCall, aNil, aCons, cInt, cBool, cBin, eCmp, eAnd, eList, eTup, eIdx, tCmp, tNot, tOr, tOrNil, tVal, oAdd_i, oSub_i, oMul_i, oFdiv_i, oMod_i, oPow_i, kEq_i, kNe_i, oAdd_r, oMul_r, vBool_b, vInt_i, vRef_r, LoopQ_next, LoopQ_ret, retQ_next, retQ_ret, cv0_1, cv0_2, cv0_3, cv0_4, cv0_5, cv0_6, cv0_7, cv0_8, cv0_9, cv0_10, cvl0, cv1, cv1_2, cv1_3, cv1_4, cv1_5, cv1_6, cv1_7, cv1_8, cv1_9, cv1_10, cvl1, cv2, cv2_1, cv2_3, cv2_4, cv2_5, cv2_6, cv2_7, cv2_8, cv2_9, cv2_10, cvl2, cv3, cv3_1, cv3_2, cv3_4, cv3_5, cv3_6, cv3_7, cv3_8, cv3_9, cv3_10, cvl3, cv4, cv4_1, cv4_2, cv4_3, cv4_5, cv4_6, cv4_7, cv4_8, cv4_9, cv4_10, cvl4, cv5, cv5_1, cv5_2, cv5_3, cv5_4, cv5_6, cv5_7, cv5_8, cv5_9, cv5_10, cv6, cv6_1, cv6_2, cv6_3, cv6_4, cv6_5, cv6_7, cv6_8, cv6_9, cv6_10, cv7, cv7_1, cv7_2, cv7_3, cv7_4, cv7_5, cv7_6, cv7_8, cv7_9, cv7_10, cv8, cv8_1, cv8_2, cv8_3, cv8_4, cv8_5, cv8_6, cv8_7, cv8_9, cv8_10, cv9, cv9_1, cv9_2, cv9_3, cv9_4, cv9_5, cv9_6, cv9_7, cv9_8, cv9_10, cv10, cv10_1, cv10_2, cv10_3, cv10_4, cv10_5, cv10_6, cv10_7, cv10_8, cv10_9] | simp only [reduceIte, if_true, if_false, Bool.false_eq_true, reduceCtorEq, cVar_at m1, cVar_at m2, cVar_at m3, cVar_at m4, cVar_at m5, cVar_at m6, cVar_at m7] | with_reducible refine head_of t_law_12.eq_1 ?_ | with_reducible refine head_of t_law_11.eq_1 ?_ | with_reducible refine head_of t_law_10.eq_1 ?_ | with_reducible refine head_of t_law_9.eq_1 ?_ | with_reducible refine head_of t_law_8.eq_1 ?_ | with_reducible refine head_of t_law_7.eq_1 ?_ | with_reducible refine head_of t_law_6.eq_1 ?_ | with_reducible refine head_of t_law_5.eq_1 ?_ | with_reducible refine head_of t_law_4.eq_1 ?_ | with_reducible refine head_of t_law_3.eq_1 ?_ | with_reducible refine head_of t_law_2.eq_1 ?_ | with_reducible refine head_of t_law_1.eq_1 ?_))
  clear ht h1 h2 h3 h4 ht' x3 x4 x5 x6 hqs hrs hqs' hrs'
  have hra2 : H6 ra = some (.list (iv xs)) := xx _ _ (x2 _ _ hra)
  have hrb2 : H6 rb = some (.list (iv ys)) := xx _ _ hrb
  have nrap : ra ≠ p := by obtain ⟨o, ho⟩ := hp.there; exact (ne_fresh ho hra0).symm
  have nrbp : rb ≠ p := by obtain ⟨o, ho⟩ := (hp.ext x1).there; exact (ne_fresh ho hrb0).symm
  have hp6 := hp.ext ((x1.trans x2).trans xx)
  clear xx hra hrb hra0 hrb0 x1 x2 hp
  -- the other number
  refine use_row ho0 so (by (with_reducible exact cge2 (by assumption))) hw9 fun rc H7 zs x7 _ hrc hzs => ?_
  have hzl := hzs.len (k := 8) (by (with_reducible exact cp1 (by assumption))) ho1
  refine ⟨rc, rb, zs, ys, w, rfl, hrc, x7 _ _ hrb2, by (clear hw hw9 hD0 hD1 hq0 hq1 hr0 hr1 hwh ho0 ho1 hQ hB hB9 hBpos hqD hDD hDB hw0 hw1 hdiv hmod hne hxl hyl nrap nrbp; lia), by (clear hw hw9 hD0 hD1 hq0 hq1 hr0 hr1 hwh ho0 ho1 hQ hB hB9 hBpos hqD hDD hDB hw0 hw1 hdiv hmod hne hxl nrap nrbp hzl; omega), by (with_reducible exact cge2 (by assumption)), hw9, hzs.dig, hzs.norm, hys.dig, hys.norm, hne, fun t r1 r2 H8 qs rs x8 ht h1 h2 hqs hrs => ?_⟩
  have ho2 : 0 ≤ other / D := Int.ediv_nonneg ho0 (by (with_reducible exact Int.le_of_lt (by assumption)))
  have ho3 : other / D ≤ other := Int.ediv_le_self _ ho0
  have ho4 : 0 ≤ other % D := Int.emod_nonneg _ (by (with_reducible exact cpz (by assumption)))
  have ho5 : other % D < D := Int.emod_lt_of_pos _ hD0
  rw [fdiv_pos (by (with_reducible exact Int.le_of_lt (by assumption))), fmod_pos (by (with_reducible exact Int.le_of_lt (by assumption)))]
  refine ⟨by (with_reducible exact cpz (by assumption)), sD, use_row ho2 (small_pow (by (with_reducible exact cpos1)) hB9 ho2 (Int.lt_of_le_of_lt ho3 ho1) (by decide)) (by (with_reducible exact cge2 (by assumption))) hw9 fun r3 H9 qs' x9 _ h3 hqs' => ⟨by (with_reducible exact cpz (by assumption)), use_row ho4 (small_pow (by (with_reducible exact cpos1)) hB9 ho4 (Int.lt_trans ho5 hD1) (by decide)) (by (with_reducible exact cge2 (by assumption))) hw9 fun r4 H10 rs' x10 _ h4 hrs' => ⟨by simp, fun t' ht' => ?_⟩⟩⟩
  have x11 : Ext H10 (updH H10 t' (.tup [.ref r3, .ref r4])) := Ext.upd ht'
  rw [hzs.eq, hys.eq] at hqs hrs
  have e1 := hqs.unique hBpos hqs'
  have e2 := hrs.unique hBpos hrs'
  subst e1 e2
  refine ⟨r1, r2, r3, r4, qs, rs, qs, rs, x11 _ _ (x10 _ _ (x9 _ _ ht)), updH_same .., x11 _ _ (x10 _ _ (x9 _ _ h1)), x11 _ _ (x10 _ _ (x9 _ _ h2)), x11 _ _ (x10 _ _ h3), x11 _ _ h4, ?_⟩
  have xx : Ext H6 (updH H10 t' (.tup [.ref r3, .ref r4])) := (((x7.trans x8).trans x9).trans x10).trans x11
  generalize updH H10 t' (.tup [.ref r3, .ref r4]) = H11 at xx ⊢
  rw [show (!decide (qs = qs ∧ rs = rs)) = false by simp]
  (repeat (first | dsimp only [sCons, sNil, sAssign, sAssign2, sIf, sRet, eCall, aNil, aCons, cInt, cBool, cBin, eCmp, eAnd, eList, eTup, eIdx, tCmp, tNot, tOr, tOrNil, tVal, oAdd_i, oSub_i, oMul_i, oFdiv_i, oMod_i, oPow_i, kEq_i, kNe_i, oAdd_r, oMul_r, vBool_b, vInt_i, vRef_r, LoopQ_next, LoopQ_ret, retQ_next, retQ_ret, cv0_1, cv0_2, cv0_3, cv0_4, cv0_5, cv0_6, cv0_7, cv0_8, cv0_9, cv0_10, cvl0, cv1, cv1_2, cv1_3, cv1_4, cv1_5, cv1_6, cv1_7, cv1_8, cv1_9, cv1_10, cvl1, cv2, cv2_1, cv2_3, cv2_4, cv2_5, cv2_6, cv2_7, cv2_8, cv2_9, cv2_10, cvl2, cv3, cv3_1, cv3_2, cv3_4, cv3_5, cv3_6, cv3_7, cv3_8, cv3_9, cv3_10, cvl3, cv4, cv4_1, cv4_2, cv4_3, cv4_5, cv4_6, cv4_7, cv4_8, cv4_9, cv4_10, cvl4, cv5, cv5_1, cv5_2, cv5_3, cv5_4, cv5_6, cv5_7, cv5_8, cv5_9, cv5_10, cv6, cv6_1, cv6_2, cv6_3, cv6_4, cv6_5, cv6_7, cv6_8, cv6_9, cv6_10, cv7, cv7_1, cv7_2, cv7_3, cv7_4, cv7_5, cv7_6, cv7_8, cv7_9, cv7_10, cv8, cv8_1, cv8_2, cv8_3, cv8_4, cv8_5, cv8_6, cv8_7, cv8_9, cv8_10, cv9, cv9_1, cv9_2, cv9_3, cv9_4, cv9_5, cv9_6, cv9_7, cv9_8, cv9_10, cv10, cv10_1, cv10_2, cv10_3, cv10_4, cv10_5, cv10_6, cv10_7, cv10_8, cv10_9] | simp only [reduceIte, if_true, if_false, Bool.false_eq_true, reduceCtorEq, cVar_at m1, cVar_at m2, cVar_at m3, cVar_at m4, cVar_at m5, cVar_at m6, cVar_at m7] | with_reducible refine head_of t_law_12.eq_1 ?_ | with_reducible refine head_of t_law_11.eq_1 ?_ | with_reducible refine head_of t_law_10.eq_1 ?_ | with_reducible refine head_of t_law_9.eq_1 ?_ | with_reducible refine head_of t_law_8.eq_1 ?_ | with_reducible refine head_of t_law_7.eq_1 ?_ | with_reducible refine head_of t_law_6.eq_1 ?_ | with_reducible refine head_of t_law_5.eq_1 ?_ | with_reducible refine head_of t_law_4.eq_1 ?_ | with_reducible refine head_of t_law_3.eq_1 ?_ | with_reducible refine head_of t_law_2.eq_1 ?_ | with_reducible refine head_of t_law_1.eq_1 ?_))
  clear ht h1 h2 h3 h4 ht' x7 x8 x9 x10 x11 hqs hrs hqs' hrs' hzs hrc hzl zs
  replace hra2 := xx _ _ hra2
  replace hrb2 := xx _ _ hrb2
  replace hp6 := hp6.ext xx
  clear xx
  -- a small divisor
  refine ⟨by (with_reducible exact Int.natCast_nonneg _), by (with_reducible exact cw (by assumption)), by decide, ?_⟩
  rw [Int.toNat_natCast]
  refine ⟨p, _, rfl, hp6, by (clear hw hw9 hD0 hD1 hq0 hq1 hr0 hr1 hwh ho0 ho1 hQ hB9 hBpos hqD hDD hDB hw0 hw1 hdiv hmod hne hxl hyl nrap nrbp ho2 ho3 ho4 ho5; lia), fun z H12 hz0 hz1 x12 hp12 => ?_⟩
  (repeat (first | dsimp only [sCons, sNil, sAssign, sAssign2, sIf, sRet, eCall, aNil, aCons, cInt, cBool, cBin, eCmp, eAnd, eList, eTup, eIdx, tCmp, tNot, tOr, tOrNil, tVal, oAdd_i, oSub_i, oMul_i, oFdiv_i, oMod_i, oPow_i, kEq_i, kNe_i, oAdd_r, oMul_r, vBool_b, vInt_i, vRef_r, LoopQ_next, LoopQ_ret, retQ_next, retQ_ret, cv0_1, cv0_2, cv0_3, cv0_4, cv0_5, cv0_6, cv0_7, cv0_8, cv0_9, cv0_10, cvl0, cv1, cv1_2, cv1_3, cv1_4, cv1_5, cv1_6, cv1_7, cv1_8, cv1_9, cv1_10, cvl1, cv2, cv2_1, cv2_3, cv2_4, cv2_5, cv2_6, cv2_7, cv2_8, cv2_9, cv2_10, cvl2, cv3, cv3_1, cv3_2, cv3_4, cv3_5, cv3_6, cv3_7, cv3_8, cv3_9, cv3_10, cvl3, cv4, cv4_1, cv4_2, cv4_3, cv4_5, cv4_6, cv4_7, cv4_8, cv4_9, cv4_10, cvl4, cv5, cv5_1, cv5_2, cv5_3, cv5_4, cv5_6, cv5_7, cv5_8, cv5_9, cv5_10, cv6, cv6_1, cv6_2, cv6_3, cv6_4, cv6_5, cv6_7, cv6_8, cv6_9, cv6_10, cv7, cv7_1, cv7_2, cv7_3, cv7_4, cv7_5, cv7_6, cv7_8, cv7_9, cv7_10, cv8, cv8_1, cv8_2, cv8_3, cv8_4, cv8_5, cv8_6, cv8_7, cv8_9, cv8_10, cv9, cv9_1, cv9_2, cv9_3, cv9_4, cv9_5, cv9_6, cv9_7, cv9_8, cv9_10, cv10, cv10_1, cv10_2, cv10_3, cv10_4, cv10_5, cv10_6, cv10_7, cv10_8, cv10_9] | simp only [reduceIte, if_true, if_false, Bool.false_eq_true, reduceCtorEq, cVar_at m1, cVar_at m2, cVar_at m3, cVar_at m4, cVar_at m5, cVar_at m6, cVar_at m7] | with_reducible refine head_of t_law_12.eq_1 ?_ | with_reducible refine head_of t_law_11.eq_1 ?_ | with_reducible refine head_of t_law_10.eq_1 ?_ | with_reducible refine head_of t_law_9.eq_1 ?_ | with_reducible refine head_of t_law_8.eq_1 ?_ | with_reducible refine head_of t_law_7.eq_1 ?_ | with_reducible refine head_of t_law_6.eq_1 ?_ | with_reducible refine head_of t_law_5.eq_1 ?_ | with_reducible refine head_of t_law_4.eq_1 ?_ | with_reducible refine head_of t_law_3.eq_1 ?_ | with_reducible refine head_of t_law_2.eq_1 ?_ | with_reducible refine head_of t_law_1.eq_1 ?_))
  refine ⟨by simp, fun rd hrd => ?_⟩
  have x13 : Ext H12 (updH H12 rd (.list [V.int (1 + z)])) := Ext.upd hrd
  have hrd' : updH H12 rd (.list [V.int (1 + z)]) rd = some (.list (iv [1 + z])) := updH_same ..
  generalize updH H12 rd (.list [V.int (1 + z)]) = H13 at x13 hrd' ⊢
  replace hra2 := x13 _ _ (x12 _ _ nrap hra2)
  replace hrb2 := x13 _ _ (x12 _ _ nrbp hrb2)
  replace hp6 := hp12.ext x13
  clear x13 x12 hp12 hrd
  generalize hsm : 1 + z = sm at hrd' ⊢
  have hsm0 : 0 < sm := by (clear hw hw9 hD0 hD1 hq0 hq1 hr0 hr1 hwh ho0 ho1 hQ hB hB9 hBpos hqD hDD hDB hw0 hw1 hdiv hmod hne hxl hyl nrap nrbp ho2 ho3 ho4 ho5 hz1; lia)
  have hsm1 : sm < 2 ^ w := by (clear hw hw9 hD0 hD1 hq0 hq1 hr0 hr1 hwh ho0 ho1 hQ hB hB9 hBpos hqD hDD hDB hw0 hw1 hdiv hmod hne hxl hyl nrap nrbp ho2 ho3 ho4 ho5 hz0 hsm0; lia)
  refine ⟨ra, rd, xs, sm, w, rfl, hra2, hrd', by (clear hw hw9 hD0 hD1 hq0 hq1 hr0 hr1 hwh ho0 ho1 hQ hB hB9 hBpos hqD hDD hDB hw0 hw1 hdiv hmod hne hyl nrap nrbp ho2 ho3 ho4 ho5 hz0 hz1 hsm hsm0 hsm1; lia), by (with_reducible exact cge2 (by assumption)), hw9, hxs.dig, hsm0, hsm1, fun t r1 r2 H14 qs rs x14 ht h1 h2 hqs hrs => ?_⟩
  (repeat (first | dsimp only [sCons, sNil, sAssign, sAssign2, sIf, sRet, eCall, aNil, aCons, cInt, cBool, cBin, eCmp, eAnd, eList, eTup, eIdx, tCmp, tNot, tOr, tOrNil, tVal, oAdd_i, oSub_i, oMul_i, oFdiv_i, oMod_i, oPow_i, kEq_i, kNe_i, oAdd_r, oMul_r, vBool_b, vInt_i, vRef_r, LoopQ_next, LoopQ_ret, retQ_next, retQ_ret, cv0_1, cv0_2, cv0_3, cv0_4, cv0_5, cv0_6, cv0_7, cv0_8, cv0_9, cv0_10, cvl0, cv1, cv1_2, cv1_3, cv1_4, cv1_5, cv1_6, cv1_7, cv1_8, cv1_9, cv1_10, cvl1, cv2, cv2_1, cv2_3, cv2_4, cv2_5, cv2_6, cv2_7, cv2_8, cv2_9, cv2_10, cvl2, cv3, cv3_1, cv3_2, cv3_4, cv3_5, cv3_6, cv3_7, cv3_8, cv3_9, cv3_10, cvl3, cv4, cv4_1, cv4_2, cv4_3, cv4_5, cv4_6, cv4_7, cv4_8, cv4_9, cv4_10, cvl4, cv5, cv5_1, cv5_2, cv5_3, cv5_4, cv5_6, cv5_7, cv5_8, cv5_9, cv5_10, cv6, cv6_1, cv6_2, cv6_3, cv6_4, cv6_5, cv6_7, cv6_8, cv6_9, cv6_10, cv7, cv7_1, cv7_2, cv7_3, cv7_4, cv7_5, cv7_6, cv7_8, cv7_9, cv7_10, cv8, cv8_1, cv8_2, cv8_3, cv8_4, cv8_5, cv8_6, cv8_7, cv8_9, cv8_10, cv9, cv9_1, cv9_2, cv9_3, cv9_4, cv9_5, cv9_6, cv9_7, cv9_8, cv9_10, cv10, cv10_1, cv10_2, cv10_3, cv10_4, cv10_5, cv10_6, cv10_7, cv10_8, cv10_9] | simp only [reduceIte, if_true, if_false, Bool.false_eq_true, reduceCtorEq, cVar_at m1, cVar_at m2, cVar_at m3, cVar_at m4, cVar_at m5, cVar_at m6, cVar_at m7] | with_reducible refine head_of t_law_12.eq_1 ?_ | with_reducible refine head_of t_law_11.eq_1 ?_ | with_reducible refine head_of t_law_10.eq_1 ?_ | with_reducible refine head_of t_law_9.eq_1 ?_ | with_reducible refine head_of t_law_8.eq_1 ?_ | with_reducible refine head_of t_law_7.eq_1 ?_ | with_reducible refine head_of t_law_6.eq_1 ?_ | with_reducible refine head_of t_law_5.eq_1 ?_ | with_reducible refine head_of t_law_4.eq_1 ?_ | with_reducible refine head_of t_law_3.eq_1 ?_ | with_reducible refine head_of t_law_2.eq_1 ?_ | with_reducible refine head_of t_law_1.eq_1 ?_))
  have hs2 : 0 ≤ whole / sm := Int.ediv_nonneg hw0 (by (with_reducible exact Int.le_of_lt (by assumption)))
  have hs3 : whole / sm ≤ whole := Int.ediv_le_self _ hw0
  have hs4 : 0 ≤ whole % sm := Int.emod_nonneg _ (by (with_reducible exact cpz (by assumption)))
  have hs5 : whole % sm < sm := Int.emod_lt_of_pos _ hsm0
  rw [fdiv_pos (by (with_reducible exact Int.le_of_lt (by assumption))), fmod_pos (by (with_reducible exact Int.le_of_lt (by assumption)))]
  refine ⟨by (with_reducible exact cpz (by assumption)), Small.le (by (with_reducible exact cm62' (by assumption))) (by (with_reducible exact c62 (by assumption) (by assumption))), use_row hs2 (small_pow (by (with_reducible exact cpos1)) hB9 hs2 (Int.lt_of_le_of_lt hs3 hw1) (by decide)) (by (with_reducible exact cge2 (by assumption))) hw9 fun r3 H9 qs' x9 _ h3 hqs' => ⟨by (with_reducible exact cpz (by assumption)), use_row hs4 (Small.le (by (with_reducible exact cm62 (by assumption))) (by (clear hw hw9 hD0 hD1 hq0 hq1 hr0 hr1 hwh ho0 ho1 hQ hB hBpos hqD hDD hDB hw0 hw1 hdiv hmod hne hxl hyl nrap nrbp ho2 ho3 ho4 ho5 hz0 hsm0 hsm1 hs2 hs3 hs4; lia))) (by (with_reducible exact cge2 (by assumption))) hw9 fun r4 H10 rs' x10 _ h4 hrs' => ⟨by simp, fun t' ht' => ?_⟩⟩⟩
  have x11 : Ext H10 (updH H10 t' (.tup [.ref r3, .ref r4])) := Ext.upd ht'
  rw [hxs.eq] at hqs hrs
  have e1 := hqs.unique hBpos hqs'
  have e2 := hrs.unique hBpos hrs'
  subst e1 e2
  refine ⟨r1, r2, r3, r4, qs, rs, qs, rs, x11 _ _ (x10 _ _ (x9 _ _ ht)), updH_same .., x11 _ _ (x10 _ _ (x9 _ _ h1)), x11 _ _ (x10 _ _ (x9 _ _ h2)), x11 _ _ (x10 _ _ h3), x11 _ _ h4, ?_⟩
  have xx : Ext H13 (updH H10 t' (.tup [.ref r3, .ref r4])) := ((x14.trans x9).trans x10).trans x11
  generalize updH H10 t' (.tup [.ref r3, .ref r4]) = H15 at xx ⊢
  rw [show (!decide (qs = qs ∧ rs = rs)) = false by simp]
  (repeat (first | dsimp only [sCons, sNil, sAssign, sAssign2, sIf, sRet, eCall, aNil, aCons, cInt, cBool, cBin, eCmp, eAnd, eList, eTup, eIdx, tCmp, tNot, tOr, tOrNil, tVal, oAdd_i, oSub_i, oMul_i, oFdiv_i, oMod_i, oPow_i, kEq_i, kNe_i, oAdd_r, oMul_r, vBool_b, vInt_i, vRef_r, LoopQ_next, LoopQ_ret, retQ_next, retQ_ret, cv0_1, cv0_2, cv0_3, cv0_4, cv0_5, cv0_6, cv0_7, cv0_8, cv0_9, cv0_10, cvl0, cv1, cv1_2, cv1_3, cv1_4, cv1_5, cv1_6, cv1_7, cv1_8, cv1_9, cv1_10, cvl1, cv2, cv2_1, cv2_3, cv2_4, cv2_5, cv2_6, cv2_7, cv2_8, cv2_9, cv2_10, cvl2, cv3, cv3_1, cv3_2, cv3_4, cv3_5, cv3_6, cv3_7, cv3_8, cv3_9, cv3_10, cvl3, cv4, cv4_1, cv4_2, cv4_3, cv4_5, cv4_6, cv4_7, cv4_8, cv4_9, cv4_10, cvl4, cv5, cv5_1, cv5_2, cv5_3, cv5_4, cv5_6, cv5_7, cv5_8, cv5_9, cv5_10, cv6, cv6_1, cv6_2, cv6_3, cv6_4, cv6_5, cv6_7, cv6_8, cv6_9, cv6_10, cv7, cv7_1, cv7_2, cv7_3, cv7_4, cv7_5, cv7_6, cv7_8, cv7_9, cv7_10, cv8, cv8_1, cv8_2, cv8_3, cv8_4, cv8_5, cv8_6, cv8_7, cv8_9, cv8_10, cv9, cv9_1, cv9_2, cv9_3, cv9_4, cv9_5, cv9_6, cv9_7, cv9_8, cv9_10, cv10, cv10_1, cv10_2, cv10_3, cv10_4, cv10_5, cv10_6, cv10_7, cv10_8, cv10_9] | simp only [reduceIte, if_true, if_false, Bool.false_eq_true, reduceCtorEq, cVar_at m1, cVar_at m2, cVar_at m3, cVar_at m4, cVar_at m5, cVar_at m6, cVar_at m7] | with_reducible refine head_of t_law_12.eq_1 ?_ | with_reducible refine head_of t_law_11.eq_1 ?_ | with_reducible refine head_of t_law_10.eq_1 ?_ | with_reducible refine head_of t_law_9.eq_1 ?_ | with_reducible refine head_of t_law_8.eq_1 ?_ | with_reducible refine head_of t_law_7.eq_1 ?_ | with_reducible refine head_of t_law_6.eq_1 ?_ | with_reducible refine head_of t_law_5.eq_1 ?_ | with_reducible refine head_of t_law_4.eq_1 ?_ | with_reducible refine head_of t_law_3.eq_1 ?_ | with_reducible refine head_of t_law_2.eq_1 ?_ | with_reducible refine head_of t_law_1.eq_1 ?_))
  replace hra2 := xx _ _ hra2
  replace hrb2 := xx _ _ hrb2
  replace hp6 := hp6.ext xx
  clear ht h1 h2 h3 h4 ht' x9 x10 x11 hqs hrs hqs' hrs' xx x14
  -- the guesses
  refine ⟨p, w, rfl, hp6, hw, hw9, fun H16 x16 hp16 => ?_⟩
  (repeat (first | dsimp only [sCons, sNil, sAssign, sAssign2, sIf, sRet, eCall, aNil, aCons, cInt, cBool, cBin, eCmp, eAnd, eList, eTup, eIdx, tCmp, tNot, tOr, tOrNil, tVal, oAdd_i, oSub_i, oMul_i, oFdiv_i, oMod_i, oPow_i, kEq_i, kNe_i, oAdd_r, oMul_r, vBool_b, vInt_i, vRef_r, LoopQ_next, LoopQ_ret, retQ_next, retQ_ret, cv0_1, cv0_2, cv0_3, cv0_4, cv0_5, cv0_6, cv0_7, cv0_8, cv0_9, cv0_10, cvl0, cv1, cv1_2, cv1_3, cv1_4, cv1_5, cv1_6, cv1_7, cv1_8, cv1_9, cv1_10, cvl1, cv2, cv2_1, cv2_3, cv2_4, cv2_5, cv2_6, cv2_7, cv2_8, cv2_9, cv2_10, cvl2, cv3, cv3_1, cv3_2, cv3_4, cv3_5, cv3_6, cv3_7, cv3_8, cv3_9, cv3_10, cvl3, cv4, cv4_1, cv4_2, cv4_3, cv4_5, cv4_6, cv4_7, cv4_8, cv4_9, cv4_10, cvl4, cv5, cv5_1, cv5_2, cv5_3, cv5_4, cv5_6, cv5_7, cv5_8, cv5_9, cv5_10, cv6, cv6_1, cv6_2, cv6_3, cv6_4, cv6_5, cv6_7, cv6_8, cv6_9, cv6_10, cv7, cv7_1, cv7_2, cv7_3, cv7_4, cv7_5, cv7_6, cv7_8, cv7_9, cv7_10, cv8, cv8_1, cv8_2, cv8_3, cv8_4, cv8_5, cv8_6, cv8_7, cv8_9, cv8_10, cv9, cv9_1, cv9_2, cv9_3, cv9_4, cv9_5, cv9_6, cv9_7, cv9_8, cv9_10, cv10, cv10_1, cv10_2, cv10_3, cv10_4, cv10_5, cv10_6, cv10_7, cv10_8, cv10_9] | simp only [reduceIte, if_true, if_false, Bool.false_eq_true, reduceCtorEq, Bool.not_true, cVar_at m1, cVar_at m2, cVar_at m3, cVar_at m4, cVar_at m5, cVar_at m6, cVar_at m7] | with_reducible refine head_of t_law_12.eq_1 ?_ | with_reducible refine head_of t_law_11.eq_1 ?_ | with_reducible refine head_of t_law_10.eq_1 ?_ | with_reducible refine head_of t_law_9.eq_1 ?_ | with_reducible refine head_of t_law_8.eq_1 ?_ | with_reducible refine head_of t_law_7.eq_1 ?_ | with_reducible refine head_of t_law_6.eq_1 ?_ | with_reducible refine head_of t_law_5.eq_1 ?_ | with_reducible refine head_of t_law_4.eq_1 ?_ | with_reducible refine head_of t_law_3.eq_1 ?_ | with_reducible refine head_of t_law_2.eq_1 ?_ | with_reducible refine head_of t_law_1.eq_1 ?_))
  refine ⟨p, w, rfl, hp16, hw, hw9, fun H17 x17 hp17 => ?_⟩
  (repeat (first | dsimp only [sCons, sNil, sAssign, sAssign2, sIf, sRet, eCall, aNil, aCons, cInt, cBool, cBin, eCmp, eAnd, eList, eTup, eIdx, tCmp, tNot, tOr, tOrNil, tVal, oAdd_i, oSub_i, oMul_i, oFdiv_i, oMod_i, oPow_i, kEq_i, kNe_i, oAdd_r, oMul_r, vBool_b, vInt_i, vRef_r, LoopQ_next, LoopQ_ret, retQ_next, retQ_ret, cv0_1, cv0_2, cv0_3, cv0_4, cv0_5, cv0_6, cv0_7, cv0_8, cv0_9, cv0_10, cvl0, cv1, cv1_2, cv1_3, cv1_4, cv1_5, cv1_6, cv1_7, cv1_8, cv1_9, cv1_10, cvl1, cv2, cv2_1, cv2_3, cv2_4, cv2_5, cv2_6, cv2_7, cv2_8, cv2_9, cv2_10, cvl2, cv3, cv3_1, cv3_2, cv3_4, cv3_5, cv3_6, cv3_7, cv3_8, cv3_9, cv3_10, cvl3, cv4, cv4_1, cv4_2, cv4_3, cv4_5, cv4_6, cv4_7, cv4_8, cv4_9, cv4_10, cvl4, cv5, cv5_1, cv5_2, cv5_3, cv5_4, cv5_6, cv5_7, cv5_8, cv5_9, cv5_10, cv6, cv6_1, cv6_2, cv6_3, cv6_4, cv6_5, cv6_7, cv6_8, cv6_9, cv6_10, cv7, cv7_1, cv7_2, cv7_3, cv7_4, cv7_5, cv7_6, cv7_8, cv7_9, cv7_10, cv8, cv8_1, cv8_2, cv8_3, cv8_4, cv8_5, cv8_6, cv8_7, cv8_9, cv8_10, cv9, cv9_1, cv9_2, cv9_3, cv9_4, cv9_5, cv9_6, cv9_7, cv9_8, cv9_10, cv10, cv10_1, cv10_2, cv10_3, cv10_4, cv10_5, cv10_6, cv10_7, cv10_8, cv10_9] | simp only [reduceIte, if_true, if_false, Bool.false_eq_true, reduceCtorEq, Bool.not_true, cVar_at m1, cVar_at m2, cVar_at m3, cVar_at m4, cVar_at m5, cVar_at m6, cVar_at m7] | with_reducible refine head_of t_law_12.eq_1 ?_ | with_reducible refine head_of t_law_11.eq_1 ?_ | with_reducible refine head_of t_law_10.eq_1 ?_ | with_reducible refine head_of t_law_9.eq_1 ?_ | with_reducible refine head_of t_law_8.eq_1 ?_ | with_reducible refine head_of t_law_7.eq_1 ?_ | with_reducible refine head_of t_law_6.eq_1 ?_ | with_reducible refine head_of t_law_5.eq_1 ?_ | with_reducible refine head_of t_law_4.eq_1 ?_ | with_reducible refine head_of t_law_3.eq_1 ?_ | with_reducible refine head_of t_law_2.eq_1 ?_ | with_reducible refine head_of t_law_1.eq_1 ?_))
  replace hra2 := x17 _ _ nrap (x16 _ _ nrap hra2)
  replace hrb2 := x17 _ _ nrbp (x16 _ _ nrbp hrb2)
  refine ⟨ra, xs, w, rfl, hra2, by (clear hw hw9 hD0 hD1 hq0 hq1 hr0 hr1 hwh ho0 ho1 hQ hB hB9 hBpos hqD hDD hDB hw0 hw1 hdiv hmod hne hyl nrap nrbp ho2 ho3 ho4 ho5 hz0 hz1 hsm hsm0 hsm1 hs2 hs3 hs4 hs5; omega), by (with_reducible exact cge2 (by assumption)), hw9, fun H18 x18 => ?_⟩
  (repeat (first | dsimp only [sCons, sNil, sAssign, sAssign2, sIf, sRet, eCall, aNil, aCons, cInt, cBool, cBin, eCmp, eAnd, eList, eTup, eIdx, tCmp, tNot, tOr, tOrNil, tVal, oAdd_i, oSub_i, oMul_i, oFdiv_i, oMod_i, oPow_i, kEq_i, kNe_i, oAdd_r, oMul_r, vBool_b, vInt_i, vRef_r, LoopQ_next, LoopQ_ret, retQ_next, retQ_ret, cv0_1, cv0_2, cv0_3, cv0_4, cv0_5, cv0_6, cv0_7, cv0_8, cv0_9, cv0_10, cvl0, cv1, cv1_2, cv1_3, cv1_4, cv1_5, cv1_6, cv1_7, cv1_8, cv1_9, cv1_10, cvl1, cv2, cv2_1, cv2_3, cv2_4, cv2_5, cv2_6, cv2_7, cv2_8, cv2_9, cv2_10, cvl2, cv3, cv3_1, cv3_2, cv3_4, cv3_5, cv3_6, cv3_7, cv3_8, cv3_9, cv3_10, cvl3, cv4, cv4_1, cv4_2, cv4_3, cv4_5, cv4_6, cv4_7, cv4_8, cv4_9, cv4_10, cvl4, cv5, cv5_1, cv5_2, cv5_3, cv5_4, cv5_6, cv5_7, cv5_8, cv5_9, cv5_10, cv6, cv6_1, cv6_2, cv6_3, cv6_4, cv6_5, cv6_7, cv6_8, cv6_9, cv6_10, cv7, cv7_1, cv7_2, cv7_3, cv7_4, cv7_5, cv7_6, cv7_8, cv7_9, cv7_10, cv8, cv8_1, cv8_2, cv8_3, cv8_4, cv8_5, cv8_6, cv8_7, cv8_9, cv8_10, cv9, cv9_1, cv9_2, cv9_3, cv9_4, cv9_5, cv9_6, cv9_7, cv9_8, cv9_10, cv10, cv10_1, cv10_2, cv10_3, cv10_4, cv10_5, cv10_6, cv10_7, cv10_8, cv10_9] | simp only [reduceIte, if_true, if_false, Bool.false_eq_true, reduceCtorEq, Bool.not_true, cVar_at m1, cVar_at m2, cVar_at m3, cVar_at m4, cVar_at m5, cVar_at m6, cVar_at m7] | with_reducible refine head_of t_law_12.eq_1 ?_ | with_reducible refine head_of t_law_11.eq_1 ?_ | with_reducible refine head_of t_law_10.eq_1 ?_ | with_reducible refine head_of t_law_9.eq_1 ?_ | with_reducible refine head_of t_law_8.eq_1 ?_ | with_reducible refine head_of t_law_7.eq_1 ?_ | with_reducible refine head_of t_law_6.eq_1 ?_ | with_reducible refine head_of t_law_5.eq_1 ?_ | with_reducible refine head_of t_law_4.eq_1 ?_ | with_reducible refine head_of t_law_3.eq_1 ?_ | with_reducible refine head_of t_law_2.eq_1 ?_ | with_reducible refine head_of t_law_1.eq_1 ?_))
  replace hra2 := x18 _ _ hra2
  replace hrb2 := x18 _ _ hrb2
  refine use_row hw0 sw (by (with_reducible exact cge2 (by assumption))) hw9 fun r3 H19 xs' x19 _ h3 hxs' => ?_
  have e1 := hxs.unique hBpos hxs'
  subst e1
  refine ⟨xs, xs, x19 _ _ hra2, h3, ?_⟩
  (repeat (first | dsimp only [sCons, sNil, sAssign, sAssign2, sIf, sRet, eCall, aNil, aCons, cInt, cBool, cBin, eCmp, eAnd, eList, eTup, eIdx, tCmp, tNot, tOr, tOrNil, tVal, oAdd_i, oSub_i, oMul_i, oFdiv_i, oMod_i, oPow_i, kEq_i, kNe_i, oAdd_r, oMul_r, vBool_b, vInt_i, vRef_r, LoopQ_next, LoopQ_ret, retQ_next, retQ_ret, cv0_1, cv0_2, cv0_3, cv0_4, cv0_5, cv0_6, cv0_7, cv0_8, cv0_9, cv0_10, cvl0, cv1, cv1_2, cv1_3, cv1_4, cv1_5, cv1_6, cv1_7, cv1_8, cv1_9, cv1_10, cvl1, cv2, cv2_1, cv2_3, cv2_4, cv2_5, cv2_6, cv2_7, cv2_8, cv2_9, cv2_10, cvl2, cv3, cv3_1, cv3_2, cv3_4, cv3_5, cv3_6, cv3_7, cv3_8, cv3_9, cv3_10, cvl3, cv4, cv4_1, cv4_2, cv4_3, cv4_5, cv4_6, cv4_7, cv4_8, cv4_9, cv4_10, cvl4, cv5, cv5_1, cv5_2, cv5_3, cv5_4, cv5_6, cv5_7, cv5_8, cv5_9, cv5_10, cv6, cv6_1, cv6_2, cv6_3, cv6_4, cv6_5, cv6_7, cv6_8, cv6_9, cv6_10, cv7, cv7_1, cv7_2, cv7_3, cv7_4, cv7_5, cv7_6, cv7_8, cv7_9, cv7_10, cv8, cv8_1, cv8_2, cv8_3, cv8_4, cv8_5, cv8_6, cv8_7, cv8_9, cv8_10, cv9, cv9_1, cv9_2, cv9_3, cv9_4, cv9_5, cv9_6, cv9_7, cv9_8, cv9_10, cv10, cv10_1, cv10_2, cv10_3, cv10_4, cv10_5, cv10_6, cv10_7, cv10_8, cv10_9] | simp only [reduceIte, if_true, if_false, Bool.false_eq_true, reduceCtorEq, decide_true, cVar_at m1, cVar_at m2, cVar_at m3, cVar_at m4, cVar_at m5, cVar_at m6, cVar_at m7] | with_reducible refine head_of t_law_12.eq_1 ?_ | with_reducible refine head_of t_law_11.eq_1 ?_ | with_reducible refine head_of t_law_10.eq_1 ?_ | with_reducible refine head_of t_law_9.eq_1 ?_ | with_reducible refine head_of t_law_8.eq_1 ?_ | with_reducible refine head_of t_law_7.eq_1 ?_ | with_reducible refine head_of t_law_6.eq_1 ?_ | with_reducible refine head_of t_law_5.eq_1 ?_ | with_reducible refine head_of t_law_4.eq_1 ?_ | with_reducible refine head_of t_law_3.eq_1 ?_ | with_reducible refine head_of t_law_2.eq_1 ?_ | with_reducible refine head_of t_law_1.eq_1 ?_))
  refine use_row (by (with_reducible exact Int.le_of_lt (by assumption))) sD (by (with_reducible exact cge2 (by assumption))) hw9 fun r4 H20 ys' x20 _ h4 hys' => ?_
  have e2 := hys.unique hBpos hys'
  subst e2
  refine ⟨ys, ys, x20 _ _ (x19 _ _ hrb2), h4, ?_⟩
  (repeat (first | dsimp only [sCons, sNil, sAssign, sAssign2, sIf, sRet, eCall, aNil, aCons, cInt, cBool, cBin, eCmp, eAnd, eList, eTup, eIdx, tCmp, tNot, tOr, tOrNil, tVal, oAdd_i, oSub_i, oMul_i, oFdiv_i, oMod_i, oPow_i, kEq_i, kNe_i, oAdd_r, oMul_r, vBool_b, vInt_i, vRef_r, LoopQ_next, LoopQ_ret, retQ_next, retQ_ret, cv0_1, cv0_2, cv0_3, cv0_4, cv0_5, cv0_6, cv0_7, cv0_8, cv0_9, cv0_10, cvl0, cv1, cv1_2, cv1_3, cv1_4, cv1_5, cv1_6, cv1_7, cv1_8, cv1_9, cv1_10, cvl1, cv2, cv2_1, cv2_3, cv2_4, cv2_5, cv2_6, cv2_7, cv2_8, cv2_9, cv2_10, cvl2, cv3, cv3_1, cv3_2, cv3_4, cv3_5, cv3_6, cv3_7, cv3_8, cv3_9, cv3_10, cvl3, cv4, cv4_1, cv4_2, cv4_3, cv4_5, cv4_6, cv4_7, cv4_8, cv4_9, cv4_10, cvl4, cv5, cv5_1, cv5_2, cv5_3, cv5_4, cv5_6, cv5_7, cv5_8, cv5_9, cv5_10, cv6, cv6_1, cv6_2, cv6_3, cv6_4, cv6_5, cv6_7, cv6_8, cv6_9, cv6_10, cv7, cv7_1, cv7_2, cv7_3, cv7_4, cv7_5, cv7_6, cv7_8, cv7_9, cv7_10, cv8, cv8_1, cv8_2, cv8_3, cv8_4, cv8_5, cv8_6, cv8_7, cv8_9, cv8_10, cv9, cv9_1, cv9_2, cv9_3, cv9_4, cv9_5, cv9_6, cv9_7, cv9_8, cv9_10, cv10, cv10_1, cv10_2, cv10_3, cv10_4, cv10_5, cv10_6, cv10_7, cv10_8, cv10_9] | simp only [reduceIte, if_true, if_false, Bool.false_eq_true, reduceCtorEq, decide_true, cVar_at m1, cVar_at m2, cVar_at m3, cVar_at m4, cVar_at m5, cVar_at m6, cVar_at m7] | with_reducible refine head_of t_law_12.eq_1 ?_ | with_reducible refine head_of t_law_11.eq_1 ?_ | with_reducible refine head_of t_law_10.eq_1 ?_ | with_reducible refine head_of t_law_9.eq_1 ?_ | with_reducible refine head_of t_law_8.eq_1 ?_ | with_reducible refine head_of t_law_7.eq_1 ?_ | with_reducible refine head_of t_law_6.eq_1 ?_ | with_reducible refine head_of t_law_5.eq_1 ?_ | with_reducible refine head_of t_law_4.eq_1 ?_ | with_reducible refine head_of t_law_3.eq_1 ?_ | with_reducible refine head_of t_law_2.eq_1 ?_ | with_reducible refine head_of t_law_1.eq_1 ?_))
  exact hQ _

theorem pu_law (args : List V) (H : Hp) (Q : V → Hp → Prop) (h : P_law args H Q) : args.length = 1 ∧ ps_law (fun i => args[i]?) H (retQ Q) := by
  obtain ⟨s, ns, rfl, hs, hl, hQ⟩ := h
  refine ⟨rfl, ?_⟩
  (repeat (first | dsimp only [sCons, sNil, sAssign, sAssign2, sIf, sRet, eCall, aNil, aCons, cInt, cBool, cBin, eCmp, eAnd, eList, eTup, eIdx, tCmp, tNot, tOr, tOrNil, tVal, oAdd_i, oSub_i, oMul_i, oFdiv_i, oMod_i, oPow_i, kEq_i, kNe_i, oAdd_r, oMul_r, vBool_b, vInt_i, vRef_r, LoopQ_next, LoopQ_ret, retQ_next, retQ_ret, cv0_1, cv0_2, cv0_3, cv0_4, cv0_5, cv0_6, cv0_7, cv0_8, cv0_9, cv0_10, cvl0, cv1, cv1_2, cv1_3, cv1_4, cv1_5, cv1_6, cv1_7, cv1_8, cv1_9, cv1_10, cvl1, cv2, cv2_1, cv2_3, cv2_4, cv2_5, cv2_6, cv2_7, cv2_8, cv2_9, cv2_10, cvl2, cv3, cv3_1, cv3_2, cv3_4, cv3_5, cv3_6, cv3_7, cv3_8, cv3_9, cv3_10, cvl3, cv4, cv4_1, cv4_2, cv4_3, cv4_5, cv4_6, cv4_7, cv4_8, cv4_9, cv4_10, cvl4, cv5, cv5_1, cv5_2, cv5_3, cv5_4, cv5_6, cv5_7, cv5_8, cv5_9, cv5_10, cv6, cv6_1, cv6_2, cv6_3, cv6_4, cv6_5, cv6_7, cv6_8, cv6_9, cv6_10, cv7, cv7_1, cv7_2, cv7_3, cv7_4, cv7_5, cv7_6, cv7_8, cv7_9, cv7_10, cv8, cv8_1, cv8_2, cv8_3, cv8_4, cv8_5, cv8_6, cv8_7, cv8_9, cv8_10, cv9, cv9_1, cv9_2, cv9_3, cv9_4, cv9_5, cv9_6, cv9_7, cv9_8, cv9_10, cv10, cv10_1, cv10_2, cv10_3, cv10_4, cv10_5, cv10_6, cv10_7, cv10_8, cv10_9, ps_law] | simp only [reduceIte, if_true, if_false, Bool.false_eq_true, reduceCtorEq] | with_reducible refine head_of t_law_12.eq_1 ?_ | with_reducible refine head_of t_law_11.eq_1 ?_ | with_reducible refine head_of t_law_10.eq_1 ?_ | with_reducible refine head_of t_law_9.eq_1 ?_ | with_reducible refine head_of t_law_8.eq_1 ?_ | with_reducible refine head_of t_law_7.eq_1 ?_ | with_reducible refine head_of t_law_6.eq_1 ?_ | with_reducible refine head_of t_law_5.eq_1 ?_ | with_reducible refine head_of t_law_3.eq_1 ?_ | with_reducible refine head_of t_law_2.eq_1 ?_ | with_reducible refine head_of t_law_1.eq_1 ?_))
  refine ⟨_, hs, by rw [iv_length]; lia, fun r hr => ?_⟩
  (repeat (first | dsimp only [sCons, sNil, sAssign, sAssign2, sIf, sRet, eCall, aNil, aCons, cInt, cBool, cBin, eCmp, eAnd, eList, eTup, eIdx, tCmp, tNot, tOr, tOrNil, tVal, oAdd_i, oSub_i, oMul_i, oFdiv_i, oMod_i, oPow_i, kEq_i, kNe_i, oAdd_r, oMul_r, vBool_b, vInt_i, vRef_r, LoopQ_next, LoopQ_ret, retQ_next, retQ_ret, cv0_1, cv0_2, cv0_3, cv0_4, cv0_5, cv0_6, cv0_7, cv0_8, cv0_9, cv0_10, cvl0, cv1, cv1_2, cv1_3, cv1_4, cv1_5, cv1_6, cv1_7, cv1_8, cv1_9, cv1_10, cvl1, cv2, cv2_1, cv2_3, cv2_4, cv2_5, cv2_6, cv2_7, cv2_8, cv2_9, cv2_10, cvl2, cv3, cv3_1, cv3_2, cv3_4, cv3_5, cv3_6, cv3_7, cv3_8, cv3_9, cv3_10, cvl3, cv4, cv4_1, cv4_2, cv4_3, cv4_5, cv4_6, cv4_7, cv4_8, cv4_9, cv4_10, cvl4, cv5, cv5_1, cv5_2, cv5_3, cv5_4, cv5_6, cv5_7, cv5_8, cv5_9, cv5_10, cv6, cv6_1, cv6_2, cv6_3, cv6_4, cv6_5, cv6_7, cv6_8, cv6_9, cv6_10, cv7, cv7_1, cv7_2, cv7_3, cv7_4, cv7_5, cv7_6, cv7_8, cv7_9, cv7_10, cv8, cv8_1, cv8_2, cv8_3, cv8_4, cv8_5, cv8_6, cv8_7, cv8_9, cv8_10, cv9, cv9_1, cv9_2, cv9_3, cv9_4, cv9_5, cv9_6, cv9_7, cv9_8, cv9_10, cv10, cv10_1, cv10_2, cv10_3, cv10_4, cv10_5, cv10_6, cv10_7, cv10_8, cv10_9] | simp only [reduceIte, if_true, if_false, Bool.false_eq_true, reduceCtorEq] | with_reducible refine head_of t_law_12.eq_1 ?_ | with_reducible refine head_of t_law_11.eq_1 ?_ | with_reducible refine head_of t_law_10.eq_1 ?_ | with_reducible refine head_of t_law_9.eq_1 ?_ | with_reducible refine head_of t_law_8.eq_1 ?_ | with_reducible refine head_of t_law_7.eq_1 ?_ | with_reducible refine head_of t_law_6.eq_1 ?_ | with_reducible refine head_of t_law_5.eq_1 ?_ | with_reducible refine head_of t_law_3.eq_1 ?_ | with_reducible refine head_of t_law_2.eq_1 ?_ | with_reducible refine head_of t_law_1.eq_1 ?_))
  refine ⟨r, ns, rfl, updH_same .., hl, fun p H1 x1 hp0 hp1 => ?_⟩
  (repeat (first | dsimp only [sCons, sNil, sAssign, sAssign2, sIf, sRet, eCall, aNil, aCons, cInt, cBool, cBin, eCmp, eAnd, eList, eTup, eIdx, tCmp, tNot, tOr, tOrNil, tVal, oAdd_i, oSub_i, oMul_i, oFdiv_i, oMod_i, oPow_i, kEq_i, kNe_i, oAdd_r, oMul_r, vBool_b, vInt_i, vRef_r, LoopQ_next, LoopQ_ret, retQ_next, retQ_ret, cv0_1, cv0_2, cv0_3, cv0_4, cv0_5, cv0_6, cv0_7, cv0_8, cv0_9, cv0_10, cvl0, cv1, cv1_2, cv1_3, cv1_4, cv1_5, cv1_6, cv1_7, cv1_8, cv1_9, cv1_10, cvl1, cv2, cv2_1, cv2_3, cv2_4, cv2_5, cv2_6, cv2_7, cv2_8, cv2_9, cv2_10, cvl2, cv3, cv3_1, cv3_2, cv3_4, cv3_5, cv3_6, cv3_7, cv3_8, cv3_9, cv3_10, cvl3, cv4, cv4_1, cv4_2, cv4_3, cv4_5, cv4_6, cv4_7, cv4_8, cv4_9, cv4_10, cvl4, cv5, cv5_1, cv5_2, cv5_3, cv5_4, cv5_6, cv5_7, cv5_8, cv5_9, cv5_10, cv6, cv6_1, cv6_2, cv6_3, cv6_4, cv6_5, cv6_7, cv6_8, cv6_9, cv6_10, cv7, cv7_1, cv7_2, cv7_3, cv7_4, cv7_5, cv7_6, cv7_8, cv7_9, cv7_10, cv8, cv8_1, cv8_2, cv8_3, cv8_4, cv8_5, cv8_6, cv8_7, cv8_9, cv8_10, cv9, cv9_1, cv9_2, cv9_3, cv9_4, cv9_5, cv9_6, cv9_7, cv9_8, cv9_10, cv10, cv10_1, cv10_2, cv10_3, cv10_4, cv10_5, cv10_6, cv10_7, cv10_8, cv10_9] | simp only [reduceIte, if_true, if_false, Bool.false_eq_true, reduceCtorEq] | with_reducible refine head_of t_law_12.eq_1 ?_ | with_reducible refine head_of t_law_11.eq_1 ?_ | with_reducible refine head_of t_law_10.eq_1 ?_ | with_reducible refine head_of t_law_9.eq_1 ?_ | with_reducible refine head_of t_law_8.eq_1 ?_ | with_reducible refine head_of t_law_7.eq_1 ?_ | with_reducible refine head_of t_law_6.eq_1 ?_ | with_reducible refine head_of t_law_5.eq_1 ?_ | with_reducible refine head_of t_law_3.eq_1 ?_ | with_reducible refine head_of t_law_2.eq_1 ?_ | with_reducible refine head_of t_law_1.eq_1 ?_))
  refine ⟨p, _, rfl, hp1, by decide, fun z H2 hz0 hz1 x2 hp2 => ?_⟩
  (repeat (first | dsimp only [sCons, sNil, sAssign, sAssign2, sIf, sRet, eCall, aNil, aCons, cInt, cBool, cBin, eCmp, eAnd, eList, eTup, eIdx, tCmp, tNot, tOr, tOrNil, tVal, oAdd_i, oSub_i, oMul_i, oFdiv_i, oMod_i, oPow_i, kEq_i, kNe_i, oAdd_r, oMul_r, vBool_b, vInt_i, vRef_r, LoopQ_next, LoopQ_ret, retQ_next, retQ_ret, cv0_1, cv0_2, cv0_3, cv0_4, cv0_5, cv0_6, cv0_7, cv0_8, cv0_9, cv0_10, cvl0, cv1, cv1_2, cv1_3, cv1_4, cv1_5, cv1_6, cv1_7, cv1_8, cv1_9, cv1_10, cvl1, cv2, cv2_1, cv2_3, cv2_4, cv2_5, cv2_6, cv2_7, cv2_8, cv2_9, cv2_10, cvl2, cv3, cv3_1, cv3_2, cv3_4, cv3_5, cv3_6, cv3_7, cv3_8, cv3_9, cv3_10, cvl3, cv4, cv4_1, cv4_2, cv4_3, cv4_5, cv4_6, cv4_7, cv4_8, cv4_9, cv4_10, cvl4, cv5, cv5_1, cv5_2, cv5_3, cv5_4, cv5_6, cv5_7, cv5_8, cv5_9, cv5_10, cv6, cv6_1, cv6_2, cv6_3, cv6_4, cv6_5, cv6_7, cv6_8, cv6_9, cv6_10, cv7, cv7_1, cv7_2, cv7_3, cv7_4, cv7_5, cv7_6, cv7_8, cv7_9, cv7_10, cv8, cv8_1, cv8_2, cv8_3, cv8_4, cv8_5, cv8_6, cv8_7, cv8_9, cv8_10, cv9, cv9_1, cv9_2, cv9_3, cv9_4, cv9_5, cv9_6, cv9_7, cv9_8, cv9_10, cv10, cv10_1, cv10_2, cv10_3, cv10_4, cv10_5, cv10_6, cv10_7, cv10_8, cv10_9] | simp only [reduceIte, if_true, if_false, Bool.false_eq_true, reduceCtorEq] | with_reducible refine head_of t_law_12.eq_1 ?_ | with_reducible refine head_of t_law_11.eq_1 ?_ | with_reducible refine head_of t_law_10.eq_1 ?_ | with_reducible refine head_of t_law_9.eq_1 ?_ | with_reducible refine head_of t_law_8.eq_1 ?_ | with_reducible refine head_of t_law_7.eq_1 ?_ | with_reducible refine head_of t_law_6.eq_1 ?_ | with_reducible refine head_of t_law_5.eq_1 ?_ | with_reducible refine head_of t_law_3.eq_1 ?_ | with_reducible refine head_of t_law_2.eq_1 ?_ | with_reducible refine head_of t_law_1.eq_1 ?_))
  obtain ⟨w, hw⟩ := Int.eq_ofNat_of_zero_le (show 0 ≤ 2 + z by (clear hl hQ hz1; lia))
  rw [hw]
  have hw2 : 2 ≤ w := by (clear hl hQ hz1; lia)
  have hw9 : w ≤ 9 := by (clear hl hQ hz0 hw2; lia)
  have hB := two_le (show 1 ≤ w by (with_reducible exact cge2 (by assumption)))
  have hB9 := le_512 hw9
  have hBpos : (0 : Int) < 2 ^ w := by (with_reducible exact cpos)
  refine ⟨p, w, 5, rfl, hp2, by (with_reducible exact cge2 (by assumption)), hw9, by decide, fun D0 H3 hD0 hD1 x3 hp3 => ?_⟩
  (repeat (first | dsimp only [sCons, sNil, sAssign, sAssign2, sIf, sRet, eCall, aNil, aCons, cInt, cBool, cBin, eCmp, eAnd, eList, eTup, eIdx, tCmp, tNot, tOr, tOrNil, tVal, oAdd_i, oSub_i, oMul_i, oFdiv_i, oMod_i, oPow_i, kEq_i, kNe_i, oAdd_r, oMul_r, vBool_b, vInt_i, vRef_r, LoopQ_next, LoopQ_ret, retQ_next, retQ_ret, cv0_1, cv0_2, cv0_3, cv0_4, cv0_5, cv0_6, cv0_7, cv0_8, cv0_9, cv0_10, cvl0, cv1, cv1_2, cv1_3, cv1_4, cv1_5, cv1_6, cv1_7, cv1_8, cv1_9, cv1_10, cvl1, cv2, cv2_1, cv2_3, cv2_4, cv2_5, cv2_6, cv2_7, cv2_8, cv2_9, cv2_10, cvl2, cv3, cv3_1, cv3_2, cv3_4, cv3_5, cv3_6, cv3_7, cv3_8, cv3_9, cv3_10, cvl3, cv4, cv4_1, cv4_2, cv4_3, cv4_5, cv4_6, cv4_7, cv4_8, cv4_9, cv4_10, cvl4, cv5, cv5_1, cv5_2, cv5_3, cv5_4, cv5_6, cv5_7, cv5_8, cv5_9, cv5_10, cv6, cv6_1, cv6_2, cv6_3, cv6_4, cv6_5, cv6_7, cv6_8, cv6_9, cv6_10, cv7, cv7_1, cv7_2, cv7_3, cv7_4, cv7_5, cv7_6, cv7_8, cv7_9, cv7_10, cv8, cv8_1, cv8_2, cv8_3, cv8_4, cv8_5, cv8_6, cv8_7, cv8_9, cv8_10, cv9, cv9_1, cv9_2, cv9_3, cv9_4, cv9_5, cv9_6, cv9_7, cv9_8, cv9_10, cv10, cv10_1, cv10_2, cv10_3, cv10_4, cv10_5, cv10_6, cv10_7, cv10_8, cv10_9] | simp only [reduceIte, if_true, if_false, Bool.false_eq_true, reduceCtorEq] | with_reducible refine head_of t_law_12.eq_1 ?_ | with_reducible refine head_of t_law_11.eq_1 ?_ | with_reducible refine head_of t_law_10.eq_1 ?_ | with_reducible refine head_of t_law_9.eq_1 ?_ | with_reducible refine head_of t_law_8.eq_1 ?_ | with_reducible refine head_of t_law_7.eq_1 ?_ | with_reducible refine head_of t_law_6.eq_1 ?_ | with_reducible refine head_of t_law_5.eq_1 ?_ | with_reducible refine head_of t_law_3.eq_1 ?_ | with_reducible refine head_of t_law_2.eq_1 ?_ | with_reducible refine head_of t_law_1.eq_1 ?_))
  refine ⟨p, w, 5, rfl, hp3, by (with_reducible exact cge2 (by assumption)), hw9, by decide, fun q H4 hq0 hq1 x4 hp4 => ?_⟩
  (repeat (first | dsimp only [sCons, sNil, sAssign, sAssign2, sIf, sRet, eCall, aNil, aCons, cInt, cBool, cBin, eCmp, eAnd, eList, eTup, eIdx, tCmp, tNot, tOr, tOrNil, tVal, oAdd_i, oSub_i, oMul_i, oFdiv_i, oMod_i, oPow_i, kEq_i, kNe_i, oAdd_r, oMul_r, vBool_b, vInt_i, vRef_r, LoopQ_next, LoopQ_ret, retQ_next, retQ_ret, cv0_1, cv0_2, cv0_3, cv0_4, cv0_5, cv0_6, cv0_7, cv0_8, cv0_9, cv0_10, cvl0, cv1, cv1_2, cv1_3, cv1_4, cv1_5, cv1_6, cv1_7, cv1_8, cv1_9, cv1_10, cvl1, cv2, cv2_1, cv2_3, cv2_4, cv2_5, cv2_6, cv2_7, cv2_8, cv2_9, cv2_10, cvl2, cv3, cv3_1, cv3_2, cv3_4, cv3_5, cv3_6, cv3_7, cv3_8, cv3_9, cv3_10, cvl3, cv4, cv4_1, cv4_2, cv4_3, cv4_5, cv4_6, cv4_7, cv4_8, cv4_9, cv4_10, cvl4, cv5, cv5_1, cv5_2, cv5_3, cv5_4, cv5_6, cv5_7, cv5_8, cv5_9, cv5_10, cv6, cv6_1, cv6_2, cv6_3, cv6_4, cv6_5, cv6_7, cv6_8, cv6_9, cv6_10, cv7, cv7_1, cv7_2, cv7_3, cv7_4, cv7_5, cv7_6, cv7_8, cv7_9, cv7_10, cv8, cv8_1, cv8_2, cv8_3, cv8_4, cv8_5, cv8_6, cv8_7, cv8_9, cv8_10, cv9, cv9_1, cv9_2, cv9_3, cv9_4, cv9_5, cv9_6, cv9_7, cv9_8, cv9_10, cv10, cv10_1, cv10_2, cv10_3, cv10_4, cv10_5, cv10_6, cv10_7, cv10_8, cv10_9] | simp only [reduceIte, if_true, if_false, Bool.false_eq_true, reduceCtorEq] | with_reducible refine head_of t_law_12.eq_1 ?_ | with_reducible refine head_of t_law_11.eq_1 ?_ | with_reducible refine head_of t_law_10.eq_1 ?_ | with_reducible refine head_of t_law_9.eq_1 ?_ | with_reducible refine head_of t_law_8.eq_1 ?_ | with_reducible refine head_of t_law_7.eq_1 ?_ | with_reducible refine head_of t_law_6.eq_1 ?_ | with_reducible refine head_of t_law_5.eq_1 ?_ | with_reducible refine head_of t_law_3.eq_1 ?_ | with_reducible refine head_of t_law_2.eq_1 ?_ | with_reducible refine head_of t_law_1.eq_1 ?_))
  have key : ∀ (m : Ev) (H' : Hp) (D : Int), m 1 = some (.ref p) → m 2 = some (.int w) → m 3 = some (.int D) → m 4 = some (.int q) → 0 < D → D < (2 ^ w) ^ 5 → PoolOk p H' → t_law_4 m H' (retQ Q) := fun m H' D m1 m2 m3 m4 hDp hD5 hpk => by
    with_reducible refine head_of t_law_4.eq_1 ?_
    (repeat (first | dsimp only [sCons, sNil, sAssign, sAssign2, sIf, sRet, eCall, aNil, aCons, cInt, cBool, cBin, eCmp, eAnd, eList, eTup, eIdx, tCmp, tNot, tOr, tOrNil, tVal, oAdd_i, oSub_i, oMul_i, oFdiv_i, oMod_i, oPow_i, kEq_i, kNe_i, oAdd_r, oMul_r, vBool_b, vInt_i, vRef_r, LoopQ_next, LoopQ_ret, retQ_next, retQ_ret, cv0_1, cv0_2, cv0_3, cv0_4, cv0_5, cv0_6, cv0_7, cv0_8, cv0_9, cv0_10, cvl0, cv1, cv1_2, cv1_3, cv1_4, cv1_5, cv1_6, cv1_7, cv1_8, cv1_9, cv1_10, cvl1, cv2, cv2_1, cv2_3, cv2_4, cv2_5, cv2_6, cv2_7, cv2_8, cv2_9, cv2_10, cvl2, cv3, cv3_1, cv3_2, cv3_4, cv3_5, cv3_6, cv3_7, cv3_8, cv3_9, cv3_10, cvl3, cv4, cv4_1, cv4_2, cv4_3, cv4_5, cv4_6, cv4_7, cv4_8, cv4_9, cv4_10, cvl4, cv5, cv5_1, cv5_2, cv5_3, cv5_4, cv5_6, cv5_7, cv5_8, cv5_9, cv5_10, cv6, cv6_1, cv6_2, cv6_3, cv6_4, cv6_5, cv6_7, cv6_8, cv6_9, cv6_10, cv7, cv7_1, cv7_2, cv7_3, cv7_4, cv7_5, cv7_6, cv7_8, cv7_9, cv7_10, cv8, cv8_1, cv8_2, cv8_3, cv8_4, cv8_5, cv8_6, cv8_7, cv8_9, cv8_10, cv9, cv9_1, cv9_2, cv9_3, cv9_4, cv9_5, cv9_6, cv9_7, cv9_8, cv9_10, cv10, cv10_1, cv10_2, cv10_3, cv10_4, cv10_5, cv10_6, cv10_7, cv10_8, cv10_9] | simp only [reduceIte, if_true, if_false, Bool.false_eq_true, reduceCtorEq, cVar_at m1, cVar_at m2, cVar_at m3, cVar_at m4] | with_reducible refine head_of t_law_12.eq_1 ?_ | with_reducible refine head_of t_law_11.eq_1 ?_ | with_reducible refine head_of t_law_10.eq_1 ?_ | with_reducible refine head_of t_law_9.eq_1 ?_ | with_reducible refine head_of t_law_8.eq_1 ?_ | with_reducible refine head_of t_law_7.eq_1 ?_ | with_reducible refine head_of t_law_5.eq_1 ?_ | with_reducible refine head_of t_law_4.eq_1 ?_ | with_reducible refine head_of t_law_3.eq_1 ?_ | with_reducible refine head_of t_law_2.eq_1 ?_ | with_reducible refine head_of t_law_1.eq_1 ?_))
    refine ⟨p, _, rfl, hpk, hDp, fun d3 H5 hf0 hf1 x5 hp5 => ?_⟩
    (repeat (first | dsimp only [sCons, sNil, sAssign, sAssign2, sIf, sRet, eCall, aNil, aCons, cInt, cBool, cBin, eCmp, eAnd, eList, eTup, eIdx, tCmp, tNot, tOr, tOrNil, tVal, oAdd_i, oSub_i, oMul_i, oFdiv_i, oMod_i, oPow_i, kEq_i, kNe_i, oAdd_r, oMul_r, vBool_b, vInt_i, vRef_r, LoopQ_next, LoopQ_ret, retQ_next, retQ_ret, cv0_1, cv0_2, cv0_3, cv0_4, cv0_5, cv0_6, cv0_7, cv0_8, cv0_9, cv0_10, cvl0, cv1, cv1_2, cv1_3, cv1_4, cv1_5, cv1_6, cv1_7, cv1_8, cv1_9, cv1_10, cvl1, cv2, cv2_1, cv2_3, cv2_4, cv2_5, cv2_6, cv2_7, cv2_8, cv2_9, cv2_10, cvl2, cv3, cv3_1, cv3_2, cv3_4, cv3_5, cv3_6, cv3_7, cv3_8, cv3_9, cv3_10, cvl3, cv4, cv4_1, cv4_2, cv4_3, cv4_5, cv4_6, cv4_7, cv4_8, cv4_9, cv4_10, cvl4, cv5, cv5_1, cv5_2, cv5_3, cv5_4, cv5_6, cv5_7, cv5_8, cv5_9, cv5_10, cv6, cv6_1, cv6_2, cv6_3, cv6_4, cv6_5, cv6_7, cv6_8, cv6_9, cv6_10, cv7, cv7_1, cv7_2, cv7_3, cv7_4, cv7_5, cv7_6, cv7_8, cv7_9, cv7_10, cv8, cv8_1, cv8_2, cv8_3, cv8_4, cv8_5, cv8_6, cv8_7, cv8_9, cv8_10, cv9, cv9_1, cv9_2, cv9_3, cv9_4, cv9_5, cv9_6, cv9_7, cv9_8, cv9_10, cv10, cv10_1, cv10_2, cv10_3, cv10_4, cv10_5, cv10_6, cv10_7, cv10_8, cv10_9] | simp only [reduceIte, if_true, if_false, Bool.false_eq_true, reduceCtorEq, cVar_at m1, cVar_at m2, cVar_at m3, cVar_at m4] | with_reducible refine head_of t_law_12.eq_1 ?_ | with_reducible refine head_of t_law_11.eq_1 ?_ | with_reducible refine head_of t_law_10.eq_1 ?_ | with_reducible refine head_of t_law_9.eq_1 ?_ | with_reducible refine head_of t_law_8.eq_1 ?_ | with_reducible refine head_of t_law_7.eq_1 ?_ | with_reducible refine head_of t_law_5.eq_1 ?_ | with_reducible refine head_of t_law_4.eq_1 ?_ | with_reducible refine head_of t_law_3.eq_1 ?_ | with_reducible refine head_of t_law_2.eq_1 ?_ | with_reducible refine head_of t_law_1.eq_1 ?_))
    refine ⟨by simp, fun r' hr' => ?_⟩
    have x6 : Ext H5 (updH H5 r' (.list [V.int (D - 1), V.int 0, V.int d3])) := Ext.upd hr'
    have hl' : updH H5 r' (.list [V.int (D - 1), V.int 0, V.int d3]) r' = some (.list (iv [D - 1, 0, d3])) := updH_same ..
    generalize updH H5 r' (.list [V.int (D - 1), V.int 0, V.int d3]) = H6 at x6 hl' ⊢
    have nrp' : r' ≠ p := by
      obtain ⟨o, ho⟩ := hp5.there
      exact (ne_fresh ho hr').symm
    refine ⟨p, _, rfl, hp5.ext x6, by decide, fun d4 H7 hg0 hg1 x7 hp7 => ?_⟩
    (repeat (first | dsimp only [sCons, sNil, sAssign, sAssign2, sIf, sRet, eCall, aNil, aCons, cInt, cBool, cBin, eCmp, eAnd, eList, eTup, eIdx, tCmp, tNot, tOr, tOrNil, tVal, oAdd_i, oSub_i, oMul_i, oFdiv_i, oMod_i, oPow_i, kEq_i, kNe_i, oAdd_r, oMul_r, vBool_b, vInt_i, vRef_r, LoopQ_next, LoopQ_ret, retQ_next, retQ_ret, cv0_1, cv0_2, cv0_3, cv0_4, cv0_5, cv0_6, cv0_7, cv0_8, cv0_9, cv0_10, cvl0, cv1, cv1_2, cv1_3, cv1_4, cv1_5, cv1_6, cv1_7, cv1_8, cv1_9, cv1_10, cvl1, cv2, cv2_1, cv2_3, cv2_4, cv2_5, cv2_6, cv2_7, cv2_8, cv2_9, cv2_10, cvl2, cv3, cv3_1, cv3_2, cv3_4, cv3_5, cv3_6, cv3_7, cv3_8, cv3_9, cv3_10, cvl3, cv4, cv4_1, cv4_2, cv4_3, cv4_5, cv4_6, cv4_7, cv4_8, cv4_9, cv4_10, cvl4, cv5, cv5_1, cv5_2, cv5_3, cv5_4, cv5_6, cv5_7, cv5_8, cv5_9, cv5_10, cv6, cv6_1, cv6_2, cv6_3, cv6_4, cv6_5, cv6_7, cv6_8, cv6_9, cv6_10, cv7, cv7_1, cv7_2, cv7_3, cv7_4, cv7_5, cv7_6, cv7_8, cv7_9, cv7_10, cv8, cv8_1, cv8_2, cv8_3, cv8_4, cv8_5, cv8_6, cv8_7, cv8_9, cv8_10, cv9, cv9_1, cv9_2, cv9_3, cv9_4, cv9_5, cv9_6, cv9_7, cv9_8, cv9_10, cv10, cv10_1, cv10_2, cv10_3, cv10_4, cv10_5, cv10_6, cv10_7, cv10_8, cv10_9] | simp only [reduceIte, if_true, if_false, Bool.false_eq_true, reduceCtorEq] | with_reducible refine head_of t_law_12.eq_1 ?_ | with_reducible refine head_of t_law_11.eq_1 ?_ | with_reducible refine head_of t_law_10.eq_1 ?_ | with_reducible refine head_of t_law_9.eq_1 ?_ | with_reducible refine head_of t_law_8.eq_1 ?_ | with_reducible refine head_of t_law_7.eq_1 ?_ | with_reducible refine head_of t_law_5.eq_1 ?_ | with_reducible refine head_of t_law_4.eq_1 ?_ | with_reducible refine head_of t_law_3.eq_1 ?_ | with_reducible refine head_of t_law_2.eq_1 ?_ | with_reducible refine head_of t_law_1.eq_1 ?_))
    refine idx_iv (x7 _ _ nrp' hl') hg0 (by simpa using hg1) (by simp) ?_
    have dd' : Dig D [D - 1, 0, d3] := Dig.cons (by (clear hl hQ hz0 hz1 hw hw2 hw9 hB hB9 hBpos hD0 hD1 hq0 hq1 hD5 hf0 hf1 nrp' hg0 hg1 hs hr x1 hp0 hp1 x2 hp2 x3 hp3 x4 hp4 m1 m2 m3 m4 hpk x5 hp5 hr' x6 hl' x7 hp7; lia)) (by (clear hl hQ hz0 hz1 hw hw2 hw9 hB hB9 hBpos hD0 hD1 hq0 hq1 hDp hD5 hf0 hf1 nrp' hg0 hg1 hs hr x1 hp0 hp1 x2 hp2 x3 hp3 x4 hp4 m1 m2 m3 m4 hpk x5 hp5 hr' x6 hl' x7 hp7; lia)) (Dig.cons (by (with_reducible exact Int.le_refl _)) (by (with_reducible assumption)) (Dig.cons hf0 hf1 Dig.nil))
    have hrest := dd'.get hDp d4.toNat
    generalize [D - 1, 0, d3].getD d4.toNat 0 = rest at hrest ⊢
    (repeat (first | dsimp only [sCons, sNil, sAssign, sAssign2, sIf, sRet, eCall, aNil, aCons, cInt, cBool, cBin, eCmp, eAnd, eList, eTup, eIdx, tCmp, tNot, tOr, tOrNil, tVal, oAdd_i, oSub_i, oMul_i, oFdiv_i, oMod_i, oPow_i, kEq_i, kNe_i, oAdd_r, oMul_r, vBool_b, vInt_i, vRef_r, LoopQ_next, LoopQ_ret, retQ_next, retQ_ret, cv0_1, cv0_2, cv0_3, cv0_4, cv0_5, cv0_6, cv0_7, cv0_8, cv0_9, cv0_10, cvl0, cv1, cv1_2, cv1_3, cv1_4, cv1_5, cv1_6, cv1_7, cv1_8, cv1_9, cv1_10, cvl1, cv2, cv2_1, cv2_3, cv2_4, cv2_5, cv2_6, cv2_7, cv2_8, cv2_9, cv2_10, cvl2, cv3, cv3_1, cv3_2, cv3_4, cv3_5, cv3_6, cv3_7, cv3_8, cv3_9, cv3_10, cvl3, cv4, cv4_1, cv4_2, cv4_3, cv4_5, cv4_6, cv4_7, cv4_8, cv4_9, cv4_10, cvl4, cv5, cv5_1, cv5_2, cv5_3, cv5_4, cv5_6, cv5_7, cv5_8, cv5_9, cv5_10, cv6, cv6_1, cv6_2, cv6_3, cv6_4, cv6_5, cv6_7, cv6_8, cv6_9, cv6_10, cv7, cv7_1, cv7_2, cv7_3, cv7_4, cv7_5, cv7_6, cv7_8, cv7_9, cv7_10, cv8, cv8_1, cv8_2, cv8_3, cv8_4, cv8_5, cv8_6, cv8_7, cv8_9, cv8_10, cv9, cv9_1, cv9_2, cv9_3, cv9_4, cv9_5, cv9_6, cv9_7, cv9_8, cv9_10, cv10, cv10_1, cv10_2, cv10_3, cv10_4, cv10_5, cv10_6, cv10_7, cv10_8, cv10_9] | simp only [reduceIte, if_true, if_false, Bool.false_eq_true, reduceCtorEq, cVar_at m1, cVar_at m2, cVar_at m3, cVar_at m4] | with_reducible refine head_of t_law_12.eq_1 ?_ | with_reducible refine head_of t_law_11.eq_1 ?_ | with_reducible refine head_of t_law_10.eq_1 ?_ | with_reducible refine head_of t_law_9.eq_1 ?_ | with_reducible refine head_of t_law_8.eq_1 ?_ | with_reducible refine head_of t_law_7.eq_1 ?_ | with_reducible refine head_of t_law_5.eq_1 ?_ | with_reducible refine head_of t_law_4.eq_1 ?_ | with_reducible refine head_of t_law_3.eq_1 ?_ | with_reducible refine head_of t_law_2.eq_1 ?_ | with_reducible refine head_of t_law_1.eq_1 ?_))
    refine ⟨small_pow (by (with_reducible exact cpos1)) hB9 hq0 hq1 (by decide), small_pow (by (with_reducible exact cpos1)) hB9 (by (with_reducible exact Int.le_of_lt (by assumption))) hD5 (by decide), ?_⟩
    refine ⟨p, w, 8, rfl, hp7, by (with_reducible exact cge2 (by assumption)), hw9, by decide, fun other H8 ho0 ho1 x8 hp8 => ?_⟩
    (repeat (first | dsimp only [sCons, sNil, sAssign, sAssign2, sIf, sRet, eCall, aNil, aCons, cInt, cBool, cBin, eCmp, eAnd, eList, eTup, eIdx, tCmp, tNot, tOr, tOrNil, tVal, oAdd_i, oSub_i, oMul_i, oFdiv_i, oMod_i, oPow_i, kEq_i, kNe_i, oAdd_r, oMul_r, vBool_b, vInt_i, vRef_r, LoopQ_next, LoopQ_ret, retQ_next, retQ_ret, cv0_1, cv0_2, cv0_3, cv0_4, cv0_5, cv0_6, cv0_7, cv0_8, cv0_9, cv0_10, cvl0, cv1, cv1_2, cv1_3, cv1_4, cv1_5, cv1_6, cv1_7, cv1_8, cv1_9, cv1_10, cvl1, cv2, cv2_1, cv2_3, cv2_4, cv2_5, cv2_6, cv2_7, cv2_8, cv2_9, cv2_10, cvl2, cv3, cv3_1, cv3_2, cv3_4, cv3_5, cv3_6, cv3_7, cv3_8, cv3_9, cv3_10, cvl3, cv4, cv4_1, cv4_2, cv4_3, cv4_5, cv4_6, cv4_7, cv4_8, cv4_9, cv4_10, cvl4, cv5, cv5_1, cv5_2, cv5_3, cv5_4, cv5_6, cv5_7, cv5_8, cv5_9, cv5_10, cv6, cv6_1, cv6_2, cv6_3, cv6_4, cv6_5, cv6_7, cv6_8, cv6_9, cv6_10, cv7, cv7_1, cv7_2, cv7_3, cv7_4, cv7_5, cv7_6, cv7_8, cv7_9, cv7_10, cv8, cv8_1, cv8_2, cv8_3, cv8_4, cv8_5, cv8_6, cv8_7, cv8_9, cv8_10, cv9, cv9_1, cv9_2, cv9_3, cv9_4, cv9_5, cv9_6, cv9_7, cv9_8, cv9_10, cv10, cv10_1, cv10_2, cv10_3, cv10_4, cv10_5, cv10_6, cv10_7, cv10_8, cv10_9] | simp only [reduceIte, if_true, if_false, Bool.false_eq_true, reduceCtorEq] | with_reducible refine head_of t_law_12.eq_1 ?_ | with_reducible refine head_of t_law_11.eq_1 ?_ | with_reducible refine head_of t_law_10.eq_1 ?_ | with_reducible refine head_of t_law_9.eq_1 ?_ | with_reducible refine head_of t_law_8.eq_1 ?_ | with_reducible refine head_of t_law_7.eq_1 ?_ | with_reducible refine head_of t_law_5.eq_1 ?_ | with_reducible refine head_of t_law_4.eq_1 ?_ | with_reducible refine head_of t_law_3.eq_1 ?_ | with_reducible refine head_of t_law_2.eq_1 ?_ | with_reducible refine head_of t_law_1.eq_1 ?_))
    exact law_tail hw2 hw9 m1 m2 m3 m4 rfl rfl rfl hDp hD5 hq0 hq1 hrest.1 hrest.2 rfl ho0 ho1 hp8 hQ
  by_cases hz : D0 = 0
  · (repeat (first | dsimp only [sCons, sNil, sAssign, sAssign2, sIf, sRet, eCall, aNil, aCons, cInt, cBool, cBin, eCmp, eAnd, eList, eTup, eIdx, tCmp, tNot, tOr, tOrNil, tVal, oAdd_i, oSub_i, oMul_i, oFdiv_i, oMod_i, oPow_i, kEq_i, kNe_i, oAdd_r, oMul_r, vBool_b, vInt_i, vRef_r, LoopQ_next, LoopQ_ret, retQ_next, retQ_ret, cv0_1, cv0_2, cv0_3, cv0_4, cv0_5, cv0_6, cv0_7, cv0_8, cv0_9, cv0_10, cvl0, cv1, cv1_2, cv1_3, cv1_4, cv1_5, cv1_6, cv1_7, cv1_8, cv1_9, cv1_10, cvl1, cv2, cv2_1, cv2_3, cv2_4, cv2_5, cv2_6, cv2_7, cv2_8, cv2_9, cv2_10, cvl2, cv3, cv3_1, cv3_2, cv3_4, cv3_5, cv3_6, cv3_7, cv3_8, cv3_9, cv3_10, cvl3, cv4, cv4_1, cv4_2, cv4_3, cv4_5, cv4_6, cv4_7, cv4_8, cv4_9, cv4_10, cvl4, cv5, cv5_1, cv5_2, cv5_3, cv5_4, cv5_6, cv5_7, cv5_8, cv5_9, cv5_10, cv6, cv6_1, cv6_2, cv6_3, cv6_4, cv6_5, cv6_7, cv6_8, cv6_9, cv6_10, cv7, cv7_1, cv7_2, cv7_3, cv7_4, cv7_5, cv7_6, cv7_8, cv7_9, cv7_10, cv8, cv8_1, cv8_2, cv8_3, cv8_4, cv8_5, cv8_6, cv8_7, cv8_9, cv8_10, cv9, cv9_1, cv9_2, cv9_3, cv9_4, cv9_5, cv9_6, cv9_7, cv9_8, cv9_10, cv10, cv10_1, cv10_2, cv10_3, cv10_4, cv10_5, cv10_6, cv10_7, cv10_8, cv10_9] | simp only [reduceIte, if_true, if_false, Bool.false_eq_true, reduceCtorEq, hz, decide_true] | with_reducible refine head_of t_law_12.eq_1 ?_ | with_reducible refine head_of t_law_11.eq_1 ?_ | with_reducible refine head_of t_law_10.eq_1 ?_ | with_reducible refine head_of t_law_9.eq_1 ?_ | with_reducible refine head_of t_law_8.eq_1 ?_ | with_reducible refine head_of t_law_7.eq_1 ?_ | with_reducible refine head_of t_law_6.eq_1 ?_ | with_reducible refine head_of t_law_5.eq_1 ?_ | with_reducible refine head_of t_law_3.eq_1 ?_ | with_reducible refine head_of t_law_2.eq_1 ?_ | with_reducible refine head_of t_law_1.eq_1 ?_))
    refine ⟨by (with_reducible exact Int.natCast_nonneg _), by (with_reducible exact cw (by assumption)), by decide, ?_⟩
    rw [Int.toNat_natCast]
    refine ⟨p, _, rfl, hp4, by (clear hl hQ hz0 hz1 hw hw2 hw9 hB9 hBpos hD0 hD1 hq0 hq1 key hz; lia), fun d H5 hd0 hd1 x5 hp5 => ?_⟩
    (repeat (first | dsimp only [sCons, sNil, sAssign, sAssign2, sIf, sRet, eCall, aNil, aCons, cInt, cBool, cBin, eCmp, eAnd, eList, eTup, eIdx, tCmp, tNot, tOr, tOrNil, tVal, oAdd_i, oSub_i, oMul_i, oFdiv_i, oMod_i, oPow_i, kEq_i, kNe_i, oAdd_r, oMul_r, vBool_b, vInt_i, vRef_r, LoopQ_next, LoopQ_ret, retQ_next, retQ_ret, cv0_1, cv0_2, cv0_3, cv0_4, cv0_5, cv0_6, cv0_7, cv0_8, cv0_9, cv0_10, cvl0, cv1, cv1_2, cv1_3, cv1_4, cv1_5, cv1_6, cv1_7, cv1_8, cv1_9, cv1_10, cvl1, cv2, cv2_1, cv2_3, cv2_4, cv2_5, cv2_6, cv2_7, cv2_8, cv2_9, cv2_10, cvl2, cv3, cv3_1, cv3_2, cv3_4, cv3_5, cv3_6, cv3_7, cv3_8, cv3_9, cv3_10, cvl3, cv4, cv4_1, cv4_2, cv4_3, cv4_5, cv4_6, cv4_7, cv4_8, cv4_9, cv4_10, cvl4, cv5, cv5_1, cv5_2, cv5_3, cv5_4, cv5_6, cv5_7, cv5_8, cv5_9, cv5_10, cv6, cv6_1, cv6_2, cv6_3, cv6_4, cv6_5, cv6_7, cv6_8, cv6_9, cv6_10, cv7, cv7_1, cv7_2, cv7_3, cv7_4, cv7_5, cv7_6, cv7_8, cv7_9, cv7_10, cv8, cv8_1, cv8_2, cv8_3, cv8_4, cv8_5, cv8_6, cv8_7, cv8_9, cv8_10, cv9, cv9_1, cv9_2, cv9_3, cv9_4, cv9_5, cv9_6, cv9_7, cv9_8, cv9_10, cv10, cv10_1, cv10_2, cv10_3, cv10_4, cv10_5, cv10_6, cv10_7, cv10_8, cv10_9] | simp only [reduceIte, if_true, if_false, Bool.false_eq_true, reduceCtorEq] | with_reducible refine head_of t_law_12.eq_1 ?_ | with_reducible refine head_of t_law_11.eq_1 ?_ | with_reducible refine head_of t_law_10.eq_1 ?_ | with_reducible refine head_of t_law_9.eq_1 ?_ | with_reducible refine head_of t_law_8.eq_1 ?_ | with_reducible refine head_of t_law_7.eq_1 ?_ | with_reducible refine head_of t_law_6.eq_1 ?_ | with_reducible refine head_of t_law_5.eq_1 ?_ | with_reducible refine head_of t_law_3.eq_1 ?_ | with_reducible refine head_of t_law_2.eq_1 ?_ | with_reducible refine head_of t_law_1.eq_1 ?_))
    have hB5 : (2 ^ w : Int) ^ 1 ≤ (2 ^ w) ^ 5 := pow_le_pow hBpos (by decide)
    rw [Int.pow_one] at hB5
    exact key _ H5 _ rfl rfl rfl rfl (by (clear hl hQ hz0 hz1 hw hw2 hw9 hB hB9 hBpos hD0 hD1 hq0 hq1 key hz hd1 hB5; lia)) (by (clear hl hQ hz0 hz1 hw hw2 hw9 hB hB9 hBpos hD0 hD1 hq0 hq1 key hz hd0; lia)) hp5
  · (repeat (first | dsimp only [sCons, sNil, sAssign, sAssign2, sIf, sRet, eCall, aNil, aCons, cInt, cBool, cBin, eCmp, eAnd, eList, eTup, eIdx, tCmp, tNot, tOr, tOrNil, tVal, oAdd_i, oSub_i, oMul_i, oFdiv_i, oMod_i, oPow_i, kEq_i, kNe_i, oAdd_r, oMul_r, vBool_b, vInt_i, vRef_r, LoopQ_next, LoopQ_ret, retQ_next, retQ_ret, cv0_1, cv0_2, cv0_3, cv0_4, cv0_5, cv0_6, cv0_7, cv0_8, cv0_9, cv0_10, cvl0, cv1, cv1_2, cv1_3, cv1_4, cv1_5, cv1_6, cv1_7, cv1_8, cv1_9, cv1_10, cvl1, cv2, cv2_1, cv2_3, cv2_4, cv2_5, cv2_6, cv2_7, cv2_8, cv2_9, cv2_10, cvl2, cv3, cv3_1, cv3_2, cv3_4, cv3_5, cv3_6, cv3_7, cv3_8, cv3_9, cv3_10, cvl3, cv4, cv4_1, cv4_2, cv4_3, cv4_5, cv4_6, cv4_7, cv4_8, cv4_9, cv4_10, cvl4, cv5, cv5_1, cv5_2, cv5_3, cv5_4, cv5_6, cv5_7, cv5_8, cv5_9, cv5_10, cv6, cv6_1, cv6_2, cv6_3, cv6_4, cv6_5, cv6_7, cv6_8, cv6_9, cv6_10, cv7, cv7_1, cv7_2, cv7_3, cv7_4, cv7_5, cv7_6, cv7_8, cv7_9, cv7_10, cv8, cv8_1, cv8_2, cv8_3, cv8_4, cv8_5, cv8_6, cv8_7, cv8_9, cv8_10, cv9, cv9_1, cv9_2, cv9_3, cv9_4, cv9_5, cv9_6, cv9_7, cv9_8, cv9_10, cv10, cv10_1, cv10_2, cv10_3, cv10_4, cv10_5, cv10_6, cv10_7, cv10_8, cv10_9] | simp only [reduceIte, if_true, if_false, Bool.false_eq_true, reduceCtorEq, decide_eq_false hz] | with_reducible refine head_of t_law_12.eq_1 ?_ | with_reducible refine head_of t_law_11.eq_1 ?_ | with_reducible refine head_of t_law_10.eq_1 ?_ | with_reducible refine head_of t_law_9.eq_1 ?_ | with_reducible refine head_of t_law_8.eq_1 ?_ | with_reducible refine head_of t_law_7.eq_1 ?_ | with_reducible refine head_of t_law_6.eq_1 ?_ | with_reducible refine head_of t_law_5.eq_1 ?_ | with_reducible refine head_of t_law_3.eq_1 ?_ | with_reducible refine head_of t_law_2.eq_1 ?_ | with_reducible refine head_of t_law_1.eq_1 ?_))
    exact key _ H4 _ rfl rfl rfl rfl (by (clear hl hQ hz0 hz1 hw hw2 hw9 hB hB9 hBpos hD1 hq0 hq1 key; lia)) hD1 hp4
end Mine
end

section
open PySem
set_option linter.unusedVariables false
set_option linter.unusedSimpArgs false
namespace Mine

noncomputable def ps_law_pool : PS := sCons (sComp 1 (eSlice (cVar 0) pNone (pSome (cInt 20))) (fun _ => True) absI)
  (sCons (sRet (eList (aCons (cVar 1) (aCons (cInt 0) (aCons (cBin oAdd (cInt 11) (eCall fSum (aCons (eComp (cVar 1) (fun _ => True) (fun a => a.fmod 9973)) aNil))) aNil))))) sNil)

theorem fSum_r {a : Nat} {H : Hp} {Q : V → Hp → Prop} : fSum [.ref a] H Q = ∃ xs, H a = some (.list (iv xs)) ∧ Q (.int xs.sum) H := rfl

theorem sum_mods (xs : List Int) : 0 ≤ (xs.map fun a => a.fmod 9973).sum ∧ (xs.map fun a => a.fmod 9973).sum ≤ 9973 * xs.length := by
  induction xs with
  | nil => simp
  | cons a r ih =>
    simp only [List.map_cons, List.sum_cons, List.length_cons]
    rw [fmod_pos (by decide)]
    have h1 := Int.emod_nonneg a (show (9973 : Int) ≠ 0 by decide)
    have h2 := Int.emod_lt_of_pos a (show (0 : Int) < 9973 by decide)
    (clear h1 h2; lia)

theorem pu_law_pool (args : List V) (H : Hp) (Q : V → Hp → Prop) (h : P_law_pool args H Q) : args.length = 1 ∧ ps_law_pool (fun i => args[i]?) H (retQ Q) := by
  obtain ⟨a, xs, rfl, ha, hl, hQ⟩ := h
  refine ⟨rfl, ?_⟩
  (repeat (first | dsimp only [sCons, sNil, sRet, eCall, aNil, aCons, cInt, cBin, eList, eSlice, pNone, pSome, oAdd_i, oAdd_r, vBool_b, vInt_i, vRef_r, LoopQ_next, LoopQ_ret, retQ_next, retQ_ret, cvl0, cvl1, ps_law_pool, sComp, eComp] | simp only [reduceIte, if_true, if_false, Bool.false_eq_true, reduceCtorEq]))
  refine ⟨by decide, cut_take ha (by lia) fun r hr => ?_⟩
  (repeat (first | dsimp only [sCons, sNil, sRet, eCall, aNil, aCons, cInt, cBin, eList, eSlice, pNone, pSome, oAdd_i, oAdd_r, vBool_b, vInt_i, vRef_r, LoopQ_next, LoopQ_ret, retQ_next, retQ_ret, cvl0, cvl1] | simp only [reduceIte, if_true, if_false, Bool.false_eq_true, reduceCtorEq]))
  refine ⟨_, updH_same .., by simp; (clear hl hQ; lia), fun _ _ => trivial, fun g hg => ?_⟩
  (repeat (first | dsimp only [sCons, sNil, sRet, eCall, aNil, aCons, cInt, cBin, eList, eSlice, pNone, pSome, oAdd_i, oAdd_r, vBool_b, vInt_i, vRef_r, LoopQ_next, LoopQ_ret, retQ_next, retQ_ret, cvl0, cvl1] | simp only [reduceIte, if_true, if_false, Bool.false_eq_true, reduceCtorEq]))
  have x1 : Ext H (updH H r (.list (iv (xs.take (Int.toNat 20))))) := Ext.upd hr
  generalize updH H r (.list (iv (xs.take (Int.toNat 20)))) = H1 at x1 hg ⊢
  have hgl : ((xs.take (Int.toNat 20)).map absI).length ≤ 20 := by simp; (clear hl hQ; lia)
  generalize (xs.take (Int.toNat 20)).map absI = gs at hgl ⊢
  have hg1 : updH H1 g (.list (iv gs)) g = some (.list (iv gs)) := updH_same ..
  have x2 : Ext H1 (updH H1 g (.list (iv gs))) := Ext.upd hg
  generalize updH H1 g (.list (iv gs)) = H2 at x2 hg1 ⊢
  refine ⟨gs, hg1, by lia, fun _ _ => trivial, fun t ht => ?_⟩
  (repeat (first | dsimp only [sCons, sNil, sRet, eCall, aNil, aCons, cInt, cBin, eList, eSlice, pNone, pSome, oAdd_i, oAdd_r, vBool_b, vInt_i, vRef_r, LoopQ_next, LoopQ_ret, retQ_next, retQ_ret, cvl0, cvl1, fSum_r] | simp only [reduceIte, if_true, if_false, Bool.false_eq_true, reduceCtorEq]))
  have x3 : Ext H2 (updH H2 t (.list (iv (gs.map fun a => a.fmod 9973)))) := Ext.upd ht
  refine ⟨_, updH_same .., ?_⟩
  obtain ⟨s0, s1⟩ := sum_mods gs
  (repeat (first | dsimp only [sCons, sNil, sRet, eCall, aNil, aCons, cInt, cBin, eList, eSlice, pNone, pSome, oAdd_i, oAdd_r, vBool_b, vInt_i, vRef_r, LoopQ_next, LoopQ_ret, retQ_next, retQ_ret, cvl0, cvl1] | simp only [reduceIte, if_true, if_false, Bool.false_eq_true, reduceCtorEq]))
  refine ⟨by simp, fun p hp => ?_⟩
  refine hQ p _ (((x1.trans x2).trans x3).trans (Ext.upd hp)) ?_ ⟨g, 0, _, gs, updH_same .., ?_, ?_, by (with_reducible exact Int.le_refl _), by (with_reducible exact Int.natCast_nonneg _), by (clear hl hQ s0 s1; lia), by lia, by lia⟩
  · exact ((x1.trans x2).trans x3).free hp
  · exact (Ext.upd hp) _ _ (x3 _ _ hg1)
  · exact ne_fresh (x3 _ _ hg1) hp
end Mine
end

section
open PySem PySem.W PyProof.Rows
namespace Mine
set_option maxRecDepth 100000 in
set_option maxHeartbeats 8000000 in
open_top hd for PySem.Challenge.rw_nn0005_01
end Mine
end

section
open PySem PySem.W PyProof.Rows PySem.Spec PySem.Calls
set_option linter.unusedVariables false
namespace Mine
noncomputable def cf (w : World) (mean : ExcName → Option Value) (mg mb : Str → Option Value) (hR : Heap) : Cfg :=
  ⟨w, Mine.hd.heap_39 w.params, Mine.hd.view_39, PySem.Challenge.rw_nn0005_01.row.prog, looseW Mine.hd.view_39 [], mean, mg, mb, hR, hR⟩
section
variable {w : World} {mean : ExcName → Option Value} {mg mb : Str → Option Value} {hR : Heap}
set_option maxRecDepth 100000
theorem nm.len_ : BName (cf w mean mg mb hR) (Str.ofString "len") (.builtin "len") := ⟨by show nsIn (Mine.hd.heap_39 w.params) mainGlobals (Str.ofString "len") = some none; rfl, boot_len, by decide⟩
theorem nm.min_ : BName (cf w mean mg mb hR) (Str.ofString "min") (.builtin "min") := ⟨by show nsIn (Mine.hd.heap_39 w.params) mainGlobals (Str.ofString "min") = some none; rfl, boot_min, by decide⟩
theorem nm.list_ : BName (cf w mean mg mb hR) (Str.ofString "list") (.type "list") := ⟨by show nsIn (Mine.hd.heap_39 w.params) mainGlobals (Str.ofString "list") = some none; rfl, boot_list, by decide⟩
theorem nm.range_ : BName (cf w mean mg mb hR) (Str.ofString "range") (.type "range") := ⟨by show nsIn (Mine.hd.heap_39 w.params) mainGlobals (Str.ofString "range") = some none; rfl, boot_range, by decide⟩
theorem nm.enumerate_ : BName (cf w mean mg mb hR) (Str.ofString "enumerate") (.type "enumerate") := ⟨by show nsIn (Mine.hd.heap_39 w.params) mainGlobals (Str.ofString "enumerate") = some none; rfl, boot_enumerate, by decide⟩
theorem nm.normal : GName (cf w mean mg mb hR) (Str.ofString "normal") 46 := ⟨by show nsIn (Mine.hd.heap_39 w.params) mainGlobals (Str.ofString "normal") = some (some (.ref 46)); rfl, by show keepIn (Mine.hd.heap_39 w.params) (.ref 46) = true; rfl⟩
theorem nm.compare : GName (cf w mean mg mb hR) (Str.ofString "compare") 53 := ⟨by show nsIn (Mine.hd.heap_39 w.params) mainGlobals (Str.ofString "compare") = some (some (.ref 53)); rfl, by show keepIn (Mine.hd.heap_39 w.params) (.ref 53) = true; rfl⟩
theorem nm.divrem_limb : GName (cf w mean mg mb hR) (Str.ofString "divrem_limb") 60 := ⟨by show nsIn (Mine.hd.heap_39 w.params) mainGlobals (Str.ofString "divrem_limb") = some (some (.ref 60)); rfl, by show keepIn (Mine.hd.heap_39 w.params) (.ref 60) = true; rfl⟩
theorem nm.shift_left : GName (cf w mean mg mb hR) (Str.ofString "shift_left") 67 := ⟨by show nsIn (Mine.hd.heap_39 w.params) mainGlobals (Str.ofString "shift_left") = some (some (.ref 67)); rfl, by show keepIn (Mine.hd.heap_39 w.params) (.ref 67) = true; rfl⟩
theorem nm.shift_right : GName (cf w mean mg mb hR) (Str.ofString "shift_right") 74 := ⟨by show nsIn (Mine.hd.heap_39 w.params) mainGlobals (Str.ofString "shift_right") = some (some (.ref 74)); rfl, by show keepIn (Mine.hd.heap_39 w.params) (.ref 74) = true; rfl⟩
theorem nm.bits : GName (cf w mean mg mb hR) (Str.ofString "bits") 81 := ⟨by show nsIn (Mine.hd.heap_39 w.params) mainGlobals (Str.ofString "bits") = some (some (.ref 81)); rfl, by show keepIn (Mine.hd.heap_39 w.params) (.ref 81) = true; rfl⟩
theorem nm.divrem_small : GName (cf w mean mg mb hR) (Str.ofString "divrem_small") 88 := ⟨by show nsIn (Mine.hd.heap_39 w.params) mainGlobals (Str.ofString "divrem_small") = some (some (.ref 88)); rfl, by show keepIn (Mine.hd.heap_39 w.params) (.ref 88) = true; rfl⟩
theorem nm.guessed_limb : GName (cf w mean mg mb hR) (Str.ofString "guessed_limb") 95 := ⟨by show nsIn (Mine.hd.heap_39 w.params) mainGlobals (Str.ofString "guessed_limb") = some (some (.ref 95)); rfl, by show keepIn (Mine.hd.heap_39 w.params) (.ref 95) = true; rfl⟩
theorem nm.take_away : GName (cf w mean mg mb hR) (Str.ofString "take_away") 102 := ⟨by show nsIn (Mine.hd.heap_39 w.params) mainGlobals (Str.ofString "take_away") = some (some (.ref 102)); rfl, by show keepIn (Mine.hd.heap_39 w.params) (.ref 102) = true; rfl⟩
theorem nm.put_back : GName (cf w mean mg mb hR) (Str.ofString "put_back") 109 := ⟨by show nsIn (Mine.hd.heap_39 w.params) mainGlobals (Str.ofString "put_back") = some (some (.ref 109)); rfl, by show keepIn (Mine.hd.heap_39 w.params) (.ref 109) = true; rfl⟩
theorem nm.divide_rows : GName (cf w mean mg mb hR) (Str.ofString "divide_rows") 116 := ⟨by show nsIn (Mine.hd.heap_39 w.params) mainGlobals (Str.ofString "divide_rows") = some (some (.ref 116)); rfl, by show keepIn (Mine.hd.heap_39 w.params) (.ref 116) = true; rfl⟩
theorem nm.divrem_school : GName (cf w mean mg mb hR) (Str.ofString "divrem_school") 123 := ⟨by show nsIn (Mine.hd.heap_39 w.params) mainGlobals (Str.ofString "divrem_school") = some (some (.ref 123)); rfl, by show keepIn (Mine.hd.heap_39 w.params) (.ref 123) = true; rfl⟩
theorem nm.law_draw : GName (cf w mean mg mb hR) (Str.ofString "_law_draw") 130 := ⟨by show nsIn (Mine.hd.heap_39 w.params) mainGlobals (Str.ofString "_law_draw") = some (some (.ref 130)); rfl, by show keepIn (Mine.hd.heap_39 w.params) (.ref 130) = true; rfl⟩
theorem nm.law_pool : GName (cf w mean mg mb hR) (Str.ofString "_law_pool") 135 := ⟨by show nsIn (Mine.hd.heap_39 w.params) mainGlobals (Str.ofString "_law_pool") = some (some (.ref 135)); rfl, by show keepIn (Mine.hd.heap_39 w.params) (.ref 135) = true; rfl⟩
theorem nm.law_row : GName (cf w mean mg mb hR) (Str.ofString "_law_row") 142 := ⟨by show nsIn (Mine.hd.heap_39 w.params) mainGlobals (Str.ofString "_law_row") = some (some (.ref 142)); rfl, by show keepIn (Mine.hd.heap_39 w.params) (.ref 142) = true; rfl⟩
theorem nm.law_whole : GName (cf w mean mg mb hR) (Str.ofString "_law_whole") 147 := ⟨by show nsIn (Mine.hd.heap_39 w.params) mainGlobals (Str.ofString "_law_whole") = some (some (.ref 147)); rfl, by show keepIn (Mine.hd.heap_39 w.params) (.ref 147) = true; rfl⟩
theorem nm.law_number : GName (cf w mean mg mb hR) (Str.ofString "_law_number") 154 := ⟨by show nsIn (Mine.hd.heap_39 w.params) mainGlobals (Str.ofString "_law_number") = some (some (.ref 154)); rfl, by show keepIn (Mine.hd.heap_39 w.params) (.ref 154) = true; rfl⟩
theorem nm.law_guess_right : GName (cf w mean mg mb hR) (Str.ofString "_law_guess_right") 161 := ⟨by show nsIn (Mine.hd.heap_39 w.params) mainGlobals (Str.ofString "_law_guess_right") = some (some (.ref 161)); rfl, by show keepIn (Mine.hd.heap_39 w.params) (.ref 161) = true; rfl⟩
theorem nm.law_refuses : GName (cf w mean mg mb hR) (Str.ofString "_law_refuses") 168 := ⟨by show nsIn (Mine.hd.heap_39 w.params) mainGlobals (Str.ofString "_law_refuses") = some (some (.ref 168)); rfl, by show keepIn (Mine.hd.heap_39 w.params) (.ref 168) = true; rfl⟩
theorem nm.law : GName (cf w mean mg mb hR) (Str.ofString "law") 175 := ⟨by show nsIn (Mine.hd.heap_39 w.params) mainGlobals (Str.ofString "law") = some (some (.ref 175)); rfl, by show keepIn (Mine.hd.heap_39 w.params) (.ref 175) = true; rfl⟩
theorem ok_normal {l : Nat} (hl : 1 ≤ l) : FnOk (cf w mean mg mb hR) l 46 P_normal :=
  FnOk.lift (l' := 1) (FnOk.mono (fn_ok (l := 0) (n := 1) ⟨⟨_, _, _, _, _, _, _, _, _, _, _, _, by rfl, by rfl, fun s a => BindsTo.of_eq rfl⟩, by decide, by decide, by decide, rfl, rfl, rfl, by decide⟩
    (simB_cons (simS_assign (i := 1) (simE_callB nm.len_ (by intro _ h; cases h) (simA_cons (simE_var (i := 0) (by rfl) (by decide)) simA_nil (by intro _; rfl)) bf_len (by rfl) (by decide) (by intro _; rfl) (by intro _; rfl)) (by rfl) (by intro _; rfl))
  (simB_cons (simS_while (simT_and (simT_cmp (simE_var (i := 1) (by rfl) (by decide)) simE_int cmp_gt (by with_unfolding_all rfl)) (simT_and (simT_cmp (simE_idx (simE_var (i := 0) (by rfl) (by decide)) (simE_bin (simE_var (i := 1) (by rfl) (by decide)) simE_int op_sub) (by intro _ _; rfl)) simE_int cmp_eq (by with_unfolding_all rfl)) simT_and_nil)) (simB_cons (simS_aug (i := 1) simE_int iop_sub (by rfl))
  simB_nil))
  (simB_cons (simS_ret (simE_slice (simE_var (i := 0) (by rfl) (by decide)) simO_none (simO_some (simE_var (i := 1) (by rfl) (by decide)))))
  simB_nil)))) pu_normal) hl

theorem ok_compare {l : Nat} (hl : 1 ≤ l) : FnOk (cf w mean mg mb hR) l 53 P_compare :=
  FnOk.lift (l' := 1) (FnOk.mono (fn_ok (l := 0) (n := 2) ⟨⟨_, _, _, _, _, _, _, _, _, _, _, _, by rfl, by rfl, fun s a b => BindsTo.of_eq rfl⟩, by decide, by decide, by decide, rfl, rfl, rfl, by decide⟩
    (simB_cons (simS_if (simT_cmp (simE_callB nm.len_ (by intro _ h; cases h) (simA_cons (simE_var (i := 0) (by rfl) (by decide)) simA_nil (by intro _; rfl)) bf_len (by rfl) (by decide) (by intro _; rfl) (by intro _; rfl)) (simE_callB nm.len_ (by intro _ h; cases h) (simA_cons (simE_var (i := 1) (by rfl) (by decide)) simA_nil (by intro _; rfl)) bf_len (by rfl) (by decide) (by intro _; rfl) (by intro _; rfl)) cmp_ne (by with_unfolding_all rfl)) (simB_cons (simS_ret (simE_if (simT_cmp (simE_callB nm.len_ (by intro _ h; cases h) (simA_cons (simE_var (i := 0) (by rfl) (by decide)) simA_nil (by intro _; rfl)) bf_len (by rfl) (by decide) (by intro _; rfl) (by intro _; rfl)) (simE_callB nm.len_ (by intro _ h; cases h) (simA_cons (simE_var (i := 1) (by rfl) (by decide)) simA_nil (by intro _; rfl)) bf_len (by rfl) (by decide) (by intro _; rfl) (by intro _; rfl)) cmp_lt (by with_unfolding_all rfl)) (simE_neg simE_int) simE_int))
  simB_nil) simB_nil)
  (simB_cons (simS_forR (i := 2) nm.range_ (simA_cons (simE_bin (simE_callB nm.len_ (by intro _ h; cases h) (simA_cons (simE_var (i := 0) (by rfl) (by decide)) simA_nil (by intro _; rfl)) bf_len (by rfl) (by decide) (by intro _; rfl) (by intro _; rfl)) simE_int op_sub) (simA_cons (simE_neg simE_int) (simA_cons (simE_neg simE_int) simA_nil (by intro _; rfl)) (by intro _; rfl)) (by intro _; rfl)) (simB_cons (simS_if (simT_cmp (simE_idx (simE_var (i := 0) (by rfl) (by decide)) (simE_var (i := 2) (by rfl) (by decide)) (by intro _ _; rfl)) (simE_idx (simE_var (i := 1) (by rfl) (by decide)) (simE_var (i := 2) (by rfl) (by decide)) (by intro _ _; rfl)) cmp_ne (by with_unfolding_all rfl)) (simB_cons (simS_ret (simE_if (simT_cmp (simE_idx (simE_var (i := 0) (by rfl) (by decide)) (simE_var (i := 2) (by rfl) (by decide)) (by intro _ _; rfl)) (simE_idx (simE_var (i := 1) (by rfl) (by decide)) (simE_var (i := 2) (by rfl) (by decide)) (by intro _ _; rfl)) cmp_lt (by with_unfolding_all rfl)) (simE_neg simE_int) simE_int))
  simB_nil) simB_nil)
  simB_nil) (by rfl) (by rfl) (by decide) (by intro _; rfl) (by intro _; rfl))
  (simB_cons (simS_ret simE_int)
  simB_nil)))) pu_compare) hl

end
end Mine
end

section
open PySem PySem.W PyProof.Rows PySem.Spec PySem.Calls
set_option linter.unusedVariables false
namespace Mine
section
variable {w : World} {mean : ExcName → Option Value} {mg mb : Str → Option Value} {hR : Heap}
set_option maxRecDepth 100000
theorem ok_divrem_limb {l : Nat} (hl : 2 ≤ l) : FnOk (cf w mean mg mb hR) l 60 P_divrem_limb :=
  FnOk.lift (l' := 2) (FnOk.mono (fn_ok (l := 1) (n := 3) ⟨⟨_, _, _, _, _, _, _, _, _, _, _, _, by rfl, by rfl, fun s a b c => BindsTo.of_eq rfl⟩, by decide, by decide, by decide, rfl, rfl, rfl, by decide⟩
    (simB_cons (simS_if (simT_cmp (simE_var (i := 1) (by rfl) (by decide)) simE_int cmp_eq (by with_unfolding_all rfl)) (simB_cons simS_never
  simB_nil) simB_nil)
  (simB_cons (simS_assign2 (i := 3) (j := 4) (simE_bin (simE_list (simA_cons simE_int simA_nil (by intro _; rfl))) (simE_callB nm.len_ (by intro _ h; cases h) (simA_cons (simE_var (i := 0) (by rfl) (by decide)) simA_nil (by intro _; rfl)) bf_len (by rfl) (by decide) (by intro _; rfl) (by intro _; rfl)) op_mul) simE_int (by rfl) (by rfl) (by intro _; rfl) (by intro _; rfl) (by intro _; rfl) (by (rintro ⟨⟩ rfl; rfl)))
  (simB_cons (simS_forR (i := 5) nm.range_ (simA_cons (simE_bin (simE_callB nm.len_ (by intro _ h; cases h) (simA_cons (simE_var (i := 0) (by rfl) (by decide)) simA_nil (by intro _; rfl)) bf_len (by rfl) (by decide) (by intro _; rfl) (by intro _; rfl)) simE_int op_sub) (simA_cons (simE_neg simE_int) (simA_cons (simE_neg simE_int) simA_nil (by intro _; rfl)) (by intro _; rfl)) (by intro _; rfl)) (simB_cons (simS_assign (i := 4) (simE_bin (simE_bin (simE_var (i := 4) (by rfl) (by decide)) (simE_var (i := 2) (by rfl) (by decide)) op_shl) (simE_idx (simE_var (i := 0) (by rfl) (by decide)) (simE_var (i := 5) (by rfl) (by decide)) (by intro _ _; rfl)) op_or) (by rfl) (by intro _; rfl))
  (simB_cons (simS_setIdx (simE_var (i := 3) (by rfl) (by decide)) (simE_var (i := 5) (by rfl) (by decide)) (simE_bin (simE_var (i := 4) (by rfl) (by decide)) (simE_var (i := 1) (by rfl) (by decide)) op_fdiv) (by intro _; rfl))
  (simB_cons (simS_aug (i := 4) (simE_var (i := 1) (by rfl) (by decide)) iop_mod (by rfl))
  simB_nil))) (by rfl) (by rfl) (by decide) (by intro _; rfl) (by intro _; rfl))
  (simB_cons (simS_ret (simE_tup (simA_cons (simE_call nm.normal (ok_normal (by decide)) (simA_cons (simE_var (i := 3) (by rfl) (by decide)) simA_nil (by intro _; rfl)) (by rfl) (by decide) (by intro _; rfl) (by intro _; rfl)) (simA_cons (simE_var (i := 4) (by rfl) (by decide)) simA_nil (by intro _; rfl)) (by intro _; rfl))))
  simB_nil))))) pu_divrem_limb) hl

theorem ok_shift_left {l : Nat} (hl : 1 ≤ l) : FnOk (cf w mean mg mb hR) l 67 P_shift_left :=
  FnOk.lift (l' := 1) (FnOk.mono (fn_ok (l := 0) (n := 3) ⟨⟨_, _, _, _, _, _, _, _, _, _, _, _, by rfl, by rfl, fun s a b c => BindsTo.of_eq rfl⟩, by decide, by decide, by decide, rfl, rfl, rfl, by decide⟩
    (simB_cons (simS_if (simT_cmp (simE_callB nm.len_ (by intro _ h; cases h) (simA_cons (simE_var (i := 0) (by rfl) (by decide)) simA_nil (by intro _; rfl)) bf_len (by rfl) (by decide) (by intro _; rfl) (by intro _; rfl)) simE_int cmp_eq (by with_unfolding_all rfl)) (simB_cons (simS_ret (simE_list simA_nil))
  simB_nil) simB_nil)
  (simB_cons (simS_assign2 (i := 3) (j := 4) (simE_bin (simE_var (i := 1) (by rfl) (by decide)) (simE_var (i := 2) (by rfl) (by decide)) op_fdiv) (simE_bin (simE_var (i := 1) (by rfl) (by decide)) (simE_var (i := 2) (by rfl) (by decide)) op_mod) (by rfl) (by rfl) (by intro _; rfl) (by intro _; rfl) (by intro _; rfl) (by (rintro ⟨⟩ rfl; rfl)))
  (simB_cons (simS_assign3 (i := 5) (j := 6) (r := 7) (simE_bin (simE_list (simA_cons simE_int simA_nil (by intro _; rfl))) (simE_var (i := 3) (by rfl) (by decide)) op_mul) simE_int (simE_bin (simE_bin simE_int (simE_var (i := 2) (by rfl) (by decide)) op_shl) simE_int op_sub) (by rfl) (by rfl) (by rfl) (by intro _; rfl) (by intro _; rfl) (by intro _; rfl) (by intro _; rfl) (by (rintro ⟨⟩ rfl; rfl)))
  (simB_cons (simS_forL (i := 8) (simE_var (i := 0) (by rfl) (by decide)) (simB_cons (simS_aug (i := 6) (simE_bin (simE_var (i := 8) (by rfl) (by decide)) (simE_var (i := 4) (by rfl) (by decide)) op_shl) iop_or (by rfl))
  (simB_cons (simS_expr (simE_app (simE_var (i := 5) (by rfl) (by decide)) (simE_bin (simE_var (i := 6) (by rfl) (by decide)) (simE_var (i := 7) (by rfl) (by decide)) op_and) (by intro _; exact ⟨_, rfl⟩) (by intro _; rfl)) (by intro _; rfl))
  (simB_cons (simS_aug (i := 6) (simE_var (i := 2) (by rfl) (by decide)) iop_shr (by rfl))
  simB_nil))) (by rfl) (by intro _ _; rfl))
  (simB_cons (simS_if (simT_cmp (simE_var (i := 6) (by rfl) (by decide)) simE_int cmp_gt (by with_unfolding_all rfl)) (simB_cons (simS_expr (simE_app (simE_var (i := 5) (by rfl) (by decide)) (simE_var (i := 6) (by rfl) (by decide)) (by intro _; exact ⟨_, rfl⟩) (by intro _; rfl)) (by intro _; rfl))
  simB_nil) simB_nil)
  (simB_cons (simS_ret (simE_var (i := 5) (by rfl) (by decide)))
  simB_nil))))))) pu_shift_left) hl

theorem ok_shift_right {l : Nat} (hl : 2 ≤ l) : FnOk (cf w mean mg mb hR) l 74 P_shift_right :=
  FnOk.lift (l' := 2) (FnOk.mono (fn_ok (l := 1) (n := 3) ⟨⟨_, _, _, _, _, _, _, _, _, _, _, _, by rfl, by rfl, fun s a b c => BindsTo.of_eq rfl⟩, by decide, by decide, by decide, rfl, rfl, rfl, by decide⟩
    (simB_cons (simS_assign2 (i := 3) (j := 4) (simE_bin (simE_var (i := 1) (by rfl) (by decide)) (simE_var (i := 2) (by rfl) (by decide)) op_fdiv) (simE_bin (simE_var (i := 1) (by rfl) (by decide)) (simE_var (i := 2) (by rfl) (by decide)) op_mod) (by rfl) (by rfl) (by intro _; rfl) (by intro _; rfl) (by intro _; rfl) (by (rintro ⟨⟩ rfl; rfl)))
  (simB_cons (simS_assign2 (i := 5) (j := 6) (simE_list simA_nil) (simE_bin (simE_bin simE_int (simE_var (i := 2) (by rfl) (by decide)) op_shl) simE_int op_sub) (by rfl) (by rfl) (by intro _; rfl) (by intro _; rfl) (by intro _; rfl) (by (rintro ⟨⟩ rfl; rfl)))
  (simB_cons (simS_forR (i := 7) nm.range_ (simA_cons (simE_var (i := 3) (by rfl) (by decide)) (simA_cons (simE_callB nm.len_ (by intro _ h; cases h) (simA_cons (simE_var (i := 0) (by rfl) (by decide)) simA_nil (by intro _; rfl)) bf_len (by rfl) (by decide) (by intro _; rfl) (by intro _; rfl)) simA_nil (by intro _; rfl)) (by intro _; rfl)) (simB_cons (simS_assign (i := 8) (simE_if (simT_cmp (simE_bin (simE_var (i := 7) (by rfl) (by decide)) simE_int op_add) (simE_callB nm.len_ (by intro _ h; cases h) (simA_cons (simE_var (i := 0) (by rfl) (by decide)) simA_nil (by intro _; rfl)) bf_len (by rfl) (by decide) (by intro _; rfl) (by intro _; rfl)) cmp_lt (by with_unfolding_all rfl)) (simE_idx (simE_var (i := 0) (by rfl) (by decide)) (simE_bin (simE_var (i := 7) (by rfl) (by decide)) simE_int op_add) (by intro _ _; rfl)) simE_int) (by rfl) (by intro _; rfl))
  (simB_cons (simS_expr (simE_app (simE_var (i := 5) (by rfl) (by decide)) (simE_bin (simE_bin (simE_bin (simE_idx (simE_var (i := 0) (by rfl) (by decide)) (simE_var (i := 7) (by rfl) (by decide)) (by intro _ _; rfl)) (simE_var (i := 4) (by rfl) (by decide)) op_shr) (simE_bin (simE_var (i := 8) (by rfl) (by decide)) (simE_bin (simE_var (i := 2) (by rfl) (by decide)) (simE_var (i := 4) (by rfl) (by decide)) op_sub) op_shl) op_or) (simE_var (i := 6) (by rfl) (by decide)) op_and) (by intro _; exact ⟨_, rfl⟩) (by intro _; rfl)) (by intro _; rfl))
  simB_nil)) (by rfl) (by rfl) (by decide) (by intro _; rfl) (by intro _; rfl))
  (simB_cons (simS_ret (simE_call nm.normal (ok_normal (by decide)) (simA_cons (simE_var (i := 5) (by rfl) (by decide)) simA_nil (by intro _; rfl)) (by rfl) (by decide) (by intro _; rfl) (by intro _; rfl)))
  simB_nil))))) pu_shift_right) hl

theorem ok_bits {l : Nat} (hl : 1 ≤ l) : FnOk (cf w mean mg mb hR) l 81 P_bits :=
  FnOk.lift (l' := 1) (FnOk.mono (fn_ok (l := 0) (n := 2) ⟨⟨_, _, _, _, _, _, _, _, _, _, _, _, by rfl, by rfl, fun s a b => BindsTo.of_eq rfl⟩, by decide, by decide, by decide, rfl, rfl, rfl, by decide⟩
    (simB_cons (simS_ret (simE_if (simT_cmp (simE_callB nm.len_ (by intro _ h; cases h) (simA_cons (simE_var (i := 0) (by rfl) (by decide)) simA_nil (by intro _; rfl)) bf_len (by rfl) (by decide) (by intro _; rfl) (by intro _; rfl)) simE_int cmp_gt (by with_unfolding_all rfl)) (simE_bin (simE_bin (simE_bin (simE_callB nm.len_ (by intro _ h; cases h) (simA_cons (simE_var (i := 0) (by rfl) (by decide)) simA_nil (by intro _; rfl)) bf_len (by rfl) (by decide) (by intro _; rfl) (by intro _; rfl)) simE_int op_sub) (simE_var (i := 1) (by rfl) (by decide)) op_mul) (simE_bits (simE_idx (simE_var (i := 0) (by rfl) (by decide)) (simE_neg simE_int) (by intro _ _; rfl)) (by intro _; exact ⟨_, rfl⟩)) op_add) simE_int))
  simB_nil)) pu_bits) hl

theorem ok_divrem_small {l : Nat} (hl : 3 ≤ l) : FnOk (cf w mean mg mb hR) l 88 P_divrem_small :=
  FnOk.lift (l' := 3) (FnOk.mono (fn_ok (l := 2) (n := 3) ⟨⟨_, _, _, _, _, _, _, _, _, _, _, _, by rfl, by rfl, fun s a b c => BindsTo.of_eq rfl⟩, by decide, by decide, by decide, rfl, rfl, rfl, by decide⟩
    (simB_cons (simS_unpack (i := 3) (j := 4) (simE_call nm.divrem_limb (ok_divrem_limb (by decide)) (simA_cons (simE_var (i := 0) (by rfl) (by decide)) (simA_cons (simE_idx (simE_var (i := 1) (by rfl) (by decide)) simE_int (by intro _ _; rfl)) (simA_cons (simE_var (i := 2) (by rfl) (by decide)) simA_nil (by intro _; rfl)) (by intro _; rfl)) (by intro _; rfl)) (by rfl) (by decide) (by intro _; rfl) (by intro _; rfl)) (by rfl) (by rfl) (by intro _; rfl) (by (rintro ⟨⟩ rfl; rfl)))
  (simB_cons (simS_ret (simE_tup (simA_cons (simE_var (i := 3) (by rfl) (by decide)) (simA_cons (simE_if (simT_cmp (simE_var (i := 4) (by rfl) (by decide)) simE_int cmp_gt (by with_unfolding_all rfl)) (simE_list (simA_cons (simE_var (i := 4) (by rfl) (by decide)) simA_nil (by intro _; rfl))) (simE_list simA_nil)) simA_nil (by intro _; rfl)) (by intro _; rfl))))
  simB_nil))) pu_divrem_small) hl

theorem ok_guessed_limb {l : Nat} (hl : 1 ≤ l) : FnOk (cf w mean mg mb hR) l 95 P_guessed_limb :=
  FnOk.lift (l' := 1) (FnOk.mono (fn_ok (l := 0) (n := 4) ⟨⟨_, _, _, _, _, _, _, _, _, _, _, _, by rfl, by rfl, fun s a b c d => BindsTo.of_eq rfl⟩, by decide, by decide, by decide, rfl, rfl, rfl, by decide⟩
    (simB_cons (simS_assign2 (i := 4) (j := 5) (simE_bin (simE_bin (simE_idx (simE_var (i := 0) (by rfl) (by decide)) simE_int (by intro _ _; rfl)) (simE_var (i := 3) (by rfl) (by decide)) op_shl) (simE_idx (simE_var (i := 0) (by rfl) (by decide)) simE_int (by intro _ _; rfl)) op_or) (simE_bin simE_int (simE_var (i := 3) (by rfl) (by decide)) op_shl) (by rfl) (by rfl) (by intro _; rfl) (by intro _; rfl) (by intro _; rfl) (by (rintro ⟨⟩ rfl; rfl)))
  (simB_cons (simS_assign (i := 6) (simE_callB nm.min_ (by intro _ h; cases h) (simA_cons (simE_bin (simE_var (i := 4) (by rfl) (by decide)) (simE_var (i := 1) (by rfl) (by decide)) op_fdiv) (simA_cons (simE_bin (simE_var (i := 5) (by rfl) (by decide)) simE_int op_sub) simA_nil (by intro _; rfl)) (by intro _; rfl)) bf_min (by rfl) (by decide) (by intro _; rfl) (by intro _; rfl)) (by rfl) (by intro _; rfl))
  (simB_cons (simS_assign (i := 7) (simE_bin (simE_var (i := 4) (by rfl) (by decide)) (simE_bin (simE_var (i := 6) (by rfl) (by decide)) (simE_var (i := 1) (by rfl) (by decide)) op_mul) op_sub) (by rfl) (by intro _; rfl))
  (simB_cons (simS_while (simT_and (simT_cmp (simE_var (i := 7) (by rfl) (by decide)) (simE_var (i := 5) (by rfl) (by decide)) cmp_lt (by with_unfolding_all rfl)) (simT_and (simT_cmp (simE_bin (simE_var (i := 6) (by rfl) (by decide)) (simE_var (i := 2) (by rfl) (by decide)) op_mul) (simE_bin (simE_bin (simE_var (i := 7) (by rfl) (by decide)) (simE_var (i := 3) (by rfl) (by decide)) op_shl) (simE_idx (simE_var (i := 0) (by rfl) (by decide)) simE_int (by intro _ _; rfl)) op_or) cmp_gt (by with_unfolding_all rfl)) simT_and_nil)) (simB_cons (simS_aug (i := 6) simE_int iop_sub (by rfl))
  (simB_cons (simS_aug (i := 7) (simE_var (i := 1) (by rfl) (by decide)) iop_add (by rfl))
  simB_nil)))
  (simB_cons (simS_ret (simE_var (i := 6) (by rfl) (by decide)))
  simB_nil)))))) pu_guessed_limb) hl

theorem ok_take_away {l : Nat} (hl : 1 ≤ l) : FnOk (cf w mean mg mb hR) l 102 P_take_away :=
  FnOk.lift (l' := 1) (FnOk.mono (fn_ok (l := 0) (n := 5) ⟨⟨_, _, _, _, _, _, _, _, _, _, _, _, by rfl, by rfl, fun s a b c d e => BindsTo.of_eq rfl⟩, by decide, by decide, by decide, rfl, rfl, rfl, by decide⟩
    (simB_cons (simS_assign2 (i := 5) (j := 6) simE_int (simE_bin simE_int (simE_var (i := 4) (by rfl) (by decide)) op_shl) (by rfl) (by rfl) (by intro _; rfl) (by intro _; rfl) (by intro _; rfl) (by (rintro ⟨⟩ rfl; rfl)))
  (simB_cons (simS_forE (i := 7) (j := 8) nm.enumerate_ (simE_var (i := 1) (by rfl) (by decide)) (simB_cons (simS_assign (i := 9) (simE_bin (simE_idx (simE_var (i := 0) (by rfl) (by decide)) (simE_bin (simE_var (i := 3) (by rfl) (by decide)) (simE_var (i := 7) (by rfl) (by decide)) op_add) (by intro _ _; rfl)) (simE_bin (simE_bin (simE_bin (simE_var (i := 2) (by rfl) (by decide)) (simE_var (i := 8) (by rfl) (by decide)) op_mul) (simE_var (i := 5) (by rfl) (by decide)) op_add) (simE_var (i := 6) (by rfl) (by decide)) op_mod) op_sub) (by rfl) (by intro _; rfl))
  (simB_cons (simS_assign (i := 5) (simE_bin (simE_bin (simE_bin (simE_bin (simE_var (i := 2) (by rfl) (by decide)) (simE_var (i := 8) (by rfl) (by decide)) op_mul) (simE_var (i := 5) (by rfl) (by decide)) op_add) (simE_var (i := 6) (by rfl) (by decide)) op_fdiv) (simE_if (simT_cmp (simE_var (i := 9) (by rfl) (by decide)) simE_int cmp_lt (by with_unfolding_all rfl)) simE_int simE_int) op_add) (by rfl) (by intro _; rfl))
  (simB_cons (simS_setIdx (simE_var (i := 0) (by rfl) (by decide)) (simE_bin (simE_var (i := 3) (by rfl) (by decide)) (simE_var (i := 7) (by rfl) (by decide)) op_add) (simE_if (simT_cmp (simE_var (i := 9) (by rfl) (by decide)) simE_int cmp_lt (by with_unfolding_all rfl)) (simE_bin (simE_var (i := 9) (by rfl) (by decide)) (simE_var (i := 6) (by rfl) (by decide)) op_add) (simE_var (i := 9) (by rfl) (by decide))) (by intro _; rfl))
  simB_nil))) (by rfl) (by rfl) (by rfl) (by decide) (by intro _; rfl))
  (simB_cons (simS_assign (i := 9) (simE_bin (simE_idx (simE_var (i := 0) (by rfl) (by decide)) (simE_bin (simE_var (i := 3) (by rfl) (by decide)) (simE_callB nm.len_ (by intro _ h; cases h) (simA_cons (simE_var (i := 1) (by rfl) (by decide)) simA_nil (by intro _; rfl)) bf_len (by rfl) (by decide) (by intro _; rfl) (by intro _; rfl)) op_add) (by intro _ _; rfl)) (simE_var (i := 5) (by rfl) (by decide)) op_sub) (by rfl) (by intro _; rfl))
  (simB_cons (simS_setIdx (simE_var (i := 0) (by rfl) (by decide)) (simE_bin (simE_var (i := 3) (by rfl) (by decide)) (simE_callB nm.len_ (by intro _ h; cases h) (simA_cons (simE_var (i := 1) (by rfl) (by decide)) simA_nil (by intro _; rfl)) bf_len (by rfl) (by decide) (by intro _; rfl) (by intro _; rfl)) op_add) (simE_if (simT_cmp (simE_var (i := 9) (by rfl) (by decide)) simE_int cmp_lt (by with_unfolding_all rfl)) (simE_bin (simE_var (i := 9) (by rfl) (by decide)) (simE_var (i := 6) (by rfl) (by decide)) op_add) (simE_var (i := 9) (by rfl) (by decide))) (by intro _; rfl))
  (simB_cons (simS_ret (simE_if (simT_cmp (simE_var (i := 9) (by rfl) (by decide)) simE_int cmp_lt (by with_unfolding_all rfl)) simE_int simE_int))
  simB_nil)))))) pu_take_away) hl

theorem ok_put_back {l : Nat} (hl : 1 ≤ l) : FnOk (cf w mean mg mb hR) l 109 P_put_back :=
  FnOk.lift (l' := 1) (FnOk.mono (fn_ok (l := 0) (n := 4) ⟨⟨_, _, _, _, _, _, _, _, _, _, _, _, by rfl, by rfl, fun s a b c d => BindsTo.of_eq rfl⟩, by decide, by decide, by decide, rfl, rfl, rfl, by decide⟩
    (simB_cons (simS_assign2 (i := 4) (j := 5) simE_int (simE_bin (simE_bin simE_int (simE_var (i := 3) (by rfl) (by decide)) op_shl) simE_int op_sub) (by rfl) (by rfl) (by intro _; rfl) (by intro _; rfl) (by intro _; rfl) (by (rintro ⟨⟩ rfl; rfl)))
  (simB_cons (simS_forE (i := 6) (j := 7) nm.enumerate_ (simE_var (i := 1) (by rfl) (by decide)) (simB_cons (simS_aug (i := 4) (simE_bin (simE_idx (simE_var (i := 0) (by rfl) (by decide)) (simE_bin (simE_var (i := 2) (by rfl) (by decide)) (simE_var (i := 6) (by rfl) (by decide)) op_add) (by intro _ _; rfl)) (simE_var (i := 7) (by rfl) (by decide)) op_add) iop_add (by rfl))
  (simB_cons (simS_setIdx (simE_var (i := 0) (by rfl) (by decide)) (simE_bin (simE_var (i := 2) (by rfl) (by decide)) (simE_var (i := 6) (by rfl) (by decide)) op_add) (simE_bin (simE_var (i := 4) (by rfl) (by decide)) (simE_var (i := 5) (by rfl) (by decide)) op_and) (by intro _; rfl))
  (simB_cons (simS_aug (i := 4) (simE_var (i := 3) (by rfl) (by decide)) iop_shr (by rfl))
  simB_nil))) (by rfl) (by rfl) (by rfl) (by decide) (by intro _; rfl))
  (simB_cons (simS_setIdx (simE_var (i := 0) (by rfl) (by decide)) (simE_bin (simE_var (i := 2) (by rfl) (by decide)) (simE_callB nm.len_ (by intro _ h; cases h) (simA_cons (simE_var (i := 1) (by rfl) (by decide)) simA_nil (by intro _; rfl)) bf_len (by rfl) (by decide) (by intro _; rfl) (by intro _; rfl)) op_add) (simE_bin (simE_bin (simE_idx (simE_var (i := 0) (by rfl) (by decide)) (simE_bin (simE_var (i := 2) (by rfl) (by decide)) (simE_callB nm.len_ (by intro _ h; cases h) (simA_cons (simE_var (i := 1) (by rfl) (by decide)) simA_nil (by intro _; rfl)) bf_len (by rfl) (by decide) (by intro _; rfl) (by intro _; rfl)) op_add) (by intro _ _; rfl)) (simE_var (i := 4) (by rfl) (by decide)) op_add) (simE_var (i := 5) (by rfl) (by decide)) op_and) (by intro _; rfl))
  simB_nil)))) pu_put_back) hl

theorem ok_divide_rows {l : Nat} (hl : 2 ≤ l) : FnOk (cf w mean mg mb hR) l 116 P_divide_rows :=
  FnOk.lift (l' := 2) (FnOk.mono (fn_ok (l := 1) (n := 3) ⟨⟨_, _, _, _, _, _, _, _, _, _, _, _, by rfl, by rfl, fun s a b c => BindsTo.of_eq rfl⟩, by decide, by decide, by decide, rfl, rfl, rfl, by decide⟩
    (simB_cons (simS_assign (i := 3) (simE_callB nm.len_ (by intro _ h; cases h) (simA_cons (simE_var (i := 1) (by rfl) (by decide)) simA_nil (by intro _; rfl)) bf_len (by rfl) (by decide) (by intro _; rfl) (by intro _; rfl)) (by rfl) (by intro _; rfl))
  (simB_cons (simS_assign (i := 4) (simE_bin (simE_list (simA_cons simE_int simA_nil (by intro _; rfl))) (simE_bin (simE_callB nm.len_ (by intro _ h; cases h) (simA_cons (simE_var (i := 0) (by rfl) (by decide)) simA_nil (by intro _; rfl)) bf_len (by rfl) (by decide) (by intro _; rfl) (by intro _; rfl)) (simE_var (i := 3) (by rfl) (by decide)) op_sub) op_mul) (by rfl) (by intro _; rfl))
  (simB_cons (simS_forR (i := 5) nm.range_ (simA_cons (simE_bin (simE_bin (simE_callB nm.len_ (by intro _ h; cases h) (simA_cons (simE_var (i := 0) (by rfl) (by decide)) simA_nil (by intro _; rfl)) bf_len (by rfl) (by decide) (by intro _; rfl) (by intro _; rfl)) (simE_var (i := 3) (by rfl) (by decide)) op_sub) simE_int op_sub) (simA_cons (simE_neg simE_int) (simA_cons (simE_neg simE_int) simA_nil (by intro _; rfl)) (by intro _; rfl)) (by intro _; rfl)) (simB_cons (simS_assign (i := 6) (simE_call nm.guessed_limb (ok_guessed_limb (by decide)) (simA_cons (simE_slice (simE_var (i := 0) (by rfl) (by decide)) (simO_some (simE_bin (simE_bin (simE_var (i := 5) (by rfl) (by decide)) (simE_var (i := 3) (by rfl) (by decide)) op_add) simE_int op_sub)) (simO_some (simE_bin (simE_bin (simE_var (i := 5) (by rfl) (by decide)) (simE_var (i := 3) (by rfl) (by decide)) op_add) simE_int op_add))) (simA_cons (simE_idx (simE_var (i := 1) (by rfl) (by decide)) (simE_bin (simE_var (i := 3) (by rfl) (by decide)) simE_int op_sub) (by intro _ _; rfl)) (simA_cons (simE_idx (simE_var (i := 1) (by rfl) (by decide)) (simE_bin (simE_var (i := 3) (by rfl) (by decide)) simE_int op_sub) (by intro _ _; rfl)) (simA_cons (simE_var (i := 2) (by rfl) (by decide)) simA_nil (by intro _; rfl)) (by intro _; rfl)) (by intro _; rfl)) (by intro _; rfl)) (by rfl) (by decide) (by intro _; rfl) (by intro _; rfl)) (by rfl) (by intro _; rfl))
  (simB_cons (simS_if (simT_cmp (simE_call nm.take_away (ok_take_away (by decide)) (simA_cons (simE_var (i := 0) (by rfl) (by decide)) (simA_cons (simE_var (i := 1) (by rfl) (by decide)) (simA_cons (simE_var (i := 6) (by rfl) (by decide)) (simA_cons (simE_var (i := 5) (by rfl) (by decide)) (simA_cons (simE_var (i := 2) (by rfl) (by decide)) simA_nil (by intro _; rfl)) (by intro _; rfl)) (by intro _; rfl)) (by intro _; rfl)) (by intro _; rfl)) (by rfl) (by decide) (by intro _; rfl) (by intro _; rfl)) simE_int cmp_eq (by with_unfolding_all rfl)) (simB_cons (simS_aug (i := 6) simE_int iop_sub (by rfl))
  (simB_cons (simS_expr (simE_call nm.put_back (ok_put_back (by decide)) (simA_cons (simE_var (i := 0) (by rfl) (by decide)) (simA_cons (simE_var (i := 1) (by rfl) (by decide)) (simA_cons (simE_var (i := 5) (by rfl) (by decide)) (simA_cons (simE_var (i := 2) (by rfl) (by decide)) simA_nil (by intro _; rfl)) (by intro _; rfl)) (by intro _; rfl)) (by intro _; rfl)) (by rfl) (by decide) (by intro _; rfl) (by intro _; rfl)) (by intro _; rfl))
  simB_nil)) simB_nil)
  (simB_cons (simS_setIdx (simE_var (i := 4) (by rfl) (by decide)) (simE_var (i := 5) (by rfl) (by decide)) (simE_var (i := 6) (by rfl) (by decide)) (by intro _; rfl))
  simB_nil))) (by rfl) (by rfl) (by decide) (by intro _; rfl) (by intro _; rfl))
  (simB_cons (simS_ret (simE_var (i := 4) (by rfl) (by decide)))
  simB_nil))))) pu_divide_rows) hl

theorem ok_divrem_school {l : Nat} (hl : 4 ≤ l) : FnOk (cf w mean mg mb hR) l 123 P_divrem_school :=
  FnOk.lift (l' := 4) (FnOk.mono (fn_ok (l := 3) (n := 3) ⟨⟨_, _, _, _, _, _, _, _, _, _, _, _, by rfl, by rfl, fun s a b c => BindsTo.of_eq rfl⟩, by decide, by decide, by decide, rfl, rfl, rfl, by decide⟩
    (simB_cons (simS_if (simT_cmp (simE_callB nm.len_ (by intro _ h; cases h) (simA_cons (simE_var (i := 1) (by rfl) (by decide)) simA_nil (by intro _; rfl)) bf_len (by rfl) (by decide) (by intro _; rfl) (by intro _; rfl)) simE_int cmp_eq (by with_unfolding_all rfl)) (simB_cons simS_never
  simB_nil) simB_nil)
  (simB_cons (simS_if (simT_cmp (simE_call nm.compare (ok_compare (by decide)) (simA_cons (simE_var (i := 0) (by rfl) (by decide)) (simA_cons (simE_var (i := 1) (by rfl) (by decide)) simA_nil (by intro _; rfl)) (by intro _; rfl)) (by rfl) (by decide) (by intro _; rfl) (by intro _; rfl)) simE_int cmp_lt (by with_unfolding_all rfl)) (simB_cons (simS_ret (simE_tup (simA_cons (simE_list simA_nil) (simA_cons (simE_slice (simE_var (i := 0) (by rfl) (by decide)) simO_none simO_none) simA_nil (by intro _; rfl)) (by intro _; rfl))))
  simB_nil) simB_nil)
  (simB_cons (simS_if (simT_cmp (simE_callB nm.len_ (by intro _ h; cases h) (simA_cons (simE_var (i := 1) (by rfl) (by decide)) simA_nil (by intro _; rfl)) bf_len (by rfl) (by decide) (by intro _; rfl) (by intro _; rfl)) simE_int cmp_eq (by with_unfolding_all rfl)) (simB_cons (simS_ret (simE_call nm.divrem_small (ok_divrem_small (by decide)) (simA_cons (simE_var (i := 0) (by rfl) (by decide)) (simA_cons (simE_var (i := 1) (by rfl) (by decide)) (simA_cons (simE_var (i := 2) (by rfl) (by decide)) simA_nil (by intro _; rfl)) (by intro _; rfl)) (by intro _; rfl)) (by rfl) (by decide) (by intro _; rfl) (by intro _; rfl)))
  simB_nil) simB_nil)
  (simB_cons (simS_assign (i := 3) (simE_bin (simE_var (i := 2) (by rfl) (by decide)) (simE_call nm.bits (ok_bits (by decide)) (simA_cons (simE_list (simA_cons (simE_idx (simE_var (i := 1) (by rfl) (by decide)) (simE_neg simE_int) (by intro _ _; rfl)) simA_nil (by intro _; rfl))) (simA_cons (simE_var (i := 2) (by rfl) (by decide)) simA_nil (by intro _; rfl)) (by intro _; rfl)) (by rfl) (by decide) (by intro _; rfl) (by intro _; rfl)) op_sub) (by rfl) (by intro _; rfl))
  (simB_cons (simS_assign (i := 4) (simE_call nm.shift_left (ok_shift_left (by decide)) (simA_cons (simE_var (i := 1) (by rfl) (by decide)) (simA_cons (simE_var (i := 3) (by rfl) (by decide)) (simA_cons (simE_var (i := 2) (by rfl) (by decide)) simA_nil (by intro _; rfl)) (by intro _; rfl)) (by intro _; rfl)) (by rfl) (by decide) (by intro _; rfl) (by intro _; rfl)) (by rfl) (by intro _; rfl))
  (simB_cons (simS_assign (i := 5) (simE_call nm.shift_left (ok_shift_left (by decide)) (simA_cons (simE_var (i := 0) (by rfl) (by decide)) (simA_cons (simE_var (i := 3) (by rfl) (by decide)) (simA_cons (simE_var (i := 2) (by rfl) (by decide)) simA_nil (by intro _; rfl)) (by intro _; rfl)) (by intro _; rfl)) (by rfl) (by decide) (by intro _; rfl) (by intro _; rfl)) (by rfl) (by intro _; rfl))
  (simB_cons (simS_assign (i := 5) (simE_bin (simE_var (i := 5) (by rfl) (by decide)) (simE_bin (simE_list (simA_cons simE_int simA_nil (by intro _; rfl))) (simE_bin (simE_bin (simE_callB nm.len_ (by intro _ h; cases h) (simA_cons (simE_var (i := 0) (by rfl) (by decide)) simA_nil (by intro _; rfl)) bf_len (by rfl) (by decide) (by intro _; rfl) (by intro _; rfl)) simE_int op_add) (simE_callB nm.len_ (by intro _ h; cases h) (simA_cons (simE_var (i := 5) (by rfl) (by decide)) simA_nil (by intro _; rfl)) bf_len (by rfl) (by decide) (by intro _; rfl) (by intro _; rfl)) op_sub) op_mul) op_add) (by rfl) (by intro _; rfl))
  (simB_cons (simS_assign (i := 6) (simE_call nm.divide_rows (ok_divide_rows (by decide)) (simA_cons (simE_var (i := 5) (by rfl) (by decide)) (simA_cons (simE_var (i := 4) (by rfl) (by decide)) (simA_cons (simE_var (i := 2) (by rfl) (by decide)) simA_nil (by intro _; rfl)) (by intro _; rfl)) (by intro _; rfl)) (by rfl) (by decide) (by intro _; rfl) (by intro _; rfl)) (by rfl) (by intro _; rfl))
  (simB_cons (simS_ret (simE_tup (simA_cons (simE_call nm.normal (ok_normal (by decide)) (simA_cons (simE_var (i := 6) (by rfl) (by decide)) simA_nil (by intro _; rfl)) (by rfl) (by decide) (by intro _; rfl) (by intro _; rfl)) (simA_cons (simE_call nm.shift_right (ok_shift_right (by decide)) (simA_cons (simE_call nm.normal (ok_normal (by decide)) (simA_cons (simE_var (i := 5) (by rfl) (by decide)) simA_nil (by intro _; rfl)) (by rfl) (by decide) (by intro _; rfl) (by intro _; rfl)) (simA_cons (simE_var (i := 3) (by rfl) (by decide)) (simA_cons (simE_var (i := 2) (by rfl) (by decide)) simA_nil (by intro _; rfl)) (by intro _; rfl)) (by intro _; rfl)) (by rfl) (by decide) (by intro _; rfl) (by intro _; rfl)) simA_nil (by intro _; rfl)) (by intro _; rfl))))
  simB_nil)))))))))) pu_divrem_school) hl

theorem ok_law_draw {l : Nat} (hl : 1 ≤ l) : FnOk (cf w mean mg mb hR) l 130 P_law_draw :=
  FnOk.lift (l' := 1) (FnOk.mono (fn_ok (l := 0) (n := 2) ⟨⟨_, _, _, _, _, _, _, _, _, _, _, _, by rfl, by rfl, fun s a b => BindsTo.of_eq rfl⟩, by decide, by decide, by decide, rfl, rfl, rfl, by decide⟩
    (simB_cons (simS_if (simT_cmp (simE_idx (simE_var (i := 0) (by rfl) (by decide)) simE_int (by intro _ _; rfl)) (simE_callB nm.len_ (by intro _ h; cases h) (simA_cons (simE_idx (simE_var (i := 0) (by rfl) (by decide)) simE_int (by intro _ _; rfl)) simA_nil (by intro _; rfl)) bf_len (by rfl) (by decide) (by intro _; rfl) (by intro _; rfl)) cmp_lt (by with_unfolding_all rfl)) (simB_cons (simS_setIdx (simE_var (i := 0) (by rfl) (by decide)) simE_int (simE_bin (simE_idx (simE_var (i := 0) (by rfl) (by decide)) simE_int (by intro _ _; rfl)) simE_int op_add) (by intro _; rfl))
  (simB_cons (simS_ret (simE_bin (simE_idx (simE_idx (simE_var (i := 0) (by rfl) (by decide)) simE_int (by intro _ _; rfl)) (simE_bin (simE_idx (simE_var (i := 0) (by rfl) (by decide)) simE_int (by intro _ _; rfl)) simE_int op_sub) (by intro _ _; rfl)) (simE_var (i := 1) (by rfl) (by decide)) op_mod))
  simB_nil)) simB_nil)
  (simB_cons (simS_setIdx (simE_var (i := 0) (by rfl) (by decide)) simE_int (simE_bin (simE_bin (simE_bin (simE_idx (simE_var (i := 0) (by rfl) (by decide)) simE_int (by intro _ _; rfl)) simE_int op_mul) simE_int op_add) simE_int op_mod) (by intro _; rfl))
  (simB_cons (simS_ret (simE_bin (simE_bin (simE_idx (simE_var (i := 0) (by rfl) (by decide)) simE_int (by intro _ _; rfl)) simE_int op_fdiv) (simE_var (i := 1) (by rfl) (by decide)) op_mod))
  simB_nil)))) pu_law_draw) hl

theorem ok_law_row {l : Nat} (hl : 1 ≤ l) : FnOk (cf w mean mg mb hR) l 142 P_law_row :=
  FnOk.lift (l' := 1) (FnOk.mono (fn_ok (l := 0) (n := 2) ⟨⟨_, _, _, _, _, _, _, _, _, _, _, _, by rfl, by rfl, fun s a b => BindsTo.of_eq rfl⟩, by decide, by decide, by decide, rfl, rfl, rfl, by decide⟩
    (simB_cons (simS_assign (i := 2) (simE_list simA_nil) (by rfl) (by intro _; rfl))
  (simB_cons (simS_while (simT_cmp (simE_var (i := 0) (by rfl) (by decide)) simE_int cmp_gt (by with_unfolding_all rfl)) (simB_cons (simS_expr (simE_app (simE_var (i := 2) (by rfl) (by decide)) (simE_bin (simE_var (i := 0) (by rfl) (by decide)) (simE_bin simE_int (simE_var (i := 1) (by rfl) (by decide)) op_pow) op_mod) (by intro _; exact ⟨_, rfl⟩) (by intro _; rfl)) (by intro _; rfl))
  (simB_cons (simS_assign (i := 0) (simE_bin (simE_var (i := 0) (by rfl) (by decide)) (simE_bin simE_int (simE_var (i := 1) (by rfl) (by decide)) op_pow) op_fdiv) (by rfl) (by intro _; rfl))
  simB_nil)))
  (simB_cons (simS_ret (simE_var (i := 2) (by rfl) (by decide)))
  simB_nil)))) pu_law_row) hl

theorem ok_law_number {l : Nat} (hl : 2 ≤ l) : FnOk (cf w mean mg mb hR) l 154 P_law_number :=
  FnOk.lift (l' := 2) (FnOk.mono (fn_ok (l := 1) (n := 3) ⟨⟨_, _, _, _, _, _, _, _, _, _, _, _, by rfl, by rfl, fun s a b c => BindsTo.of_eq rfl⟩, by decide, by decide, by decide, rfl, rfl, rfl, by decide⟩
    (simB_cons (simS_assign (i := 3) simE_int (by rfl) (by intro _; rfl))
  (simB_cons (simS_forR (i := 4) nm.range_ (simA_cons (simE_call nm.law_draw (ok_law_draw (by decide)) (simA_cons (simE_var (i := 0) (by rfl) (by decide)) (simA_cons (simE_bin (simE_var (i := 2) (by rfl) (by decide)) simE_int op_add) simA_nil (by intro _; rfl)) (by intro _; rfl)) (by rfl) (by decide) (by intro _; rfl) (by intro _; rfl)) simA_nil (by intro _; rfl)) (simB_cons (simS_assign (i := 5) (simE_idx (simE_list (simA_cons simE_int (simA_cons (simE_bin (simE_bin simE_int (simE_var (i := 1) (by rfl) (by decide)) op_pow) simE_int op_sub) (simA_cons simE_int (simA_cons (simE_call nm.law_draw (ok_law_draw (by decide)) (simA_cons (simE_var (i := 0) (by rfl) (by decide)) (simA_cons (simE_bin simE_int (simE_var (i := 1) (by rfl) (by decide)) op_pow) simA_nil (by intro _; rfl)) (by intro _; rfl)) (by rfl) (by decide) (by intro _; rfl) (by intro _; rfl)) (simA_cons (simE_bin (simE_bin simE_int (simE_var (i := 1) (by rfl) (by decide)) op_pow) simE_int op_sub) (simA_cons (simE_bin simE_int (simE_bin (simE_var (i := 1) (by rfl) (by decide)) simE_int op_sub) op_pow) simA_nil (by intro _; rfl)) (by intro _; rfl)) (by intro _; rfl)) (by intro _; rfl)) (by intro _; rfl)) (by intro _; rfl))) (simE_call nm.law_draw (ok_law_draw (by decide)) (simA_cons (simE_var (i := 0) (by rfl) (by decide)) (simA_cons simE_int simA_nil (by intro _; rfl)) (by intro _; rfl)) (by rfl) (by decide) (by intro _; rfl) (by intro _; rfl)) (by intro _ _; rfl)) (by rfl) (by intro _; rfl))
  (simB_cons (simS_assign (i := 3) (simE_bin (simE_bin (simE_var (i := 3) (by rfl) (by decide)) (simE_bin simE_int (simE_var (i := 1) (by rfl) (by decide)) op_pow) op_mul) (simE_var (i := 5) (by rfl) (by decide)) op_add) (by rfl) (by intro _; rfl))
  simB_nil)) (by rfl) (by rfl) (by decide) (by intro _; rfl) (by intro _; rfl))
  (simB_cons (simS_ret (simE_var (i := 3) (by rfl) (by decide)))
  simB_nil)))) pu_law_number) hl

end
end Mine
end

section
open PySem PySem.W PyProof.Rows PySem.Spec PySem.Calls
set_option linter.unusedVariables false
namespace Mine
section
variable {w : World} {mean : ExcName → Option Value} {mg mb : Str → Option Value} {hR : Heap}
set_option maxRecDepth 100000
theorem nm.abs_ : BName (cf w mean mg mb hR) (Str.ofString "abs") (.builtin "abs") := ⟨by show nsIn (Mine.hd.heap_39 w.params) mainGlobals (Str.ofString "abs") = some none; rfl, boot_abs, by decide⟩
theorem nm.sum_ : BName (cf w mean mg mb hR) (Str.ofString "sum") (.builtin "sum") := ⟨by show nsIn (Mine.hd.heap_39 w.params) mainGlobals (Str.ofString "sum") = some none; rfl, boot_sum, by decide⟩
theorem nm.int_ : BName (cf w mean mg mb hR) (Str.ofString "int") (.type "int") := ⟨by show nsIn (Mine.hd.heap_39 w.params) mainGlobals (Str.ofString "int") = some none; rfl, boot_int, by decide⟩

theorem ok_law_pool {l : Nat} (hl : 2 ≤ l) : FnOk (cf w mean mg mb hR) l 135 P_law_pool :=
  FnOk.lift (l' := 2) (FnOk.mono (fn_ok (l := 1) (n := 1) ⟨⟨_, _, _, _, _, _, _, _, _, _, _, _, by rfl, by rfl, fun s a => BindsTo.of_eq rfl⟩, by decide, by decide, by decide, rfl, rfl, rfl, by decide⟩
    (simB_cons (simS_comp (i := 1) (simE_slice (simE_var (i := 0) (by rfl) (by decide)) simO_none (simO_some simE_int)) (elt_abs nm.abs_ nm.int_ (by rfl) (by rfl) (by rfl) (by rfl) (by decide) (by decide) (by decide)) (by rfl) (by (rintro ⟨⟩ rfl; with_unfolding_all rfl)) (by decide) (by decide) (by rfl) (by decide) (by rfl) (by intro _ _; rfl))
    (simB_cons (simS_ret (simE_list (simA_cons (simE_var (i := 1) (by rfl) (by decide)) (simA_cons simE_int (simA_cons (simE_bin simE_int (simE_callB nm.sum_ (by intro _ h; cases h) (simA_cons (simE_comp (simE_var (i := 1) (by rfl) (by decide)) (elt_mod (by decide) (by rfl) (by rfl) (by decide)) (by decide) (by decide) (by rfl) (by decide) (by rfl) (by intro _ _; rfl)) simA_nil (by intro _; rfl)) bf_sum (by rfl) (by decide) (by intro _; rfl) (by intro _; rfl)) op_add) simA_nil (by intro _; rfl)) (by intro _; rfl)) (by intro _; rfl))))
    simB_nil))) pu_law_pool) hl
end
end Mine
end

section
open PySem PySem.W PyProof.Rows PySem.Spec PySem.Calls
set_option linter.unusedVariables false
namespace Mine

theorem sum_val {B : Int} : ∀ (xs zs : List Int) (o : Nat), zs.length = xs.length → (∀ k z, xs[k]? = some z → zs[k]? = some (z * B ^ (o + k))) → zs.sum = B ^ o * val B xs
  | [], zs, o, hl, _ => by
    have : zs = [] := List.length_eq_zero_iff.mp (by simpa using hl)
    subst this
    simp [val]
  | x :: r, zs, o, hl, h => by
    match zs, hl with
    | z :: q, hl =>
      have h0 := h 0 x rfl
      simp at h0
      subst h0
      have ih := sum_val r q (o + 1) (by simpa using hl) fun k z hk => by
        have := h (k + 1) z (by simpa using hk)
        rw [List.getElem?_cons_succ] at this
        rw [this, show o + (k + 1) = o + 1 + k by (clear hl h; clear hl hk this; lia)]
      rw [List.sum_cons, ih, val, Int.pow_succ]
      grind
    | [], hl => simp at hl

theorem cellsAre_one {cm : Str → Option Value} {n : Str} {c : Addr} {cells : List (Addr × Obj)} (h : CellsAre cm [(n, c)] cells) : ∃ o, cells = [(c, o)] ∧ o.data = .cell (cm n) := by
  cases h with
  | cons ho hr => cases hr; exact ⟨_, rfl, ho⟩

section
variable {w : World} {mean : ExcName → Option Value} {mg mb : Str → Option Value} {hR : Heap}
set_option maxRecDepth 100000
theorem ok_law_whole {l : Nat} (hl : 2 ≤ l) : FnOk (cf w mean mg mb hR) l 147 P_law_whole := by
  intro vals F m H s Q ok S ⟨a, xs, wd, hv, ha, hlen, hw, hw9, dig, hq⟩
  obtain ⟨x, y, rfl, hx, hy⟩ := two_args hv
  obtain rfl := er_ref hx
  obtain ⟨t, rfl⟩ := er_int hy
  obtain ⟨mC, fr, em⟩ := S.fr
  obtain ⟨rp, hL, hXX, hw0⟩ := S.vis _ _ ha
  obtain ⟨items, n, ea, ra⟩ := rep_list rp
  rw [show (O.list (iv xs)).isRo = false from rfl, if_neg Bool.false_ne_true] at hw0
  have hmem : (a, listOf (List.toArray items) n) ∈ led F s.heap := mem_led.mpr ⟨ea, hL, hw0⟩
  have hil : items.length = xs.length := by have := congrArg List.length ra; simpa [iv] using this
  refine wpAny_call (code_defC (binds := [(Str.ofString "row", Value.ref a), (Str.ofString "w", Value.int wd t)]) ok.B fr ok.X (led_news (F := F)) ok.T ok.fr rfl ok.kd (by rfl) (by rfl) (by have := ok.dp; (clear hl hlen hw hw9 hq em hL hXX hil; lia)) (BindsTo.of_eq rfl) (by rfl) (by decide)
    (fun g L' h₁ tk cells FG F' N' CA B' X' T' lt => ?_) rfl rfl rfl)
  obtain ⟨oc, rfl, hoc⟩ := cellsAre_one (c := L' + 1) (n := Str.ofString "w") CA
  replace hoc : oc.data = .cell (some (.int wd t)) := hoc
  have hcell : h₁.get? (L' + 1) = some oc := (N' _ (List.mem_append_left _ (List.mem_cons_self ..))).1
  have hlist : h₁.IsList a (List.toArray items) := ⟨_, (N' _ (List.mem_append_right _ hmem)).1, rfl, n, rfl⟩
  refine wpAny_execs_cons (wpAny_Return_some ?_)
  refine call1_any (nameX_B F' X' (topRead_of T') (by rfl) boot_sum (by decide) ⟨rfl, rfl⟩) (fun _ h => by cases h) ?_ rfl
  refine comp_enum (a := a) (items := items) (cl := [(Str.ofString "w", L' + 1)]) (G := fun k v y => ∃ z t t', v = .int z t ∧ y = .int (z * 2 ^ (wd * k)) t') ok.hh (by with_unfolding_all rfl) (by decide) rfl (by decide) rfl rfl (by decide) (by intro _; rfl) hlist (by lia) ?_ ?_ ?_
  · refine Call_ (nameX_B F' X' (topRead_of T') (by rfl) boot_enumerate (by decide) ?_)
    refine PyProof.Rows.callWith_type rfl ?_
    refine evalArgs_plain (spliced_cons (nameX_L F' (v := .ref a) (by rfl) ?_))
    refine spliced_nil (call_enumerate_list hlist fun h1 hen hli hsz hk1 => ⟨h1, rfl, rfl, hen, hli, hsz, hk1⟩)
  · intro k v tv C s' mm E' hk kp hns hma hmb
    obtain ⟨z, tz, rfl, hz⟩ := iv_int ra hk
    have hzd := dig z hz
    have hB9 := le_512 hw9
    have hk8 : k < 8 := by have := (List.getElem?_eq_some_iff.mp hk).1; (clear hl hw hw9 hq em hL hXX lt kp hzd hB9; lia)
    have hcl : s'.heap.IsCell (L' + 1) (some (.int wd t)) := ⟨oc, kp _ _ hcell, hoc⟩
    refine wpAny_BinOp (wpAny_Name (wpAny_loadName_local (env := compEnvC _ _ C _) rfl rfl hns hmb ?_) (by decide))
    refine wpAny_BinOp (wpAny_Constant_int ?_)
    refine wpAny_BinOp (wpAny_Name (wpAny_loadName_cell (env := compEnvC _ _ C _) rfl rfl rfl hcl ?_) (by decide))
    refine wpAny_Name (wpAny_loadName_local (env := compEnvC _ _ C _) rfl rfl hns hma ?_) (by decide)
    have hp0 : (0 : Int) < 2 ^ (wd * k) := Int.pow_pos (by decide)
    have hp1 : (2 : Int) ^ (wd * k) ≤ 2 ^ 72 := pow_le_pow (by decide) (Nat.mul_le_mul hw9 (show k ≤ 8 by (with_reducible exact Nat.le_of_lt (by assumption))))
    have e : ((wd : Int) * (k : Nat)).toNat = wd * k := by rw [← Int.natCast_mul]; rfl
    have hwk : (wd : Int) * (k : Nat) ≤ 72 := by
      have := Nat.mul_le_mul hw9 (show k ≤ 8 by (with_reducible exact Nat.le_of_lt (by assumption)))
      have h2 : (wd : Int) * (k : Nat) = ((wd * k : Nat) : Int) := by push_cast; rfl
      rw [h2]; (clear hl hlen hw hw9 hq em hL hXX hil lt kp hzd hB9 hk8 hp0 hp1 e h2; lia)
    refine mul_int (pow_int_small (Int.mul_nonneg (by (with_reducible exact Int.natCast_nonneg _)) (by (with_reducible exact Int.natCast_nonneg _))) (by (clear hl hlen hw hw9 hq em hL hXX hil lt kp hzd hB9 hk8 hp0 hp1 e; lia)) (by decide) ?_) (Small.mul (Small.le (by (clear hl hlen hw hw9 hq em hL hXX hil lt kp hzd hB9 hk8 hp0 hp1 e hwk; lia)) (by (clear hl hlen hw hq em hL hXX hil lt kp hzd hB9 hk8 hp0 hp1 e hwk; lia))) (Small.le (by (clear hl hlen hw hw9 hq em hL hXX hil lt kp hzd hB9 hk8 hp0 hp1 e hwk; omega)) (by (clear hl hlen hw hw9 hq em hL hXX hil lt kp hzd hB9 hp0 hp1 e hwk; lia))))
    rw [e]
    exact mul_int ⟨⟨z, tz, _, rfl, rfl⟩, _, _, rfl, fun _ _ e => e⟩ (Small.mul (Small.le (by (clear hl hlen hw hw9 hq em hL hXX hil lt kp hB9 hk8 hp0 hp1 e hwk; lia)) (by (clear hl hlen hw hw9 hq em hL hXX hil lt kp hk8 hp0 hp1 e hwk; lia))) (small_pow (B := 2 ^ 9) (k := 9) (by decide) (by decide) (by (with_reducible exact cposn)) (by (clear hl hlen hw hw9 hq em hL hXX hil lt kp hzd hB9 hk8 hp0 e hwk; lia)) (by decide)))
  · intro D h' tk2 ys n2 hD hDl hyl hG kp
    have hys : ys.map er = iv (xs.mapIdx fun k z => z * 2 ^ (wd * k)) := by
      apply List.ext_getElem?
      intro i
      rw [iv, List.getElem?_map, List.getElem?_map, List.getElem?_mapIdx]
      cases hy : ys[i]? with
      | none =>
        have : xs[i]? = none := List.getElem?_eq_none (by have := List.getElem?_eq_none_iff.mp hy; (clear hl hlen hw hw9 hq em hL hXX lt hG kp; lia))
        rw [this]; rfl
      | some y =>
        have hi : i < items.length := by have := (List.getElem?_eq_some_iff.mp hy).1; (clear hl hlen hw hw9 hq em hL hXX hil lt hG kp; lia)
        obtain ⟨z, t1, t2, h1, rfl⟩ := hG i _ y (List.getElem?_eq_getElem hi) hy
        have h3 : (items.map er)[i]? = some (.int z) := by rw [List.getElem?_map, List.getElem?_eq_getElem hi, h1]; rfl
        rw [ra, iv, List.getElem?_map] at h3
        obtain ⟨z', hz', he⟩ := Option.map_eq_some_iff.mp h3
        cases he
        rw [hz']
        rfl
    obtain ⟨ps, rfl, hps⟩ := ints_of hys
    have el : h'.IsList D (intItems ps.toArray) := ⟨_, hDl, rfl, n2, by simp [intItems, PySem.W.listOf]⟩
    refine sum_intListG ok.hh el fun h'' tk3 t' hk => ?_
    have kk : ∀ b o, h₁.get? b = some o → h''.get? b = some o := fun b o e => hk b o (kp b o e)
    have N2 : News g L' h₁ (led F s.heap) := fun p hp => N' p (List.mem_append_right _ hp)
    refine leaveK_ (F'.keeps kk) (N2.grown kk) fun FH NH => ?_
    refine ⟨H, S.rebuild ok.ro em FH NH, .mk, ?_⟩
    have : preSum (numAt ps.toArray) ps.toArray.size = val (2 ^ wd) xs := by
      rw [preSum_eq, List.take_of_length_le (by simp)]
      have h1 := sum_val (B := 2 ^ wd) xs (xs.mapIdx fun k z => z * 2 ^ (wd * k)) 0 (by simp) fun k z hk => by rw [List.getElem?_mapIdx, hk, Nat.zero_add, Int.pow_mul]; rfl
      rw [Int.pow_zero, Int.one_mul] at h1
      rw [← h1, ← hps]
    rw [this]
    exact hq H (.refl H)
end
end Mine
end

section
open PySem PySem.W PyProof.Rows PySem.Spec PySem.Calls
set_option linter.unusedVariables false
namespace Mine
section
variable {w : World} {mean : ExcName → Option Value} {mg mb : Str → Option Value} {hR : Heap}
set_option maxRecDepth 100000
set_option maxHeartbeats 8000000 in
theorem ok_law_refuses {l : Nat} (hl : 6 ≤ l) : FnOk (cf w mean mg mb hR) l 168 P_law_refuses := by
  intro vals F m H s Q ok S ⟨a, xs, wd, hv, ha, hlen, hw, hw9, hq⟩
  obtain ⟨x, y, rfl, hx, hy⟩ := two_args hv
  obtain rfl := er_ref hx
  obtain ⟨t, rfl⟩ := er_int hy
  obtain ⟨mC, fr, em⟩ := S.fr
  have hB := ok.B
  have hX := ok.X
  have hT := ok.T
  have hkd := ok.kd
  obtain ⟨-, hd1, hbase⟩ := ok.top hl
  replace hbase : F.h₀ = hR := hbase
  have hfrm := ok.fr
  have hhn := ok.hh
  generalize hN0 : led F s.heap = N0
  have nw : News F.h₀ F.L s.heap N0 := hN0 ▸ led_news
  have fin : ∀ h' tk, (∀ b o, F.h₀.get? b = some o → h'.get? b = some o) → (∀ p ∈ N0, h'.get? p.1 = some p.2) → h'.Ns F.L mC → PostE (cf w mean mg mb hR) F m s Q (.bool true) { s with heap := h', toks := tk } := fun h' tk k1 k2 k3 => by
    refine ⟨H, ⟨⟨mC, ⟨k3, k1, fr.above⟩, em⟩, fun p hp => ?_, fun b o ho => ?_⟩, .mk, hq _ (.refl H)⟩
    · exact ⟨k2 p (hN0 ▸ mem_led.mpr (S.nx p hp)), (S.nx p hp).2⟩
    · obtain ⟨r, hL, hXX, hw⟩ := S.vis b o ho
      refine ⟨?_, hL, hXX, hw⟩
      by_cases hr : o.isRo = true
      · rw [if_pos hr] at hw
        obtain ⟨ob, hob⟩ := Option.isSome_iff_exists.mp hw
        refine r.at fun ob' e' => ?_
        have := fr.keep _ _ (ok.ro _ _ hob)
        rw [this] at e'
        cases e'
        exact k1 _ _ (ok.ro _ _ hob)
      · rw [if_neg hr] at hw
        exact r.at fun ob e' => k2 (b, ob) (hN0 ▸ mem_led.mpr ⟨e', hL, hw⟩)
  clear ok S hq hv ha hN0
  generalize PostE (cf w mean mg mb hR) F m s Q = QQ at fin ⊢
  generalize hAA : F.A = AA at *
  obtain ⟨hd, dep, frs, gds, uns⟩ := AA
  dsimp only at hd1 hhn hfrm
  subst hd1 hhn hfrm
  have hK : (Mine.hd.heap_39 w.params).In F.h₀ := hX
  have hTT : Top Mine.hd.view_39 (looseW Mine.hd.view_39 []) mean mg mb F.h₀ := hT
  have hBB : Below F.A₀ hR F.outer F.h₀ := hB
  clear hX hT hB
  refine wpAny_call (enterT (binds := [(Str.ofString "a", Value.ref a), (Str.ofString "w", Value.int wd t)]) hBB fr hK nw hTT rfl rfl hkd (by rfl) (by rfl) (by show 302 < recursionLimit; decide) (BindsTo.of_eq rfl) (locs rfl) (fun g L' h₁ FG F' N' B' X' T' => ?_) rfl rfl rfl (by decide))
  have above : hR.objs.size ≤ L' := by
    have h1 := fr.above
    rw [hbase] at h1
    exact Nat.le_trans h1 (Nat.le_trans (Nat.le_of_lt FG.ns.lt) F'.above)
  have nsL := FG.ns
  have bK : (Mine.hd.heap_39 w.params).In hR := hbase ▸ hK
  have bT : Top Mine.hd.view_39 (looseW Mine.hd.view_39 []) mean mg mb hR := hbase ▸ hTT
  rw [hbase] at fin
  clear fr hK hTT hBB nw hbase FG hAA
  show wpAny (model PySem.Challenge.rw_nn0005_01.row.prog w) _ _ _ _ _
  k_steps
  rename_i tk1 l1' h1' F1 N1 l1x g2 L2 h2 FG2 F2 N2 B2 X2 T2 tk3 h3 e a4 h4 t4 R4 U4
  refine caughtT (bmB := [.type "Exception", .type "BaseException", .type "object"]) (newId := "Exception.__new__") rfl ⟨FG2.ns, fun b o e => B2.stays b o e, above⟩ U4 R4 bK (topRead_of bT) (by rfl) (by k_exc) (by decide) (fun h6 st u nwk => ?_) (by rfl) (by rfl) (by decide) (by passes_own)
  exact wpAny_execs_cons (wpAny_Return_some (wpAny_pure (fin h6 _ st (fun p hp => nwk p (List.mem_cons_of_mem _ hp)) (Heap.UpToSlots.ns u (nsL.at' fun o e => FG2.keep _ o e)))))
theorem ok_law_guess_right {l : Nat} (hl : 3 ≤ l) : FnOk (cf w mean mg mb hR) l 161 P_law_guess_right :=
  FnOk.lift (l' := 3) (FnOk.mono (fn_ok (l := 2) (n := 2) ⟨⟨_, _, _, _, _, _, _, _, _, _, _, _, by rfl, by rfl, fun s a b => BindsTo.of_eq rfl⟩, by decide, by decide, by decide, rfl, rfl, rfl, by decide⟩
    (simB_cons (simS_assign (i := 2) (simE_bin simE_int (simE_var (i := 1) (by rfl) (by decide)) op_pow) (by rfl) (by intro _; rfl))
  (simB_cons (simS_assign (i := 3) (simE_bin (simE_bin (simE_bin (simE_var (i := 2) (by rfl) (by decide)) simE_int op_pow) simE_int op_fdiv) (simE_call nm.law_draw (ok_law_draw (by decide)) (simA_cons (simE_var (i := 0) (by rfl) (by decide)) (simA_cons (simE_bin (simE_bin (simE_var (i := 2) (by rfl) (by decide)) simE_int op_pow) simE_int op_fdiv) simA_nil (by intro _; rfl)) (by intro _; rfl)) (by rfl) (by decide) (by intro _; rfl) (by intro _; rfl)) op_add) (by rfl) (by intro _; rfl))
  (simB_cons (simS_if (simT_cmp (simE_call nm.law_draw (ok_law_draw (by decide)) (simA_cons (simE_var (i := 0) (by rfl) (by decide)) (simA_cons simE_int simA_nil (by intro _; rfl)) (by intro _; rfl)) (by rfl) (by decide) (by intro _; rfl) (by intro _; rfl)) simE_int cmp_eq (by with_unfolding_all rfl)) (simB_cons (simS_assign (i := 3) (simE_bin (simE_bin (simE_bin (simE_var (i := 2) (by rfl) (by decide)) simE_int op_pow) simE_int op_fdiv) (simE_idx (simE_list (simA_cons simE_int (simA_cons simE_int (simA_cons (simE_bin (simE_var (i := 2) (by rfl) (by decide)) simE_int op_sub) (simA_cons (simE_bin (simE_bin (simE_var (i := 2) (by rfl) (by decide)) simE_int op_pow) simE_int op_fdiv) simA_nil (by intro _; rfl)) (by intro _; rfl)) (by intro _; rfl)) (by intro _; rfl))) (simE_call nm.law_draw (ok_law_draw (by decide)) (simA_cons (simE_var (i := 0) (by rfl) (by decide)) (simA_cons simE_int simA_nil (by intro _; rfl)) (by intro _; rfl)) (by rfl) (by decide) (by intro _; rfl) (by intro _; rfl)) (by intro _ _; rfl)) op_add) (by rfl) (by intro _; rfl))
  simB_nil) simB_nil)
  (simB_cons (simS_assign (i := 4) (simE_idx (simE_list (simA_cons (simE_bin (simE_var (i := 2) (by rfl) (by decide)) simE_int op_sub) (simA_cons (simE_bin (simE_var (i := 2) (by rfl) (by decide)) simE_int op_sub) (simA_cons simE_int (simA_cons simE_int (simA_cons (simE_call nm.law_draw (ok_law_draw (by decide)) (simA_cons (simE_var (i := 0) (by rfl) (by decide)) (simA_cons (simE_var (i := 2) (by rfl) (by decide)) simA_nil (by intro _; rfl)) (by intro _; rfl)) (by rfl) (by decide) (by intro _; rfl) (by intro _; rfl)) simA_nil (by intro _; rfl)) (by intro _; rfl)) (by intro _; rfl)) (by intro _; rfl)) (by intro _; rfl))) (simE_call nm.law_draw (ok_law_draw (by decide)) (simA_cons (simE_var (i := 0) (by rfl) (by decide)) (simA_cons simE_int simA_nil (by intro _; rfl)) (by intro _; rfl)) (by rfl) (by decide) (by intro _; rfl) (by intro _; rfl)) (by intro _ _; rfl)) (by rfl) (by intro _; rfl))
  (simB_cons (simS_assign (i := 5) (simE_bin (simE_bin (simE_var (i := 4) (by rfl) (by decide)) (simE_var (i := 3) (by rfl) (by decide)) op_mul) (simE_idx (simE_list (simA_cons (simE_bin (simE_var (i := 3) (by rfl) (by decide)) simE_int op_sub) (simA_cons simE_int (simA_cons (simE_call nm.law_draw (ok_law_draw (by decide)) (simA_cons (simE_var (i := 0) (by rfl) (by decide)) (simA_cons (simE_var (i := 3) (by rfl) (by decide)) simA_nil (by intro _; rfl)) (by intro _; rfl)) (by rfl) (by decide) (by intro _; rfl) (by intro _; rfl)) simA_nil (by intro _; rfl)) (by intro _; rfl)) (by intro _; rfl))) (simE_call nm.law_draw (ok_law_draw (by decide)) (simA_cons (simE_var (i := 0) (by rfl) (by decide)) (simA_cons simE_int simA_nil (by intro _; rfl)) (by intro _; rfl)) (by rfl) (by decide) (by intro _; rfl) (by intro _; rfl)) (by intro _ _; rfl)) op_add) (by rfl) (by intro _; rfl))
  (simB_cons (simS_assign2 (i := 6) (j := 7) (simE_call nm.law_row (ok_law_row (by decide)) (simA_cons (simE_var (i := 3) (by rfl) (by decide)) (simA_cons (simE_var (i := 1) (by rfl) (by decide)) simA_nil (by intro _; rfl)) (by intro _; rfl)) (by rfl) (by decide) (by intro _; rfl) (by intro _; rfl)) (simE_slice (simE_bin (simE_call nm.law_row (ok_law_row (by decide)) (simA_cons (simE_var (i := 5) (by rfl) (by decide)) (simA_cons (simE_var (i := 1) (by rfl) (by decide)) simA_nil (by intro _; rfl)) (by intro _; rfl)) (by rfl) (by decide) (by intro _; rfl) (by intro _; rfl)) (simE_list (simA_cons simE_int (simA_cons simE_int (simA_cons simE_int (simA_cons simE_int simA_nil (by intro _; rfl)) (by intro _; rfl)) (by intro _; rfl)) (by intro _; rfl))) op_add) simO_none (simO_some simE_int)) (by rfl) (by rfl) (by intro _; rfl) (by intro _; rfl) (by intro _; rfl) (by (rintro ⟨⟩ rfl; rfl)))
  (simB_cons (simS_assign (i := 8) (simE_call nm.guessed_limb (ok_guessed_limb (by decide)) (simA_cons (simE_slice (simE_var (i := 7) (by rfl) (by decide)) (simO_some simE_int) simO_none) (simA_cons (simE_idx (simE_var (i := 6) (by rfl) (by decide)) simE_int (by intro _ _; rfl)) (simA_cons (simE_idx (simE_var (i := 6) (by rfl) (by decide)) simE_int (by intro _ _; rfl)) (simA_cons (simE_var (i := 1) (by rfl) (by decide)) simA_nil (by intro _; rfl)) (by intro _; rfl)) (by intro _; rfl)) (by intro _; rfl)) (by rfl) (by decide) (by intro _; rfl) (by intro _; rfl)) (by rfl) (by intro _; rfl))
  (simB_cons (simS_if (simT_and (simT_cmp (simE_var (i := 8) (by rfl) (by decide)) (simE_var (i := 4) (by rfl) (by decide)) cmp_ne (by with_unfolding_all rfl)) (simT_and (simT_cmp (simE_var (i := 8) (by rfl) (by decide)) (simE_bin (simE_var (i := 4) (by rfl) (by decide)) simE_int op_add) cmp_ne (by with_unfolding_all rfl)) simT_and_nil)) (simB_cons (simS_ret simE_bool)
  simB_nil) simB_nil)
  (simB_cons (simS_assign (i := 9) (simE_call nm.take_away (ok_take_away (by decide)) (simA_cons (simE_var (i := 7) (by rfl) (by decide)) (simA_cons (simE_var (i := 6) (by rfl) (by decide)) (simA_cons (simE_var (i := 8) (by rfl) (by decide)) (simA_cons simE_int (simA_cons (simE_var (i := 1) (by rfl) (by decide)) simA_nil (by intro _; rfl)) (by intro _; rfl)) (by intro _; rfl)) (by intro _; rfl)) (by intro _; rfl)) (by rfl) (by decide) (by intro _; rfl) (by intro _; rfl)) (by rfl) (by intro _; rfl))
  (simB_cons (simS_if (simT_or (simT_cmp (simE_var (i := 9) (by rfl) (by decide)) (simE_if (simT_cmp (simE_var (i := 8) (by rfl) (by decide)) (simE_var (i := 4) (by rfl) (by decide)) cmp_gt (by with_unfolding_all rfl)) simE_int simE_int) cmp_ne (by with_unfolding_all rfl)) (simT_or (simT_cmp (simE_call nm.law_whole (ok_law_whole (by decide)) (simA_cons (simE_var (i := 7) (by rfl) (by decide)) (simA_cons (simE_var (i := 1) (by rfl) (by decide)) simA_nil (by intro _; rfl)) (by intro _; rfl)) (by rfl) (by decide) (by intro _; rfl) (by intro _; rfl)) (simE_bin (simE_bin (simE_var (i := 5) (by rfl) (by decide)) (simE_bin (simE_var (i := 8) (by rfl) (by decide)) (simE_var (i := 3) (by rfl) (by decide)) op_mul) op_sub) (simE_bin (simE_var (i := 2) (by rfl) (by decide)) simE_int op_pow) op_mod) cmp_ne (by with_unfolding_all rfl)) simT_or_nil)) (simB_cons (simS_ret simE_bool)
  simB_nil) simB_nil)
  (simB_cons (simS_if (simT_cmp (simE_var (i := 9) (by rfl) (by decide)) simE_int cmp_eq (by with_unfolding_all rfl)) (simB_cons (simS_expr (simE_call nm.put_back (ok_put_back (by decide)) (simA_cons (simE_var (i := 7) (by rfl) (by decide)) (simA_cons (simE_var (i := 6) (by rfl) (by decide)) (simA_cons simE_int (simA_cons (simE_var (i := 1) (by rfl) (by decide)) simA_nil (by intro _; rfl)) (by intro _; rfl)) (by intro _; rfl)) (by intro _; rfl)) (by rfl) (by decide) (by intro _; rfl) (by intro _; rfl)) (by intro _; rfl))
  simB_nil) simB_nil)
  (simB_cons (simS_ret (simE_and (simE_cmp (simE_call nm.law_whole (ok_law_whole (by decide)) (simA_cons (simE_var (i := 7) (by rfl) (by decide)) (simA_cons (simE_var (i := 1) (by rfl) (by decide)) simA_nil (by intro _; rfl)) (by intro _; rfl)) (by rfl) (by decide) (by intro _; rfl) (by intro _; rfl)) (simE_bin (simE_var (i := 5) (by rfl) (by decide)) (simE_bin (simE_var (i := 4) (by rfl) (by decide)) (simE_var (i := 3) (by rfl) (by decide)) op_mul) op_sub) cmp_eq (by with_unfolding_all rfl)) (simE_and_one (simE_cmp (simE_callB nm.len_ (by intro _ h; cases h) (simA_cons (simE_var (i := 7) (by rfl) (by decide)) simA_nil (by intro _; rfl)) bf_len (by rfl) (by decide) (by intro _; rfl) (by intro _; rfl)) simE_int cmp_eq (by with_unfolding_all rfl)))))
  simB_nil))))))))))))) pu_law_guess_right) hl


theorem ints_er {vs : List Value} {ns : List Int} (h : IntsAre vs ns) : vs.map er = iv ns := by
  induction h with
  | nil => rfl
  | cons n t hr ih =>
    simp only [List.map_cons, iv, er] at ih ⊢
    rw [ih]

/-- the law's body, from the ground that the head lays -/
theorem law_end {s₁ : Shared} {h₁ : Heap} {a fa : Addr} {cd : Value} {tk : Nat} {vs : List Value} {ns : List Int} {body : List Stmt} {sc : Scope} {qual : Str} {R : Flow → Shared → Prop} {E : Value → Shared → Prop}
    (hb : SimB (cf w mean mg mb s₁.heap) 6 sc body ps_law) (KX : (Mine.hd.heap_39 w.params).In s₁.heap) (T : Top Mine.hd.view_39 (looseW Mine.hd.view_39 []) mean mg mb s₁.heap)
    (hL : s₁.heap.IsList a vs.toArray) (hI : IntsAre vs ns) (hlen : ns.length ≤ 63) (F : Fr s₁.heap s₁.heap.objs.size h₁ (fun x => List.lookup x [(Str.ofString "script", Value.ref a)].reverse))
    (hkd : sc.kind = .function) (hnd : (sc.names.map (·.1)).Nodup) (h0 : sc.names[0]? = some (Str.ofString "script", .local))
    (hR : ∀ h' tk' m', Fr s₁.heap s₁.heap.objs.size h' m' → R (.ret (.bool true)) { s₁ with heap := h', toks := tk' }) :
    wpAny (model PySem.Challenge.rw_nn0005_01.row.prog w) (callerA.deeper (envOf qual sc s₁.heap.objs.size fa cd)) (execs body (envOf qual sc s₁.heap.objs.size fa cd)) R E { s₁ with heap := h₁, toks := tk } := by
  have ok : Ok (cf w mean mg mb s₁.heap) 6 { A₀ := callerA, A := callerA.deeper (envOf qual sc s₁.heap.objs.size fa cd), outer := [], h₀ := s₁.heap, qual := qual, sc := sc, L := s₁.heap.objs.size, fa := fa, cd := cd, X := [] } :=
    ⟨KX, T, below_caller _, fun _ _ e => e, Around.frames_deeper rfl, rfl, by show 302 + 6 < recursionLimit; decide, by show callerA.units + 3 + 10 * 6 + 100 < cLine; decide, hkd, hnd, fun _ => ⟨rfl, rfl, rfl⟩⟩
  have S : St (cf w mean mg mb s₁.heap) { A₀ := callerA, A := callerA.deeper (envOf qual sc s₁.heap.objs.size fa cd), outer := [], h₀ := s₁.heap, qual := qual, sc := sc, L := s₁.heap.objs.size, fa := fa, cd := cd, X := [] } (fun i => [V.ref a][i]?) (fun b => if b = a then some (.ro (iv ns)) else none) h₁ := by
    refine ⟨⟨_, F, fun i x hx => ?_⟩, fun p hp => (by cases hp), fun b o ho => ?_⟩
    · replace hx : sc.names[i]? = some (x, .local) := hx
      cases i with
      | zero =>
        rw [h0] at hx
        cases hx
        simp [er]
      | succ i =>
        have hne : x ≠ Str.ofString "script" := fun e => by
          rw [e] at hx
          have := nodup_at hnd hx h0
          lia
        have hb : (x == Str.ofString "script") = false := beq_eq_false_iff_ne.mpr hne
        simp [List.lookup_cons, hb]
    · by_cases hba : b = a
      · subst hba
        simp at ho
        subst ho
        obtain ⟨o, e, r⟩ := hL
        refine ⟨⟨vs, ⟨o, F.keep _ _ e, r⟩, ints_er hI⟩, ?_, fun p hp => (by cases hp), ?_⟩
        · show b ≠ s₁.heap.objs.size
          exact Nat.ne_of_lt (Heap.lt_size e)
        · show (s₁.heap.get? b).isSome = true
          rw [e]; rfl
      · simp [hba] at ho
  have h := (pu_law [.ref a] (fun b => if b = a then some (.ro (iv ns)) else none) (fun v _ => v = .bool true) ⟨a, ns, rfl, by simp, hlen, fun _ => rfl⟩).2
  refine wpAny_mono (hb _ _ _ _ _ rfl ok S h) ?_ fun _ _ x => x.elim
  rintro fl s' ⟨m', H', S', ⟨h', tk', rfl⟩, hq⟩
  obtain ⟨mC, F', _⟩ := S'.fr
  cases fl with
  | ret v =>
    replace hq : er v = .bool true := hq
    obtain rfl := er_bool hq
    exact hR h' tk' _ F'
  | next => cases hq
  | brk => exact hq.elim
  | cont => exact hq.elim

end
set_option maxRecDepth 100000 in
set_option maxHeartbeats 8000000 in
theorem law_holds : PySem.Challenge.rw_nn0005_01.Holds := Mine.hd (by
  k_go0
  refine law_end (qual := Str.ofString "law") (sc := _) (body := _) ((simB_cons (simS_assign (i := 1) (simE_call nm.law_pool (ok_law_pool (by decide)) (simA_cons (simE_callB nm.list_ (by intro _ h; cases h) (simA_cons (simE_var (i := 0) (by rfl) (by decide)) simA_nil (by intro _; rfl)) bf_list (by rfl) (by decide) (by intro _; rfl) (by intro _; rfl)) simA_nil (by intro _; rfl)) (by rfl) (by decide) (by intro _; rfl) (by intro _; rfl)) (by rfl) (by intro _; rfl))
  (simB_cons (simS_assign (i := 2) (simE_bin simE_int (simE_call nm.law_draw (ok_law_draw (by decide)) (simA_cons (simE_var (i := 1) (by rfl) (by decide)) (simA_cons simE_int simA_nil (by intro _; rfl)) (by intro _; rfl)) (by rfl) (by decide) (by intro _; rfl) (by intro _; rfl)) op_add) (by rfl) (by intro _; rfl))
  (simB_cons (simS_assign2 (i := 3) (j := 4) (simE_call nm.law_number (ok_law_number (by decide)) (simA_cons (simE_var (i := 1) (by rfl) (by decide)) (simA_cons (simE_var (i := 2) (by rfl) (by decide)) (simA_cons simE_int simA_nil (by intro _; rfl)) (by intro _; rfl)) (by intro _; rfl)) (by rfl) (by decide) (by intro _; rfl) (by intro _; rfl)) (simE_call nm.law_number (ok_law_number (by decide)) (simA_cons (simE_var (i := 1) (by rfl) (by decide)) (simA_cons (simE_var (i := 2) (by rfl) (by decide)) (simA_cons simE_int simA_nil (by intro _; rfl)) (by intro _; rfl)) (by intro _; rfl)) (by rfl) (by decide) (by intro _; rfl) (by intro _; rfl)) (by rfl) (by rfl) (by intro _; rfl) (by intro _; rfl) (by intro _; rfl) (by (rintro ⟨⟩ rfl; rfl)))
  (simB_cons (simS_if (simT_cmp (simE_var (i := 3) (by rfl) (by decide)) simE_int cmp_eq (by with_unfolding_all rfl)) (simB_cons (simS_assign (i := 3) (simE_bin simE_int (simE_call nm.law_draw (ok_law_draw (by decide)) (simA_cons (simE_var (i := 1) (by rfl) (by decide)) (simA_cons (simE_bin (simE_bin simE_int (simE_var (i := 2) (by rfl) (by decide)) op_pow) simE_int op_sub) simA_nil (by intro _; rfl)) (by intro _; rfl)) (by rfl) (by decide) (by intro _; rfl) (by intro _; rfl)) op_add) (by rfl) (by intro _; rfl))
  simB_nil) simB_nil)
  (simB_cons (simS_assign (i := 5) (simE_idx (simE_list (simA_cons (simE_bin (simE_var (i := 3) (by rfl) (by decide)) simE_int op_sub) (simA_cons simE_int (simA_cons (simE_call nm.law_draw (ok_law_draw (by decide)) (simA_cons (simE_var (i := 1) (by rfl) (by decide)) (simA_cons (simE_var (i := 3) (by rfl) (by decide)) simA_nil (by intro _; rfl)) (by intro _; rfl)) (by rfl) (by decide) (by intro _; rfl) (by intro _; rfl)) simA_nil (by intro _; rfl)) (by intro _; rfl)) (by intro _; rfl))) (simE_call nm.law_draw (ok_law_draw (by decide)) (simA_cons (simE_var (i := 1) (by rfl) (by decide)) (simA_cons simE_int simA_nil (by intro _; rfl)) (by intro _; rfl)) (by rfl) (by decide) (by intro _; rfl) (by intro _; rfl)) (by intro _ _; rfl)) (by rfl) (by intro _; rfl))
  (simB_cons (simS_assign2 (i := 6) (j := 7) (simE_bin (simE_bin (simE_var (i := 4) (by rfl) (by decide)) (simE_var (i := 3) (by rfl) (by decide)) op_mul) (simE_var (i := 5) (by rfl) (by decide)) op_add) (simE_call nm.law_number (ok_law_number (by decide)) (simA_cons (simE_var (i := 1) (by rfl) (by decide)) (simA_cons (simE_var (i := 2) (by rfl) (by decide)) (simA_cons simE_int simA_nil (by intro _; rfl)) (by intro _; rfl)) (by intro _; rfl)) (by rfl) (by decide) (by intro _; rfl) (by intro _; rfl)) (by rfl) (by rfl) (by intro _; rfl) (by intro _; rfl) (by intro _; rfl) (by (rintro ⟨⟩ rfl; rfl)))
  (simB_cons (simS_assign2 (i := 8) (j := 9) (simE_call nm.law_row (ok_law_row (by decide)) (simA_cons (simE_var (i := 6) (by rfl) (by decide)) (simA_cons (simE_var (i := 2) (by rfl) (by decide)) simA_nil (by intro _; rfl)) (by intro _; rfl)) (by rfl) (by decide) (by intro _; rfl) (by intro _; rfl)) (simE_call nm.law_row (ok_law_row (by decide)) (simA_cons (simE_var (i := 3) (by rfl) (by decide)) (simA_cons (simE_var (i := 2) (by rfl) (by decide)) simA_nil (by intro _; rfl)) (by intro _; rfl)) (by rfl) (by decide) (by intro _; rfl) (by intro _; rfl)) (by rfl) (by rfl) (by intro _; rfl) (by intro _; rfl) (by intro _; rfl) (by (rintro ⟨⟩ rfl; rfl)))
  (simB_cons (simS_if (simT_cmp (simE_call nm.divrem_school (ok_divrem_school (by decide)) (simA_cons (simE_var (i := 8) (by rfl) (by decide)) (simA_cons (simE_var (i := 9) (by rfl) (by decide)) (simA_cons (simE_var (i := 2) (by rfl) (by decide)) simA_nil (by intro _; rfl)) (by intro _; rfl)) (by intro _; rfl)) (by rfl) (by decide) (by intro _; rfl) (by intro _; rfl)) (simE_tup (simA_cons (simE_call nm.law_row (ok_law_row (by decide)) (simA_cons (simE_var (i := 4) (by rfl) (by decide)) (simA_cons (simE_var (i := 2) (by rfl) (by decide)) simA_nil (by intro _; rfl)) (by intro _; rfl)) (by rfl) (by decide) (by intro _; rfl) (by intro _; rfl)) (simA_cons (simE_call nm.law_row (ok_law_row (by decide)) (simA_cons (simE_var (i := 5) (by rfl) (by decide)) (simA_cons (simE_var (i := 2) (by rfl) (by decide)) simA_nil (by intro _; rfl)) (by intro _; rfl)) (by rfl) (by decide) (by intro _; rfl) (by intro _; rfl)) simA_nil (by intro _; rfl)) (by intro _; rfl))) cmp_ne (by with_unfolding_all rfl)) (simB_cons (simS_ret simE_bool)
  simB_nil) simB_nil)
  (simB_cons (simS_if (simT_cmp (simE_call nm.divrem_school (ok_divrem_school (by decide)) (simA_cons (simE_call nm.law_row (ok_law_row (by decide)) (simA_cons (simE_var (i := 7) (by rfl) (by decide)) (simA_cons (simE_var (i := 2) (by rfl) (by decide)) simA_nil (by intro _; rfl)) (by intro _; rfl)) (by rfl) (by decide) (by intro _; rfl) (by intro _; rfl)) (simA_cons (simE_var (i := 9) (by rfl) (by decide)) (simA_cons (simE_var (i := 2) (by rfl) (by decide)) simA_nil (by intro _; rfl)) (by intro _; rfl)) (by intro _; rfl)) (by rfl) (by decide) (by intro _; rfl) (by intro _; rfl)) (simE_tup (simA_cons (simE_call nm.law_row (ok_law_row (by decide)) (simA_cons (simE_bin (simE_var (i := 7) (by rfl) (by decide)) (simE_var (i := 3) (by rfl) (by decide)) op_fdiv) (simA_cons (simE_var (i := 2) (by rfl) (by decide)) simA_nil (by intro _; rfl)) (by intro _; rfl)) (by rfl) (by decide) (by intro _; rfl) (by intro _; rfl)) (simA_cons (simE_call nm.law_row (ok_law_row (by decide)) (simA_cons (simE_bin (simE_var (i := 7) (by rfl) (by decide)) (simE_var (i := 3) (by rfl) (by decide)) op_mod) (simA_cons (simE_var (i := 2) (by rfl) (by decide)) simA_nil (by intro _; rfl)) (by intro _; rfl)) (by rfl) (by decide) (by intro _; rfl) (by intro _; rfl)) simA_nil (by intro _; rfl)) (by intro _; rfl))) cmp_ne (by with_unfolding_all rfl)) (simB_cons (simS_ret simE_bool)
  simB_nil) simB_nil)
  (simB_cons (simS_assign (i := 10) (simE_bin simE_int (simE_call nm.law_draw (ok_law_draw (by decide)) (simA_cons (simE_var (i := 1) (by rfl) (by decide)) (simA_cons (simE_bin (simE_bin simE_int (simE_var (i := 2) (by rfl) (by decide)) op_pow) simE_int op_sub) simA_nil (by intro _; rfl)) (by intro _; rfl)) (by rfl) (by decide) (by intro _; rfl) (by intro _; rfl)) op_add) (by rfl) (by intro _; rfl))
  (simB_cons (simS_if (simT_cmp (simE_call nm.divrem_small (ok_divrem_small (by decide)) (simA_cons (simE_var (i := 8) (by rfl) (by decide)) (simA_cons (simE_list (simA_cons (simE_var (i := 10) (by rfl) (by decide)) simA_nil (by intro _; rfl))) (simA_cons (simE_var (i := 2) (by rfl) (by decide)) simA_nil (by intro _; rfl)) (by intro _; rfl)) (by intro _; rfl)) (by rfl) (by decide) (by intro _; rfl) (by intro _; rfl)) (simE_tup (simA_cons (simE_call nm.law_row (ok_law_row (by decide)) (simA_cons (simE_bin (simE_var (i := 6) (by rfl) (by decide)) (simE_var (i := 10) (by rfl) (by decide)) op_fdiv) (simA_cons (simE_var (i := 2) (by rfl) (by decide)) simA_nil (by intro _; rfl)) (by intro _; rfl)) (by rfl) (by decide) (by intro _; rfl) (by intro _; rfl)) (simA_cons (simE_call nm.law_row (ok_law_row (by decide)) (simA_cons (simE_bin (simE_var (i := 6) (by rfl) (by decide)) (simE_var (i := 10) (by rfl) (by decide)) op_mod) (simA_cons (simE_var (i := 2) (by rfl) (by decide)) simA_nil (by intro _; rfl)) (by intro _; rfl)) (by rfl) (by decide) (by intro _; rfl) (by intro _; rfl)) simA_nil (by intro _; rfl)) (by intro _; rfl))) cmp_ne (by with_unfolding_all rfl)) (simB_cons (simS_ret simE_bool)
  simB_nil) simB_nil)
  (simB_cons (simS_if (simT_or (simT_not (simT_val (simE_call nm.law_guess_right (ok_law_guess_right (by decide)) (simA_cons (simE_var (i := 1) (by rfl) (by decide)) (simA_cons (simE_var (i := 2) (by rfl) (by decide)) simA_nil (by intro _; rfl)) (by intro _; rfl)) (by rfl) (by decide) (by intro _; rfl) (by intro _; rfl)) (by intro _ _; rfl))) (simT_or (simT_not (simT_val (simE_call nm.law_guess_right (ok_law_guess_right (by decide)) (simA_cons (simE_var (i := 1) (by rfl) (by decide)) (simA_cons (simE_var (i := 2) (by rfl) (by decide)) simA_nil (by intro _; rfl)) (by intro _; rfl)) (by rfl) (by decide) (by intro _; rfl) (by intro _; rfl)) (by intro _ _; rfl))) (simT_or (simT_not (simT_val (simE_call nm.law_refuses (ok_law_refuses (by decide)) (simA_cons (simE_var (i := 8) (by rfl) (by decide)) (simA_cons (simE_var (i := 2) (by rfl) (by decide)) simA_nil (by intro _; rfl)) (by intro _; rfl)) (by rfl) (by decide) (by intro _; rfl) (by intro _; rfl)) (by intro _ _; rfl))) simT_or_nil))) (simB_cons (simS_ret simE_bool)
  simB_nil) simB_nil)
  (simB_cons (simS_ret (simE_and (simE_cmp (simE_var (i := 8) (by rfl) (by decide)) (simE_call nm.law_row (ok_law_row (by decide)) (simA_cons (simE_var (i := 6) (by rfl) (by decide)) (simA_cons (simE_var (i := 2) (by rfl) (by decide)) simA_nil (by intro _; rfl)) (by intro _; rfl)) (by rfl) (by decide) (by intro _; rfl) (by intro _; rfl)) cmp_eq (by with_unfolding_all rfl)) (simE_and_one (simE_cmp (simE_var (i := 9) (by rfl) (by decide)) (simE_call nm.law_row (ok_law_row (by decide)) (simA_cons (simE_var (i := 3) (by rfl) (by decide)) (simA_cons (simE_var (i := 2) (by rfl) (by decide)) simA_nil (by intro _; rfl)) (by intro _; rfl)) (by rfl) (by decide) (by intro _; rfl) (by intro _; rfl)) cmp_eq (by with_unfolding_all rfl)))))
  simB_nil)))))))))))))) (by assumption) (by assumption) (by assumption) (by assumption) (by lia) (by assumption) rfl (by decide) rfl (fun h' tk' m' F'' => ?_)
  dsimp only
  wrow_close)
end Mine
end

theorem PySem.Challenge.cw_nn0005_01_holds : PySem.Challenge.rw_nn0005_01.Holds :=
  Mine.law_holds
