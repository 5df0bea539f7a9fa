import PyProof.Rows.All
import Wide.All
import OpenK.AllK
import Wide.FinOn
import PyProof.EqKinds
import PyProof.ConsumeWalk
import PyProof.MinMaxWalk
import PyProof.EnumStmt
import PyProof.DictTable
import PyProof.DictDisplay
import PyProof.Rows.Lst
import PyProof.Rows.RuleN_abs
import PyProof.ListCopy
import PyProof.Rows.SeqSlice
import PySem.Challenge.RW_pf0281_01
open PySem PySem.W PySem.Spec PySem.Calls PyProof.Rows
set_option Elab.async false
namespace Mine
set_option genInjectivity false
set_option genSizeOf false

/-! a tree of objects by address; a place may be unknown -/
inductive OT where
  | nil
  | node (v : Option Obj) (l r : OT)

noncomputable def OT.get : OT → Nat → Option Obj :=
  OT.rec (motive := fun _ => Nat → Option Obj) (fun _ => none) (fun v _ _ il ir i => Bool.rec (Bool.rec (ir (Nat.sub (Nat.div i 2) 1)) (il (Nat.div i 2)) (Nat.beq (Nat.mod i 2) 1)) v (Nat.beq i 0))
noncomputable def OT.put (o : Option Obj) : OT → Nat → OT :=
  OT.rec (motive := fun _ => Nat → OT) (fun i => Bool.rec OT.nil (OT.node o .nil .nil) (Nat.beq i 0)) (fun v l r il ir i => Bool.rec (Bool.rec (OT.node v l (ir (Nat.sub (Nat.div i 2) 1))) (OT.node v (il (Nat.div i 2)) r) (Nat.beq (Nat.mod i 2) 1)) (OT.node o l r) (Nat.beq i 0))

theorem beqN (a b : Nat) : Nat.beq a b = decide (a = b) := BT.beq_eq a b
theorem OT.get_node (v : Option Obj) (l r : OT) (i : Nat) : (OT.node v l r).get i = if i = 0 then v else if i % 2 = 1 then l.get (i / 2) else r.get (i / 2 - 1) := by
  show (Bool.rec (Bool.rec (r.get (i / 2 - 1)) (l.get (i / 2)) (Nat.beq (i % 2) 1)) v (Nat.beq i 0) : Option Obj) = _
  rw [beqN, beqN]
  by_cases h : i = 0
  · simp [h]
  · by_cases q : i % 2 = 1 <;> simp [h, q]
theorem OT.put_nil (o : Option Obj) (i : Nat) : OT.nil.put o i = if i = 0 then .node o .nil .nil else .nil := by
  show (Bool.rec OT.nil (OT.node o .nil .nil) (Nat.beq i 0) : OT) = _
  rw [beqN]
  by_cases h : i = 0 <;> simp [h]
theorem OT.put_node (o : Option Obj) (v : Option Obj) (l r : OT) (i : Nat) : (OT.node v l r).put o i = if i = 0 then .node o l r else if i % 2 = 1 then .node v (l.put o (i / 2)) r else .node v l (r.put o (i / 2 - 1)) := by
  show (Bool.rec (Bool.rec (OT.node v l (r.put o (i / 2 - 1))) (OT.node v (l.put o (i / 2)) r) (Nat.beq (i % 2) 1)) (OT.node o l r) (Nat.beq i 0) : OT) = _
  rw [beqN, beqN]
  by_cases h : i = 0
  · simp [h]
  · by_cases q : i % 2 = 1 <;> simp [h, q]
theorem OT.get_nil (i : Nat) : OT.nil.get i = none := rfl
theorem odd_same {i a : Nat} (p : i % 2 = 1) (q : a % 2 = 1) (e : i / 2 = a / 2) : i = a := by rw [← Nat.div_add_mod i 2, ← Nat.div_add_mod a 2, p, q, e]
theorem half_pos {i : Nat} (h : i ≠ 0) (p : ¬ i % 2 = 1) : 0 < i / 2 := Nat.pos_of_ne_zero fun z => h (by rw [← Nat.div_add_mod i 2, z, (Nat.mod_two_eq_zero_or_one i).resolve_right p])
theorem even_same {i a : Nat} (hi : i ≠ 0) (ha : a ≠ 0) (p : ¬ i % 2 = 1) (q : ¬ a % 2 = 1) (e : i / 2 - 1 = a / 2 - 1) : i = a := by
  have h := Nat.sub_one_cancel (half_pos hi p) (half_pos ha q) e
  rw [← Nat.div_add_mod i 2, ← Nat.div_add_mod a 2, (Nat.mod_two_eq_zero_or_one i).resolve_right p, (Nat.mod_two_eq_zero_or_one a).resolve_right q, h]
/-- what a tree tells behind a put was put or was told before -/
theorem OT.get_put (o : Option Obj) : ∀ (t : OT) (a i : Nat) (x : Obj), (t.put o a).get i = some x → (i = a ∧ o = some x) ∨ (i ≠ a ∧ t.get i = some x)
  | .nil, a, i, x, h => by
    rw [put_nil] at h
    by_cases ha : a = 0
    · rw [if_pos ha, get_node] at h
      by_cases hi : i = 0
      · rw [if_pos hi] at h; exact .inl ⟨hi.trans ha.symm, h⟩
      · rw [if_neg hi, get_nil, get_nil] at h; simp at h
    · rw [if_neg ha, get_nil] at h; cases h
  | .node v l r, a, i, x, h => by
    rw [put_node] at h
    rw [get_node]
    by_cases ha : a = 0
    · rw [if_pos ha, get_node] at h
      by_cases hi : i = 0
      · rw [if_pos hi] at h; exact .inl ⟨hi.trans ha.symm, h⟩
      · rw [if_neg hi] at h; rw [if_neg hi]; exact .inr ⟨fun z => hi (z.trans ha), h⟩
    · rw [if_neg ha] at h
      by_cases pa : a % 2 = 1
      · rw [if_pos pa, get_node] at h
        by_cases hi : i = 0
        · rw [if_pos hi] at h ⊢; exact .inr ⟨fun z => ha (z.symm.trans hi), h⟩
        · rw [if_neg hi] at h ⊢
          by_cases pi : i % 2 = 1
          · rw [if_pos pi] at h ⊢
            rcases get_put o l _ _ _ h with ⟨e, q⟩ | ⟨e, q⟩
            · exact .inl ⟨odd_same pi pa e, q⟩
            · exact .inr ⟨fun z => e (by rw [z]), q⟩
          · rw [if_neg pi] at h ⊢; exact .inr ⟨fun z => pi (by rw [z]; exact pa), h⟩
      · rw [if_neg pa, get_node] at h
        by_cases hi : i = 0
        · rw [if_pos hi] at h ⊢; exact .inr ⟨fun z => ha (z.symm.trans hi), h⟩
        · rw [if_neg hi] at h ⊢
          by_cases pi : i % 2 = 1
          · rw [if_pos pi] at h ⊢; exact .inr ⟨fun z => pa (by rw [← z]; exact pi), h⟩
          · rw [if_neg pi] at h ⊢
            rcases get_put o r _ _ _ h with ⟨e, q⟩ | ⟨e, q⟩
            · exact .inl ⟨even_same hi ha pi pa e, q⟩
            · exact .inr ⟨fun z => e (by rw [z]), q⟩

inductive Out where
  | ok (r : Result) (T : OT) (m b i : Nat)
  | stuck (why : Nat)
/-- the place in the text, where it is known -/
abbrev PP := Option Pos
noncomputable def PosOk (p : PP) (q : Pos) : Prop := ∀ x, p = some x → q = x
abbrev Run := PP → OT → Nat → Nat → Nat → Out

structure Ar where
  handled : Option Value
  st : List (Code × PP)
/-- what is known of the codes around -/
noncomputable def StOk : List (Code × PP) → List (Code × Pos) → Prop
  | [], [] => True
  | x :: l, y :: l' => y.1 = x.1 ∧ PosOk x.2 y.2 ∧ StOk l l'
  | _, _ => False
noncomputable def known : List (Code × PP) → Option (List (Code × Pos)) :=
  List.rec (some []) (fun x _ ih => Option.rec (motive := fun _ => Option (List (Code × Pos))) none (fun l => Option.rec (motive := fun _ => Option (List (Code × Pos))) none (fun p => some ((x.1, p) :: l)) x.2) ih)
theorem known_ok {l : List (Code × PP)} : ∀ {l' k : List (Code × Pos)}, StOk l l' → known l = some k → l' = k := by
  induction l with
  | nil =>
    intro l' k hs h
    cases l' with
    | nil => exact Option.some.inj h
    | cons y l' => exact hs.elim
  | cons x l ih =>
    intro l' k hs h
    cases l' with
    | nil => exact hs.elim
    | cons y l' =>
      obtain ⟨c, p⟩ := x
      obtain ⟨c', q⟩ := y
      obtain ⟨h1, h2, h3⟩ := hs
      have h' : (Option.rec (motive := fun _ => Option (List (Code × Pos))) none (fun l => Option.rec (motive := fun _ => Option (List (Code × Pos))) none (fun p => some ((c, p) :: l)) p) (known l)) = some k := h
      cases z : known l with
      | none => rw [z] at h'; have h' : (none : Option (List (Code × Pos))) = some k := h'; cases h'
      | some r =>
        rw [z] at h'
        cases p with
        | none => have h' : (none : Option (List (Code × Pos))) = some k := h'; cases h'
        | some p =>
          have h' := Option.some.inj h'
          have := h2 p rfl
          dsimp only at h1 this h'
          rw [← h', h1, this, ih h3 z]

/-- may an object be marked so: the sure mark is not followed here -/
noncomputable def markOk (hd : Option Value) : Bool := match hd with
  | none => true
  | some v => !(v == byPass)

/-! what a tree of objects says of a state -/
structure Frame where
  al : Nat → Bool
  h₀ : Heap
  gens : Array GenState
  drawn : Drawn
  os : OsState

structure Rep (F : Frame) (s : Shared) (T : OT) (m b i : Nat) : Prop where
  size : s.heap.objs.size = m
  get : ∀ a o, T.get a = some o → s.heap.get? a = some o
  toks : s.toks = b + i
  keep : ∀ a o, F.al a = false → F.h₀.get? a = some o → s.heap.get? a = some o
  there : ∀ a o, F.h₀.get? a = some o → ∃ o', s.heap.get? a = some o'
  low : F.h₀.objs.size ≤ m
  life : s.heap.life = F.h₀.life
  gens : s.gens = F.gens
  drawn : s.drawn = F.drawn
  os : s.os = F.os

section
variable {F : Frame} {s : Shared} {T : OT} {m b i : Nat}
theorem Rep.alloc (D : Rep F s T m b i) {o : Obj} (hf : o.isFreed = false) : Rep F { s with heap := s.heap.push o } (T.put (some o) m) (Nat.succ m) b i := by
  refine ⟨?_, fun a x e => ?_, D.toks, fun a x ha e => Heap.get?_push_of_some _ (D.keep a x ha e), fun a x e => ?_, Nat.le_succ_of_le D.low, ?_, D.gens, D.drawn, D.os⟩
  · show (s.heap.push o).objs.size = _
    rw [Heap.size_push, D.size]
  · rcases OT.get_put _ _ _ _ _ e with ⟨rfl, q⟩ | ⟨_, q⟩
    · cases q
      have := Heap.get?_push_size s.heap hf
      rw [D.size] at this
      exact this
    · exact Heap.get?_push_of_some _ (D.get a x q)
  · obtain ⟨o', q⟩ := D.there a x e
    exact ⟨o', Heap.get?_push_of_some _ q⟩
  · show (s.heap.push o).life = _
    rw [← D.life]
    rfl
theorem Rep.update (D : Rep F s T m b i) {a : Addr} {o : Obj} {f : Obj → Obj} (e : T.get a = some o) (ha : F.al a = true) (hf : (f o).isFreed = false) :
    Rep F { s with heap := s.heap.update a f } (T.put (some (f o)) a) m b i := by
  have ho := D.get a o e
  have hs : Heap.SameBut a s.heap (s.heap.update a f) := Heap.SameBut.update ..
  have hself : (s.heap.update a f).get? a = some (f o) := by first | exact Heap.get?_update_self f ho hf | exact Heap.get?_update_self _ ho hf
  refine ⟨?_, fun c x q => ?_, D.toks, fun c x hc q => ?_, fun c x q => ?_, D.low, ?_, D.gens, D.drawn, D.os⟩
  · show (s.heap.update a f).objs.size = _
    rw [hs.1, D.size]
  · rcases OT.get_put _ _ _ _ _ q with ⟨hca, q2⟩ | ⟨hn, q2⟩
    · rw [hca, hself]; exact q2
    · exact (hs.2 c hn).trans (D.get c x q2)
  · have hn : c ≠ a := fun z => by rw [z, ha] at hc; cases hc
    exact (hs.2 c hn).trans (D.keep c x hc q)
  · by_cases hn : c = a
    · subst hn; exact ⟨_, hself⟩
    · obtain ⟨o', q'⟩ := D.there c x q
      exact ⟨o', (hs.2 c hn).trans q'⟩
  · show (s.heap.update a f).life = _
    rw [← D.life]
    rfl
theorem Rep.fresh (D : Rep F s T m b i) : Rep F { s with toks := s.toks + 1 } T m b (Nat.succ i) :=
  ⟨D.size, D.get, by show s.toks + 1 = _; rw [D.toks]; rfl, D.keep, D.there, D.low, D.life, D.gens, D.drawn, D.os⟩
end

noncomputable def Sound (M : Model) (F : Frame) (go : Ar → Code → Run) : Prop :=
  ∀ A c p T m b i r T' m' b' i', go A c p T m b i = .ok r T' m' b' i' → ∀ q s, PosOk p q → Rep F s T m b i → ∀ R : Result → Shared → Prop, (∀ s', Rep F s' T' m' b' i' → R r s') →
    ∀ Γ : PySem.Ctx, Γ.code = c → Γ.handled = A.handled → StOk A.st Γ.below → wpCode M Γ R q s

theorem enter_handled {Γ : PySem.Ctx} {c : Code} {hd : Option Value} {p : Pos} (h : markOk hd = true) : (Γ.enter c hd p).handled = hd.or Γ.handled := by
  cases hd with
  | none => rfl
  | some v =>
    have : (v == byPass) = false := by simpa [markOk] using h
    show (if (v == byPass) = true then _ else _) = _
    rw [this]
    rfl

end Mine
open PySem PySem.W PySem.Spec PySem.Calls PyProof.Rows
set_option Elab.async false
namespace Mine
set_option genInjectivity false
set_option genSizeOf false

inductive Ans (α : Type) where
  | ok (a : α) (p : PP) (T : OT) (m b i : Nat)
  | err (e : Value) (p : PP) (T : OT) (m b i : Nat)
  | stuck (n : Nat)
abbrev R (α : Type) := PP → OT → Nat → Nat → Nat → Ans α

noncomputable def pu {α : Type} (a : α) : R α := fun p T m b i => .ok a p T m b i
noncomputable def no {α : Type} (n : Nat) : R α := fun _ _ _ _ _ => .stuck n
noncomputable def rz {α : Type} (e : Value) : R α := fun p T m b i => .err e p T m b i
noncomputable def bd {α β : Type} (x : R α) (f : α → R β) : R β := fun p T m b i =>
  Ans.rec (motive := fun _ => Ans β) (fun a p T m b i => f a p T m b i) (fun e p T m b i => .err e p T m b i) (fun n => .stuck n) (x p T m b i)
noncomputable def stand (p : Pos) : R Unit := fun _ T m b i => .ok () (some p) T m b i
/-- a raise is not followed -/
noncomputable def calm {α : Type} (x : R α) : R α := fun p T m b i =>
  Ans.rec (motive := fun _ => Ans α) (fun a p T m b i => .ok a p T m b i) (fun _ _ _ _ _ _ => .stuck 40) (fun n => .stuck n) (x p T m b i)
noncomputable def fzA {α : Type} (n : Nat) (k : Nat → Ans α) : Ans α := Nat.rec (motive := fun _ => Ans α) (k 0) (fun p _ => k (Nat.succ p)) n
noncomputable def fTA {α : Type} (T : OT) (k : OT → Ans α) : Ans α := OT.rec (motive := fun _ => Ans α) (k .nil) (fun v l r _ _ => k (.node v l r)) T
theorem fzA_eq {α : Type} (n : Nat) (k : Nat → Ans α) : fzA n k = k n := by cases n <;> rfl
theorem fTA_eq {α : Type} (T : OT) (k : OT → Ans α) : fTA T k = k T := by cases T <;> rfl

section
variable (al : Nat → Bool) (set : Setting) (go : Ar → Code → Run) (A : Ar) (c₀ : Code)

noncomputable def callR (c : Code) (hd : Option Value) : R Result := fun p T m b i =>
  Bool.rec (.stuck 26) (Out.rec (motive := fun _ => Ans Result) (fun r T' m' b' i' => .ok r p T' m' b' i') (fun w => .stuck w) (go ⟨hd.or A.handled, (c₀, p) :: A.st⟩ c p T m b i)) (markOk hd)

end
section
variable {α : Type}
noncomputable def mPure (a : α) : R α := pu a
noncomputable def mRaise (e : Value) : R α := rz e
noncomputable def mUns (_ : String) : R α := no 1
noncomputable def mFin (_ : Ending) : R α := no 2
noncomputable def mRule (_ : String) (_ : Unit → Sem α) (ih : Unit → R α) : R α := ih ()
noncomputable def mAt (p : Pos) (_ : Unit → Sem α) (ih : Unit → R α) : R α := fun _ => ih () (some p)
noncomputable def mLoad (a : Addr) (_ : Option Value) (_ : Obj → Sem α) (ih : Obj → R α) : R α := fun p T m b i => Option.rec (motive := fun _ => Ans α) (.stuck 3) (fun o => ih o p T m b i) (T.get a)
noncomputable def mUpdate (al : Nat → Bool) (a : Addr) (_ : Option Value) (f : Obj → Obj) (_ : Unit → Sem α) (ih : Unit → R α) : R α := fun p T m b i =>
  Option.rec (motive := fun _ => Ans α) (.stuck 21) (fun o => Bool.rec (motive := fun _ => Ans α) (.stuck 22) (Bool.rec (motive := fun _ => Ans α) (fTA (T.put (some (f o)) a) fun T' => ih () p T' m b i) (.stuck 23) (f o).isFreed) (al a)) (T.get a)
noncomputable def mAlloc (o : Obj) (_ : Addr → Sem α) (ih : Addr → R α) : R α := fun p T m b i => Bool.rec (motive := fun _ => Ans α) (fTA (T.put (some o) m) fun T' => fzA (Nat.succ m) fun m' => ih m p T' m' b i) (.stuck 24) o.isFreed
noncomputable def mAlive (a : Addr) (_ : Option Obj → Sem α) (ih : Option Obj → R α) : R α := fun p T m b i => Option.rec (motive := fun _ => Ans α) (.stuck 25) (fun o => ih (some o) p T m b i) (T.get a)
noncomputable def mPoint (_ : List Value) (_ : Unit → Sem α) (ih : Unit → R α) : R α := ih ()
noncomputable def mReg (_ : Addr) (_ : Unit → Sem α) (_ : Unit → R α) : R α := no 4
noncomputable def mFresh (_ : Tok → Sem α) (ih : Tok → R α) : R α := fun p T m b i => fzA (Nat.succ i) fun i' => ih (Nat.add b i) p T m b i'
noncomputable def mAsk (set : Setting) (_ : Setting → Sem α) (ih : Setting → R α) : R α := ih set
noncomputable def mChoose (_ : Source) (_ : Nat) (_ : Nat → Sem α) (_ : Nat → R α) : R α := no 5
noncomputable def mOs (_ : OsRequest) (_ : List Value) (_ : OsReply → Sem α) (_ : OsReply → R α) : R α := no 6
noncomputable def mCall (go : Ar → Code → Run) (A : Ar) (c₀ : Code) (c : Code) (hd : Option Value) (_ : Bool) (_ : List Value) (_ : Result → Sem α) (ih : Result → R α) : R α := bd (callR go A c₀ c hd) ih
noncomputable def mHandled (A : Ar) (own : Bool) (_ : Option Value → Sem α) (ih : Option Value → R α) : R α := Bool.rec (motive := fun _ => R α) (ih A.handled) (no 27) own
noncomputable def mNewGen (_ : Code) (_ : Nat → Sem α) (_ : Nat → R α) : R α := no 7
noncomputable def mGenState (_ : Nat) (_ : GenStatus × Option (List (Code × Pos)) → Sem α) (_ : GenStatus × Option (List (Code × Pos)) → R α) : R α := no 8
noncomputable def mResume (_ : Nat) (_ : Resume) (_ : List Value) (_ : GenResult → Sem α) (_ : GenResult → R α) : R α := no 9
noncomputable def mYield (_ : Value) (_ : Bool) (_ : List Value) (_ : Resume → Sem α) (_ : Resume → R α) : R α := no 10
noncomputable def mStack (A : Ar) (c₀ : Code) (_ : List (Code × Pos) → Sem α) (ih : List (Code × Pos) → R α) : R α := fun p T m b i => Option.rec (motive := fun _ => Ans α) (.stuck 29) (fun l => ih l p T m b i) (known ((c₀, p) :: A.st))
noncomputable def mFork (_ : Code) (_ : Nat → Sem α) (_ : Nat → R α) : R α := no 11
noncomputable def mThread (_ : Nat → Sem α) (_ : Nat → R α) : R α := no 12
noncomputable def mAwait (_ : Addr) (_ : Obj → Option Obj) (_ : Bool) (_ : List Value) (_ : Bool → Sem α) (_ : Bool → R α) : R α := no 13
end
section
variable (al : Nat → Bool) (set : Setting) (go : Ar → Code → Run) (A : Ar) (c₀ : Code)
noncomputable def leaf {α : Type} (t : Sem α) : R α :=
  Sem.rec (motive := fun _ => R α) mPure mRaise mUns mFin mRule mAt mLoad (mUpdate al) mAlloc mAlive mPoint mReg mFresh (mAsk set) mChoose mOs (mCall go A c₀) (mHandled A) mNewGen mGenState mResume mYield (mStack A c₀) mFork mThread mAwait t
end

/-- what an answer promises -/
noncomputable def Pays (F : Frame) {α : Type} (Q : α → Pos → Shared → Prop) (E : Value → Pos → Shared → Prop) : Ans α → Prop
  | .ok a p T m b i => ∀ q s, PosOk p q → Rep F s T m b i → Q a q s
  | .err e p T m b i => ∀ q s, PosOk p q → Rep F s T m b i → E e q s
  | .stuck _ => False

structure At (A : Ar) (c₀ : Code) (Γ : PySem.Ctx) : Prop where
  code : Γ.code = c₀
  handled : Γ.handled = A.handled
  below : StOk A.st Γ.below

noncomputable def Snd (M : Model) (F : Frame) (A : Ar) (c₀ : Code) {α : Type} (t : Sem α) (x : R α) : Prop :=
  ∀ p T m b i q s, PosOk p q → Rep F s T m b i → ∀ Γ : PySem.Ctx, At A c₀ Γ → ∀ (Q : α → Pos → Shared → Prop) (E : Value → Pos → Shared → Prop), Pays F Q E (x p T m b i) → Sem.wp M Γ t Q E q s

section
variable {M : Model} {F : Frame} {go : Ar → Code → Run} {A : Ar} {c₀ : Code} {α β : Type}

theorem snd_pure (a : α) : Snd M F A c₀ (Sem.pure a) (pu a) := fun _ _ _ _ _ q s K D _ _ _ _ h => h q s K D
theorem snd_pure' (a : α) : Snd M F A c₀ (Pure.pure a : Sem α) (pu a) := snd_pure a
theorem snd_no (t : Sem α) (n : Nat) : Snd M F A c₀ t (no n) := fun _ _ _ _ _ _ _ _ _ _ _ _ _ h => h.elim
theorem snd_raise (e : Value) : Snd M F A c₀ (Sem.raise e : Sem α) (rz e) := fun _ _ _ _ _ q s K D _ _ _ _ h => h q s K D
theorem snd_bd {t : Sem α} {x : R α} {f : α → Sem β} {g : α → R β} (ht : Snd M F A c₀ t x) (hf : ∀ a, Snd M F A c₀ (f a) (g a)) : Snd M F A c₀ (t.bind f) (bd x g) := by
  intro p T m b i q s K D Γ hΓ Q E h
  rw [Sem.wp_bind]
  refine ht p T m b i q s K D Γ hΓ _ _ ?_
  unfold bd at h
  cases z : x p T m b i with
  | ok a p' T' m' b' i' => rw [z] at h; exact fun q' s' K' D' => hf a p' T' m' b' i' q' s' K' D' Γ hΓ Q E h
  | err e p' T' m' b' i' => rw [z] at h; exact h
  | stuck n => rw [z] at h; exact h
theorem snd_bd' {t : Sem α} {x : R α} {f : α → Sem β} {g : α → R β} (ht : Snd M F A c₀ t x) (hf : ∀ a, Snd M F A c₀ (f a) (g a)) : Snd M F A c₀ (t >>= f) (bd x g) := snd_bd ht hf
theorem snd_hold {t : Sem α} {x : R α} (vs : List Value) (ht : Snd M F A c₀ t x) : Snd M F A c₀ (holding vs t) x := by
  intro p T m b i q s K D Γ hΓ Q E h
  rw [Sem.wp_holding]
  exact ht p T m b i q s K D Γ hΓ Q E h
theorem snd_keep {t : Sem α} {x : R α} (vs : List Value) (ht : Snd M F A c₀ t x) : Snd M F A c₀ (t.keep vs) x := by
  intro p T m b i q s K D Γ hΓ Q E h
  rw [Sem.wp_keep]
  exact ht p T m b i q s K D Γ hΓ Q E h
theorem posOk_some (p : Pos) : PosOk (some p) p := fun _ h => by injection h
theorem posOk_none (q : Pos) : PosOk none q := fun _ h => by cases h
theorem snd_stand (q : Pos) : Snd M F A c₀ (standAt q) (stand q) := fun _ _ _ _ _ _ s _ D _ _ _ _ h => h q s (posOk_some q) D
theorem snd_point : Snd M F A c₀ point (pu ()) := fun _ _ _ _ _ q s K D _ _ _ _ h => h q s K D
theorem snd_rule (tag : String) : Snd M F A c₀ (rule tag) (pu ()) := fun _ _ _ _ _ q s K D _ _ _ _ h => h q s K D
theorem snd_release (vs keep : List Value) : Snd M F A c₀ (release vs keep) (pu ()) := by
  intro p T m b i q s K D Γ hΓ Q E h
  rw [Sem.wp_release]
  exact h q s K D
theorem snd_calm {t : Sem α} {x : R α} (hd : Value → Sem Unit) (ht : Snd M F A c₀ t x) : Snd M F A c₀ (t.onRaise hd) (calm x) := by
  intro p T m b i q s K D Γ hΓ Q E h
  rw [Sem.wp_onRaise]
  refine ht p T m b i q s K D Γ hΓ _ _ ?_
  unfold calm at h
  cases z : x p T m b i with
  | ok a p' T' m' b' i' => rw [z] at h; exact h
  | err e p' T' m' b' i' => rw [z] at h; exact h.elim
  | stuck n => rw [z] at h; exact h
theorem snd_callR (G : Sound M F go) (c : Code) (hd : Option Value) (g : Bool) (l : List Value) : Snd M F A c₀ (.call c hd g l .pure) (callR go A c₀ c hd) := by
  intro p T m b i q s K D Γ hΓ Q E h
  unfold callR at h
  cases hm : markOk hd with
  | false => rw [hm] at h; exact h.elim
  | true =>
    rw [hm] at h
    dsimp only at h
    cases hg : go ⟨hd.or A.handled, (c₀, p) :: A.st⟩ c p T m b i with
    | stuck w => rw [hg] at h; exact h.elim
    | ok r₁ T₁ m₁ b₁ i₁ =>
      rw [hg] at h
      refine G _ _ _ _ _ _ _ _ _ _ _ _ hg q s K D (fun r s' => Sem.wp M Γ (.pure r) Q E q s') (fun s' D' => h q s' K D') (Γ.enter c hd q) rfl ?_ ?_
      · rw [enter_handled hm, hΓ.handled]
      · exact ⟨hΓ.code, K, hΓ.below⟩
theorem snd_call (G : Sound M F go) (c : Code) (hd : Option Value) (g : Bool) (l : List Value) {k : Result → Sem α} {x : Result → R α} (hk : ∀ r, Snd M F A c₀ (k r) (x r)) :
    Snd M F A c₀ (.call c hd g l k) (bd (callR go A c₀ c hd) x) := snd_bd (f := k) (snd_callR G c hd g l) hk
theorem snd_leaf (G : Sound M F go) (t : Sem α) : Snd M F A c₀ t (leaf F.al ⟨M.prog, M.w.params⟩ go A c₀ t) := by
  induction t with
  | pure a => exact snd_pure a
  | raise e => exact snd_raise e
  | unsupported | finish | register | choose | os | newGen | genState | resume | yield | fork | thread | await => exact snd_no _ _
  | rule tag k ih => exact fun p T m b i q s K D Γ hΓ Q E h => ih () p T m b i q s K D Γ hΓ Q E h
  | «at» q k ih => exact fun p T m b i _ s K D Γ hΓ Q E h => ih () (some q) T m b i q s (posOk_some q) D Γ hΓ Q E h
  | load a part k ih =>
    intro p T m b i q s K D Γ hΓ Q E h
    have h' : Pays F Q E (Option.rec (Ans.stuck 3) (fun o => leaf F.al ⟨M.prog, M.w.params⟩ go A c₀ (k o) p T m b i) (T.get a) : Ans α) := h
    cases z : T.get a with
    | none => rw [z] at h'; exact h'.elim
    | some o => rw [z] at h'; exact ⟨o, D.get a o z, ih o p T m b i q s K D Γ hΓ Q E h'⟩
  | update a part f k ih =>
    intro p T m b i q s K D Γ hΓ Q E h
    have h' : Pays F Q E (Option.rec (Ans.stuck 21) (fun o => Bool.rec (.stuck 22) (Bool.rec (fTA (T.put (some (f o)) a) fun T' => leaf F.al ⟨M.prog, M.w.params⟩ go A c₀ (k ()) p T' m b i) (.stuck 23) (f o).isFreed) (F.al a)) (T.get a) : Ans α) := h
    cases z : T.get a with
    | none => rw [z] at h'; exact h'.elim
    | some o =>
      rw [z] at h'
      dsimp only at h'
      cases ha : F.al a with
      | false => rw [ha] at h'; exact h'.elim
      | true =>
        rw [ha] at h'
        dsimp only at h'
        cases hf : (f o).isFreed with
        | true => rw [hf] at h'; exact h'.elim
        | false =>
          rw [hf] at h'
          dsimp only at h'
          rw [fTA_eq] at h'
          exact ⟨by rw [D.get a o z]; rfl, ih () p _ m b i q _ K (D.update z ha hf) Γ hΓ Q E h'⟩
  | alloc o k ih =>
    intro p T m b i q s K D Γ hΓ Q E h
    have h' : Pays F Q E (Bool.rec (fTA (T.put (some o) m) fun T' => fzA (Nat.succ m) fun m' => leaf F.al ⟨M.prog, M.w.params⟩ go A c₀ (k m) p T' m' b i) (.stuck 24) o.isFreed : Ans α) := h
    cases hf : o.isFreed with
    | true => rw [hf] at h'; exact h'.elim
    | false =>
      rw [hf] at h'
      dsimp only at h'
      rw [fTA_eq, fzA_eq] at h'
      have := ih m p _ _ b i q _ K (D.alloc hf) Γ hΓ Q E h'
      show Sem.wp M Γ (k s.heap.objs.size) _ _ q _
      rw [D.size]
      exact this
  | loadIfAlive a k ih =>
    intro p T m b i q s K D Γ hΓ Q E h
    have h' : Pays F Q E (Option.rec (Ans.stuck 25) (fun o => leaf F.al ⟨M.prog, M.w.params⟩ go A c₀ (k (some o)) p T m b i) (T.get a) : Ans α) := h
    cases z : T.get a with
    | none => rw [z] at h'; exact h'.elim
    | some o =>
      rw [z] at h'
      show Sem.wp M Γ (k (s.heap.get? a)) _ _ q s
      rw [D.get a o z]
      exact ih (some o) p T m b i q s K D Γ hΓ Q E h'
  | point l k ih => exact fun p T m b i q s K D Γ hΓ Q E h => ih () p T m b i q s K D Γ hΓ Q E h
  | fresh k ih =>
    intro p T m b i q s K D Γ hΓ Q E h
    have h' : Pays F Q E (fzA (Nat.succ i) (fun i' => leaf F.al ⟨M.prog, M.w.params⟩ go A c₀ (k (Nat.add b i)) p T m b i')) := h
    rw [fzA_eq] at h'
    have := ih (Nat.add b i) p T m b _ q _ K D.fresh Γ hΓ Q E h'
    show Sem.wp M Γ (k s.toks) _ _ q _
    rw [D.toks]
    rw [D.toks] at this
    exact this
  | ask k ih => exact fun p T m b i q s K D Γ hΓ Q E h => ih _ p T m b i q s K D Γ hΓ Q E h
  | call c hd g l k ih => exact snd_call G c hd g l ih
  | handled own k ih =>
    cases own with
    | true => exact snd_no _ _
    | false =>
      intro p T m b i q s K D Γ hΓ Q E h
      show Sem.wp M Γ (k Γ.handled) _ _ q s
      rw [hΓ.handled]
      exact ih A.handled p T m b i q s K D Γ hΓ Q E h
  | stack k ih =>
    intro p T m b i q s K D Γ hΓ Q E h
    have h' : Pays F Q E (Option.rec (motive := fun _ => Ans α) (.stuck 29) (fun l => leaf F.al ⟨M.prog, M.w.params⟩ go A c₀ (k l) p T m b i) (known ((c₀, p) :: A.st))) := h
    cases z : known ((c₀, p) :: A.st) with
    | none => rw [z] at h'; exact h'.elim
    | some l =>
      rw [z] at h'
      have := known_ok (l := (c₀, p) :: A.st) (l' := (Γ.code, q) :: Γ.below) ⟨hΓ.code, K, hΓ.below⟩ z
      show Sem.wp M Γ (k ((Γ.code, q) :: Γ.below)) _ _ q s
      rw [this]
      exact ih l p T m b i q s K D Γ hΓ Q E h'
theorem snd_assoc {γ : Type} {t : Sem α} {g : α → Sem β} {h : β → Sem γ} {x : R γ} (H : Snd M F A c₀ (t >>= fun a => g a >>= h) x) : Snd M F A c₀ ((t >>= g) >>= h) x := by
  intro p T m b i q s K D Γ hΓ Q E hh
  have := H p T m b i q s K D Γ hΓ Q E hh
  show Sem.wp M Γ ((t.bind g).bind h) Q E q s
  have this : Sem.wp M Γ (t.bind fun a => (g a).bind h) Q E q s := this
  rw [Sem.wp_bind] at this
  rw [Sem.wp_bind, Sem.wp_bind]
  refine Sem.wp_mono _ _ _ (fun a p s h' => ?_) (fun e p s h' => h') _ _ this
  rw [Sem.wp_bind] at h'
  exact h'
theorem snd_map {γ : Type} {t : Sem α} {x : R β} {h : β → α} {k : α → Sem γ} {y : β → R γ} (ht : Snd M F A c₀ t (bd x fun r => pu (h r))) (hk : ∀ r, Snd M F A c₀ (k (h r)) (y r)) :
    Snd M F A c₀ (t >>= k) (bd x y) := by
  intro p T m b i q s K D Γ hΓ Q E hh
  show Sem.wp M Γ (t.bind k) Q E q s
  rw [Sem.wp_bind]
  refine ht p T m b i q s K D Γ hΓ _ _ ?_
  unfold bd at hh ⊢
  cases z : x p T m b i with
  | ok a p' T' m' b' i' => rw [z] at hh; exact fun q' s' K' D' => hk a p' T' m' b' i' q' s' K' D' Γ hΓ Q E hh
  | err e p' T' m' b' i' => rw [z] at hh; exact hh
  | stuck n => rw [z] at hh; exact hh
theorem snd_pureB (a : α) {g : α → Sem β} {x : R β} (h : Snd M F A c₀ (g a) x) : Snd M F A c₀ ((Pure.pure a : Sem α) >>= g) x := h
theorem snd_skip {t : Sem Unit} {k : Unit → Sem α} {y : R α} (ht : Snd M F A c₀ t (pu ())) (hk : Snd M F A c₀ (k ()) y) : Snd M F A c₀ (t >>= k) y :=
  snd_bd' (x := pu ()) (g := fun _ => y) ht fun _ => hk
end
end Mine
open PySem PySem.W PySem.Spec PySem.Calls PyProof.Rows PySem.SeqAt
set_option Elab.async false
namespace Mine
set_option genInjectivity false
set_option genSizeOf false
set_option maxHeartbeats 0
set_option linter.unusedVariables false

/-- a new whole number; the place is forgotten -/
noncomputable def mkI (z : Int) : R Value := fun _ T m b i => fzA (Nat.succ i) fun i' => .ok (.int z (Nat.add b i)) none T m b i'
/-- an answer that leaves all as it is, but for the place -/
noncomputable def says {α : Type} (a : α) : R α := fun _ T m b i => .ok a none T m b i
/-- the number of entries in C below a code -/
noncomputable def unitsP (l : List (Code × PP)) : Nat := (l.map (·.1.cUnits)).sum
noncomputable def unitsAt (A : Ar) (c₀ : Code) : Nat := c₀.cUnits + unitsP A.st
theorem units_st {l : List (Code × PP)} : ∀ {l' : List (Code × Pos)}, StOk l l' → unitsOf l' = unitsP l := by
  induction l with
  | nil =>
    intro l' h
    cases l' with
    | nil => rfl
    | cons y l' => exact h.elim
  | cons x l ih =>
    intro l' h
    cases l' with
    | nil => exact h.elim
    | cons y l' =>
      obtain ⟨c, p⟩ := x
      obtain ⟨c', q⟩ := y
      have h1 : c' = c := h.1
      have h3 := ih h.2.2
      subst h1
      rw [unitsOf_cons, h3]
      simp [unitsP]

noncomputable def around (Γ : PySem.Ctx) : Around := { handled := Γ.handled, depth := frameCount Γ.below + Γ.code.weight, units := Γ.units }
theorem in_around (Γ : PySem.Ctx) : Γ.In (around Γ) := ⟨rfl, Nat.le_refl _, (fun l h => by cases h), (fun l h => by cases h), Nat.le_refl _⟩
theorem units_around {A : Ar} {c₀ : Code} {Γ : PySem.Ctx} (h : At A c₀ Γ) : (around Γ).units = unitsAt A c₀ := by
  show Γ.code.cUnits + unitsOf Γ.below = _
  rw [h.code, units_st h.below]
  rfl

section
variable {pg : Program} {w : World} {F : Frame} {A : Ar} {c₀ : Code} {α β : Type}

theorem of_any {t : Sem α} {Γ : PySem.Ctx} {q : Pos} {s : Shared} {Q : α → Pos → Shared → Prop} {E : Value → Pos → Shared → Prop} {Q' : α → Shared → Prop}
    (h : wpAny (model pg w) (around Γ) t Q' (fun _ _ => False) s) (hq : ∀ a s', Q' a s' → ∀ q', Q a q' s') : Sem.wp (model pg w) Γ t Q E q s :=
  Sem.wp_mono _ _ _ (fun a q' s' x => hq a s' x q') (fun _ _ _ x => x.elim) _ _ (h Γ q (in_around Γ))
theorem snd_mkI {t : Sem Value} {z : Int} (h : ∀ (A' : Around) (Q : Value → Shared → Prop) (E : Value → Shared → Prop) (s : Shared), Q (.int z s.toks) { s with toks := s.toks + 1 } → wpAny (model pg w) A' t Q E s) :
    Snd (model pg w) F A c₀ t (mkI z) := by
  intro p T m b i q s K D Γ hΓ Q E hp
  have hp' : Pays F Q E (fzA (Nat.succ i) fun i' => .ok (.int z (Nat.add b i)) none T m b i') := hp
  rw [fzA_eq] at hp'
  refine of_any (h (around Γ) (fun v s' => ∀ q', Q v q' s') _ s ?_) fun a s' x => x
  intro q'
  have := hp' q' _ (posOk_none q') D.fresh
  rw [D.toks]
  rw [D.toks] at this
  exact this
/-- state as it is -/
theorem of_says {t : Sem α} {a : α} {p : PP} {T : OT} {m b i : Nat} {s : Shared} {q : Pos} (D : Rep F s T m b i) {Γ : PySem.Ctx} {Q : α → Pos → Shared → Prop} {E : Value → Pos → Shared → Prop}
    (hp : Pays F Q E (says a p T m b i)) (h : ∀ Q' : α → Shared → Prop, Q' a s → wpAny (model pg w) (around Γ) t Q' (fun _ _ => False) s) : Sem.wp (model pg w) Γ t Q E q s :=
  of_any (h (fun a s' => ∀ q', Q a q' s') fun q' => hp q' s (posOk_none q') D) fun _ _ x => x
theorem snd_says {t : Sem α} {a : α} (h : ∀ (A' : Around) (Q : α → Shared → Prop) (E : Value → Shared → Prop) (s : Shared), Q a s → wpAny (model pg w) A' t Q E s) :
    Snd (model pg w) F A c₀ t (says a) := fun p T m b i q s K D Γ hΓ Q E hp => of_says D hp fun Q' hq => h _ _ _ _ hq

/-! whole numbers -/
noncomputable def isZero : Int → Bool
  | .ofNat n => Nat.beq n 0
  | .negSucc _ => false
noncomputable def nonNeg : Int → Option Nat
  | .ofNat n => some n
  | .negSucc _ => none
theorem not_zero {y : Int} (h : isZero y = false) : ¬ (y == 0) = true := by
  intro e
  have := eq_of_beq e
  subst this
  exact absurd h (by decide)
theorem not_pylong {x y : Int} (h : Nat.ble y.natAbs.log2 8000 = true) : ¬ Builtin.divisionGoesByPylong x y = true := by
  have h' := Nat.le_of_ble_eq_true h
  unfold Builtin.divisionGoesByPylong
  simp only [Bool.and_eq_true, decide_eq_true_eq, not_and]
  intro h1
  exfalso
  split at h1
  · omega
  · omega
noncomputable def binI (op : Operator) (x y : Int) : Option (R Value) := match op with
  | .Add => some (mkI (x + y))
  | .Sub => some (mkI (x - y))
  | .Mult => Bool.rec (Bool.rec none (some (mkI (x * y))) (Nat.ble (Builtin.Int.intBits x) 64)) (some (mkI (x * y))) (Nat.ble (Builtin.Int.intBits y) 64)
  | .Mod => Bool.rec (some (mkI (x.fmod y))) none (isZero y)
  | .FloorDiv => Bool.rec (Bool.rec none (some (mkI (x.fdiv y))) (Nat.ble y.natAbs.log2 8000)) none (isZero y)
  | _ => none
theorem binI_ok {op : Operator} {x y : Int} {t u : Tok} {z : R Value} (h : binI op x y = some z) : Snd (model pg w) F A c₀ (binaryOp op (.int x t) (.int y u)) z := by
  unfold binI at h
  split at h
  · cases h; exact snd_mkI fun A' Q E s hq => P.add_int hq
  · cases h; exact snd_mkI fun A' Q E s hq => P.sub_int hq
  · cases h1 : Nat.ble (Builtin.Int.intBits y) 64 with
    | true => rw [h1] at h; cases h; exact snd_mkI fun A' Q E s hq => P.mul_int hq (IntMulOk.of_right (Nat.le_of_ble_eq_true h1))
    | false =>
      rw [h1] at h
      cases h2 : Nat.ble (Builtin.Int.intBits x) 64 with
      | true => rw [h2] at h; cases h; exact snd_mkI fun A' Q E s hq => P.mul_int hq (IntMulOk.of_left (Nat.le_of_ble_eq_true h2))
      | false => rw [h2] at h; cases h
  · cases h1 : isZero y with
    | true => rw [h1] at h; cases h
    | false => rw [h1] at h; cases h; exact snd_mkI fun A' Q E s hq => AutoIntOps.mod_1 (not_zero h1) hq
  · cases h1 : isZero y with
    | true => rw [h1] at h; cases h
    | false =>
      rw [h1] at h
      cases h2 : Nat.ble y.natAbs.log2 8000 with
      | false => rw [h2] at h; cases h
      | true => rw [h2] at h; cases h; exact snd_mkI fun A' Q E s hq => AutoIntOps.floordiv_1 (not_zero h1) (not_pylong h2) hq
  · cases h
noncomputable def inpI (op : Operator) (x y : Int) : Option (R Value) := match op with
  | .Add => some (mkI (x + y))
  | .Sub => some (mkI (x - y))
  | _ => none
theorem inpI_ok {op : Operator} {x y : Int} {t u : Tok} {z : R Value} (h : inpI op x y = some z) : Snd (model pg w) F A c₀ (inplaceOp op (.int x t) (.int y u)) z := by
  unfold inpI at h
  split at h
  · cases h; exact snd_mkI fun A' Q E s hq => P.iadd_int hq
  · cases h; exact snd_mkI fun A' Q E s hq => P.isub_int hq
  · cases h
noncomputable def cmpI (op : CmpOp) (x y : Int) : Option Bool := match op with
  | .Eq => some (x == y)
  | .NotEq => some (x != y)
  | .Lt => some (decide (x < y))
  | .LtE => some (decide (x ≤ y))
  | .Gt => some (decide (x > y))
  | .GtE => some (decide (x ≥ y))
  | _ => none
theorem cmpI_ok {op : CmpOp} {x y : Int} {t u : Tok} {z : Bool} (h : cmpI op x y = some z) : Snd (model pg w) F A c₀ (compareOp op (.int x t) (.int y u)) (says (.bool z)) := by
  unfold cmpI at h
  split at h
  · cases h; exact snd_says fun A' Q E s hq => P.eq_int hq
  · cases h; exact snd_says fun A' Q E s hq => P.ne_int hq
  · cases h; exact snd_says fun A' Q E s hq => P.lt_int hq
  · cases h; exact snd_says fun A' Q E s hq => P.le_int hq
  · cases h; exact snd_says fun A' Q E s hq => P.gt_int hq
  · cases h; exact snd_says fun A' Q E s hq => P.ge_int hq
  · cases h
end

/-! equality of plain values -/
noncomputable def eqQ : Value → Value → Option Bool
  | .int a _, .int b _ => some (a == b)
  | .str a _, .str b _ => some (a == b)
  | .bytes a _, .bytes b _ => some (decide (a.toList = b.toList))
  | _, _ => none
theorem eqQ_ok {A : Around} {s : Shared} {y x : Value} {r : Bool} (h : eqQ y x = some r) : EqAt A s y x r := by
  unfold eqQ at h
  split at h
  · cases h; exact EqAt.int_int _ _ _ _
  · cases h; exact EqAt.str_str _ _ _ _
  · cases h; exact fun pg w E Q hq => eqBool_bytes hq
  · cases h
noncomputable def hasEq (x y : Value) : Bool := (eqQ y x).isSome
noncomputable def isEq (x y : Value) : Bool := (eqQ y x).getD false
theorem hasEq_ok {A : Around} {s : Shared} {y x : Value} (h : hasEq x y = true) : EqAt A s y x (isEq x y) := by
  unfold hasEq at h
  unfold isEq
  cases z : eqQ y x with
  | none => rw [z] at h; cases h
  | some r => exact eqQ_ok z
noncomputable def noNI : Option Value → Option Value
  | some .notImplemented => none
  | none => none
  | some v => some v
/-- is it an iterator that gives itself? -/
noncomputable def isIter (T : OT) (v : Value) : Bool := match v with
  | .ref a => match T.get a with
    | some o => match o.cls with
      | .type n => n == "list_iterator" || (n == "tuple_iterator" || (n == "dict_keyiterator" || (n == "dict_valueiterator" || n == "enumerate")))
      | _ => false
    | none => false
  | _ => false
/-- the items of a list or of a tuple -/
noncomputable def itemsOf (T : OT) (isT : Bool) (v : Value) : Option (Array Value) := match v with
  | .ref a => match T.get a with
    | some o => match o.data with
      | .seq xs _ => if o.cls = (bif isT then .type "tuple" else .type "list") then some xs else none
      | _ => none
    | none => none
  | _ => none
noncomputable def pairsEq : List Value → List Value → Option Bool
  | x :: xs, y :: ys => match eqQ x y, pairsEq xs ys with
    | some a, some b => some (a && b)
    | _, _ => none
  | [], _ => some true
  | _, [] => some true

section
variable (al : Nat → Bool) (set : Setting) (go : Ar → Code → Run) (A : Ar) (c₀ : Code)

noncomputable def eqBoolR (y x : Value) : R Bool := match eqQ y x with
  | some r => says r
  | none => leaf al set go A c₀ (eqBool y x)
noncomputable def bindIfR (v : Value) (name : Str) : R (Option (Value × List Value)) :=
  bd (leaf al set go A c₀ (specialOf v name)) fun f => Option.rec (motive := fun _ => R _) (pu none) (fun f => calm (bd (leaf al set go A c₀ (bindSpecial f v)) fun r => pu (some r))) f
noncomputable def callIfR (v : Value) (name : Str) (args : List Value) : R (Option Value) :=
  bd (bindIfR al set go A c₀ v name) fun r => Option.rec (motive := fun _ => R _) (pu none) (fun gf => bd (leaf al set go A c₀ (call gf.1 (gf.2 ++ args))) fun v => pu (some v)) r
noncomputable def tryCmpR (a : Value) (name : Str) (b : Value) : R (Option Value) :=
  bd (callIfR al set go A c₀ a name [b]) fun r => pu (noNI r)
noncomputable def idR (op : CmpOp) (a b : Value) : R Value := match op with
  | .Eq => bd (leaf al set go A c₀ (isSame a b)) fun x => pu (.bool x)
  | .NotEq => bd (leaf al set go A c₀ (isSame a b)) fun x => pu (.bool !x)
  | _ => no 61
noncomputable def richR (op : CmpOp) (a b : Value) : R Value :=
  bd (leaf al set go A c₀ (cRoomFor "comparison" [a, b])) fun _ => match oneThing? op a b with
    | some v => pu (.bool v)
    | none => bd (leaf al set go A c₀ (typeOf a)) fun ta => bd (leaf al set go A c₀ (typeOf b)) fun tb => bd (Bool.rec (motive := fun _ => R Bool) (pu false) (leaf al set go A c₀ (isSubtype tb ta)) (ta != tb)) fun rf =>
        Bool.rec (motive := fun _ => R Value) (bd (tryCmpR al set go A c₀ a (cmpInfo op).2.1 b) fun r => Option.rec (motive := fun _ => R Value)
          (bd (tryCmpR al set go A c₀ b (cmpInfo op).2.2 a) fun r => Option.rec (motive := fun _ => R Value) (idR al set go A c₀ op a b) (fun v => pu v) r) (fun v => pu v) r) (no 60) rf
noncomputable def callNNR (v : Value) (name : Str) : R (Option Value) :=
  bd (bindIfR al set go A c₀ v name) fun r => match r with
    | none => pu none
    | some (g, first) => Bool.rec (motive := fun _ => R (Option Value)) (bd (leaf al set go A c₀ (call g first)) fun x => pu (some x)) (no 66) (g == .none)
noncomputable def endIterR (it : Value) : R Value :=
  bd (leaf al set go A c₀ (specialOf it "__next__")) fun n => match n with
    | none => no 65
    | some _ => pu it
noncomputable def midIterR (v : Value) : R Value :=
  bd (callNNR al set go A c₀ v "__iter__") fun x => match x with
    | none => no 64
    | some it => endIterR al set go A c₀ it
noncomputable def pyIterR (v : Value) : R Value :=
  bd (leaf al set go A c₀ (specialOf v "__iter__")) fun f => match f with
    | none => no 62
    | some .none => no 63
    | some _ => midIterR al set go A c₀ v
end

section
variable {pg : Program} {w : World} {F : Frame} {go : Ar → Code → Run} {A : Ar} {c₀ : Code} {α β : Type}
theorem snd_eqBoolR (G : Sound (model pg w) F go) (y x : Value) : Snd (model pg w) F A c₀ (eqBool y x) (eqBoolR F.al ⟨pg, w.params⟩ go A c₀ y x) := by
  unfold eqBoolR
  split
  · rename_i r h
    exact snd_says fun A' Q E s hq => eqQ_ok h pg w E Q hq
  · exact snd_leaf G _
theorem snd_catch {t : Sem α} {x : R α} (h : Value → Sem α) (ht : Snd (model pg w) F A c₀ t x) : Snd (model pg w) F A c₀ (t.tryCatch h) (calm x) := by
  intro p T m b i q s K D Γ hΓ Q E hp
  rw [Sem.wp_tryCatch]
  refine ht p T m b i q s K D Γ hΓ _ _ ?_
  unfold calm at hp
  cases z : x p T m b i with
  | ok a p' T' m' b' i' => rw [z] at hp; exact hp
  | err e p' T' m' b' i' => rw [z] at hp; exact hp.elim
  | stuck n => rw [z] at hp; exact hp
theorem snd_calmed {t : Sem α} {x : R α} (ht : Snd (model pg w) F A c₀ t x) : Snd (model pg w) F A c₀ t (calm x) := by
  intro p T m b i q s K D Γ hΓ Q E hp
  refine ht p T m b i q s K D Γ hΓ _ _ ?_
  unfold calm at hp
  cases z : x p T m b i with
  | ok a p' T' m' b' i' => rw [z] at hp; exact hp
  | err e p' T' m' b' i' => rw [z] at hp; exact hp.elim
  | stuck n => rw [z] at hp; exact hp
theorem snd_ask {k : Setting → Sem α} {x : R α} (h : Snd (model pg w) F A c₀ (k ⟨pg, w.params⟩) x) : Snd (model pg w) F A c₀ (ask >>= k) x := fun p T m b i q s K D Γ hΓ Q E hp => h p T m b i q s K D Γ hΓ Q E hp
theorem snd_bindIfR (G : Sound (model pg w) F go) (v : Value) (name : Str) : Snd (model pg w) F A c₀ (bindSpecialIfBound? v name) (bindIfR F.al ⟨pg, w.params⟩ go A c₀ v name) := by
  refine snd_bd' (snd_leaf G _) fun f => ?_
  cases f with
  | none => exact snd_pure' _
  | some f =>
    refine snd_ask ?_
    have hb : Snd (model pg w) F A c₀ (do return some (← bindSpecial f v)) (bd (leaf F.al ⟨pg, w.params⟩ go A c₀ (bindSpecial f v)) fun r => pu (some r)) := snd_bd' (snd_leaf G _) fun r => snd_pure' _
    by_cases h : (Params.followText w.params "special-get-raises") = true
    · show Snd (model pg w) F A c₀ (if (Params.followText w.params "special-get-raises") = true then _ else _) _
      rw [if_pos h]; exact snd_calmed hb
    · show Snd (model pg w) F A c₀ (if (Params.followText w.params "special-get-raises") = true then _ else _) _
      rw [if_neg h]; exact snd_catch _ hb
theorem snd_callIfR (G : Sound (model pg w) F go) (v : Value) (name : Str) (args : List Value) : Snd (model pg w) F A c₀ (callSpecialIfBound? v name args) (callIfR F.al ⟨pg, w.params⟩ go A c₀ v name args) := by
  refine snd_hold _ (snd_bd' (snd_bindIfR G v name) fun r => ?_)
  cases r with
  | none => exact snd_pure' _
  | some gf => exact snd_bd' (snd_leaf G _) fun x => snd_pure' _
theorem snd_tryCmpR (G : Sound (model pg w) F go) (a : Value) (name : Str) (b : Value) : Snd (model pg w) F A c₀ (tryCompare a name b) (tryCmpR F.al ⟨pg, w.params⟩ go A c₀ a name b) := by
  refine snd_bd' (snd_callIfR G a name [b]) fun r => ?_
  cases r with
  | none => exact snd_pure' _
  | some v => cases v <;> exact snd_pure' _
theorem snd_richR (G : Sound (model pg w) F go) (op : CmpOp) (a b : Value) : Snd (model pg w) F A c₀ (richCompare op a b) (richR F.al ⟨pg, w.params⟩ go A c₀ op a b) := by
  refine snd_hold _ (snd_bd' (snd_leaf G _) fun _ => ?_)
  cases h : oneThing? op a b with
  | some v => exact snd_skip (snd_rule _) (snd_pure' _)
  | none =>
    refine snd_bd' (snd_leaf G _) fun ta => snd_bd' (snd_leaf G _) fun tb => ?_
    have hfin : Snd (model pg w) F A c₀ (match op with
        | .Eq => do rule "compare.eq-identity"; return .bool (← isSame a b)
        | .NotEq => do rule "compare.ne-identity"; return .bool (!(← isSame a b))
        | _ => do
          rule "compare.unsupported"
          raiseError "TypeError" s!"'{(cmpInfo op).1}' not supported between instances of '{← typeNameOf a}' and '{← typeNameOf b}'") (idR F.al ⟨pg, w.params⟩ go A c₀ op a b) := by
      unfold idR
      cases op <;> first | exact snd_skip (snd_rule _) (snd_bd' (snd_leaf G _) fun x => snd_pure' _) | exact snd_no _ _
    cases h2 : (ta != tb) with
    | true =>
      refine snd_bd' (snd_leaf G _) fun rf => ?_
      cases rf with
      | true => exact snd_no _ _
      | false =>
        refine snd_bd' (snd_tryCmpR G _ _ _) fun r => ?_
        cases r with
        | some v => exact snd_pure' _
        | none =>
          refine snd_bd' (snd_tryCmpR G _ _ _) fun r => ?_
          cases r with
          | some v => exact snd_pure' _
          | none => exact hfin
    | false =>
      refine snd_bd' (t := Pure.pure false) (snd_pure' _) fun rf => ?_
      cases rf with
      | true => exact snd_no _ _
      | false =>
        refine snd_bd' (snd_tryCmpR G _ _ _) fun r => ?_
        cases r with
        | some v => exact snd_pure' _
        | none =>
          refine snd_bd' (snd_tryCmpR G _ _ _) fun r => ?_
          cases r with
          | some v => exact snd_pure' _
          | none => exact hfin
theorem snd_callNNR (G : Sound (model pg w) F go) (v : Value) (name : Str) (rf : Sem Value) : Snd (model pg w) F A c₀ (callSpecialIfBoundUnlessNone? v name rf) (callNNR F.al ⟨pg, w.params⟩ go A c₀ v name) := by
  refine snd_hold _ (snd_bd' (snd_bindIfR G v name) fun r => ?_)
  cases r with
  | none => exact snd_pure' _
  | some gf =>
    obtain ⟨g, first⟩ := gf
    dsimp only
    cases hg : (g == Value.none) with
    | true => exact snd_no _ _
    | false => exact snd_bd' (snd_leaf G _) fun x => snd_pure' _
theorem snd_pyIterR (G : Sound (model pg w) F go) (v : Value) : Snd (model pg w) F A c₀ (pyIter v) (pyIterR F.al ⟨pg, w.params⟩ go A c₀ v) := by
  refine snd_bd' (snd_leaf G _) fun f => ?_
  cases f with
  | none => exact snd_no _ _
  | some f =>
    have main : ∀ rf : Sem Value, ∀ k0 : Sem Value, ∀ k1 : Value → Sem Value, Snd (model pg w) F A c₀ (callSpecialIfBoundUnlessNone? v "__iter__" rf >>= fun x => match x with
        | some it => specialOf it "__next__" >>= fun n => match n with
          | none => k1 it
          | some _ => pure it
        | none => k0) (midIterR F.al ⟨pg, w.params⟩ go A c₀ v) := by
      intro rf k0 k1
      refine snd_bd' (snd_callNNR G v "__iter__" rf) fun x => ?_
      cases x with
      | none => exact snd_no _ _
      | some it =>
        refine snd_bd' (snd_leaf G _) fun n => ?_
        cases n with
        | none => exact snd_no _ _
        | some _ => exact snd_pure' _
    cases f <;> first | exact main _ _ _ | exact snd_no _ _
theorem isIter_ok {T : OT} {v : Value} {s : Shared} {m b i : Nat} (D : Rep F s T m b i) (h : isIter T v = true) {A' : Around} {E : Value → Shared → Prop} {Q : Value → Shared → Prop} (hq : Q v s) : wpAny (model pg w) A' (pyIter v) Q E s := by
  unfold isIter at h
  split at h
  · rename_i a
    split at h
    · rename_i o ho
      have ho := D.get a o ho
      split at h
      · rename_i n hc
        simp only [Bool.or_eq_true, beq_iff_eq] at h
        rcases h with rfl | rfl | rfl | rfl | rfl
        · have hT : s.TypeIs (.ref a) "list_iterator" := ⟨_, ho, hc⟩
          refine wpAny_pyIter_slot hT slot_listiter_iter (wpAny_call_entry slot_listiter_iter hT entry_listiter_iter ?_ (args_listiter_iter _))
          show wpAny _ _ (ret (.ref a)) _ _ s
          exact wpAny_pure ⟨_, rfl, "list_iterator", _, hT, slot_listiter_next.lookup, hq⟩
        · have hT : s.TypeIs (.ref a) "tuple_iterator" := ⟨_, ho, hc⟩
          refine wpAny_pyIter_slot hT PySem.F.slot_tuple_iterator_iter (wpAny_call_entry PySem.F.slot_tuple_iterator_iter hT PySem.F.entry_tuple_iterator_iter ?_ (PySem.F.args_tuple_iterator_iter_1 _))
          show wpAny _ _ (ret (.ref a)) _ _ s
          exact wpAny_pure ⟨_, rfl, "tuple_iterator", _, hT, PySem.F.slot_tuple_iterator_next.lookup, hq⟩
        · have hT : s.TypeIs (.ref a) "dict_keyiterator" := ⟨_, ho, hc⟩
          refine wpAny_pyIter_slot hT PySem.F.slot_dict_keyiterator_iter (wpAny_call_entry PySem.F.slot_dict_keyiterator_iter hT PySem.F.entry_dict_keyiterator_iter ?_ (PySem.F.args_dict_keyiterator_iter_1 _))
          show wpAny _ _ (ret (.ref a)) _ _ s
          exact wpAny_pure ⟨_, rfl, "dict_keyiterator", _, hT, PySem.F.slot_dict_keyiterator_next.lookup, hq⟩
        · have hT : s.TypeIs (.ref a) "dict_valueiterator" := ⟨_, ho, hc⟩
          refine wpAny_pyIter_slot hT PySem.F.slot_dict_valueiterator_iter (wpAny_call_entry PySem.F.slot_dict_valueiterator_iter hT entry_dict_valueiterator_iter ?_ (PySem.F.args_dict_valueiterator_iter_1 _))
          show wpAny _ _ (ret (.ref a)) _ _ s
          exact wpAny_pure ⟨_, rfl, "dict_valueiterator", _, hT, PySem.F.slot_dict_valueiterator_next.lookup, hq⟩
        · have hT : s.TypeIs (.ref a) "enumerate" := ⟨_, ho, hc⟩
          refine wpAny_pyIter_slot hT PySem.F.slot_enumerate_iter (wpAny_call_entry PySem.F.slot_enumerate_iter hT PySem.F.entry_enumerate_iter ?_ (PySem.F.args_enumerate_iter_1 _))
          show wpAny _ _ (ret (.ref a)) _ _ s
          exact wpAny_pure ⟨_, rfl, "enumerate", _, hT, PySem.F.slot_enumerate_next.lookup, hq⟩
      · cases h
    · cases h
  · cases h
end
/-- a comprehension's start: the iterator is asked for itself once more, or not -/
noncomputable def compStartR (e : PySem.Expr) (depth : Nat) (it acc : Value) (env : Env) : R PySem.Fin := fun p T m b i =>
  Bool.rec (.stuck 67) (.ok (.again (.compLoop e depth it acc env)) none T m b i) (isIter T it && !(((clausesOf e)[depth]?).elim false (·.is_async != 0)))
section
variable {pg : Program} {w : World} {F : Frame} {go : Ar → Code → Run} {A : Ar} {c₀ : Code} {α β : Type}
theorem snd_compStartR (e : PySem.Expr) (depth : Nat) (it acc : Value) (env : Env) : Snd (model pg w) F A c₀ (compStart e depth it acc env) (compStartR e depth it acc env) := by
  intro p T m b i q s K D Γ hΓ Q E hp
  unfold compStartR at hp
  cases h : (isIter T it && !(((clausesOf e)[depth]?).elim false (·.is_async != 0))) with
  | false => rw [h] at hp; exact hp.elim
  | true =>
    rw [h] at hp
    have hp : ∀ q s, PosOk none q → Rep F s T m b i → Q (.again (.compLoop e depth it acc env)) q s := hp
    rw [Bool.and_eq_true, Bool.not_eq_true'] at h
    unfold compStart
    rw [if_neg (by rw [h.2]; decide)]
    show Sem.wp (model pg w) Γ (if (Params.followText w.params "comprehension-iter-twice") = true then _ else _) Q E q s
    by_cases hr : (Params.followText w.params "comprehension-iter-twice") = true
    · rw [if_pos hr]
      exact hp q s (posOk_none q) D
    · rw [if_neg hr]
      have fin : ∀ q', Sem.wp (model pg w) Γ (do again (.compLoop e depth (← pyIter it) acc env)) Q E q' s := by
        intro q'
        refine of_any (Q' := fun f s' => ∀ q', Q f q' s') (wpAny_bind (isIter_ok D h.1 (wpAny_pure fun q' => hp q' s (posOk_none q') D))) fun _ _ x => x
      cases hg : (clausesOf e)[depth]? with
      | none => exact fin q
      | some g => exact fin _
end

/-! comparisons -/
noncomputable def pairHas (xs ys : Array Value) (j : Nat) : Bool := match xs[j]?, ys[j]? with
  | some x, some y => (eqQ x y).isSome
  | _, _ => false
noncomputable def pairIs (xs ys : Array Value) (j : Nat) : Bool := match xs[j]?, ys[j]? with
  | some x, some y => (eqQ x y).getD false
  | _, _ => false
theorem pair_ok {A : Around} {s : Shared} {xs ys : Array Value} {n : Nat} (h : (List.range n).all (pairHas xs ys) = true) (hn : n = min xs.size ys.size) :
    ∀ j (h1 : j < xs.size) (h2 : j < ys.size), EqAt A s xs[j] ys[j] (pairIs xs ys j) := by
  intro j h1 h2
  have := List.all_eq_true.mp h j (List.mem_range.mpr (by omega))
  unfold pairHas at this
  unfold pairIs
  rw [Array.getElem?_eq_getElem h1, Array.getElem?_eq_getElem h2] at this ⊢
  dsimp only at this ⊢
  cases z : eqQ xs[j] ys[j] with
  | none => rw [z] at this; cases this
  | some r => exact eqQ_ok z
noncomputable def inAns (T : OT) (a b : Value) : Option Bool := match itemsOf T true b with
  | some xs => Bool.rec none (some (xs.any (isEq a))) (xs.all (hasEq a))
  | none => match itemsOf T false b with
    | some xs => Bool.rec none (some (xs.any (isEq a))) (xs.all (hasEq a))
    | none => none
noncomputable def eqAns (T : OT) (units : Nat) (a b : Value) : Option Bool := Bool.rec none (match itemsOf T true a, itemsOf T true b with
  | some xs, some ys => Bool.rec none (some ((List.range (min xs.size ys.size)).all (pairIs xs ys) && xs.size == ys.size)) ((List.range (min xs.size ys.size)).all (pairHas xs ys))
  | _, _ => match itemsOf T false a, itemsOf T false b with
    | some xs, some ys => Bool.rec (Bool.rec none (some ((List.range xs.size).all (pairIs xs ys))) ((List.range (min xs.size ys.size)).all (pairHas xs ys))) (some false) (xs.size != ys.size)
    | _, _ => none) (Nat.blt units cLine)
noncomputable def seqAns (T : OT) (units : Nat) (op : CmpOp) (a b : Value) : Option Bool := match op with
  | .In => inAns T a b
  | .NotIn => (inAns T a b).map (!·)
  | .Eq => eqAns T units a b
  | _ => none
section
variable (al : Nat → Bool) (set : Setting) (go : Ar → Code → Run) (A : Ar) (c₀ : Code)
noncomputable def otherR (op : CmpOp) (a b : Value) : R Value := match op with
  | .Is => leaf al set go A c₀ (compareOp .Is a b)
  | .IsNot => leaf al set go A c₀ (compareOp .IsNot a b)
  | .In => leaf al set go A c₀ (compareOp .In a b)
  | .NotIn => leaf al set go A c₀ (compareOp .NotIn a b)
  | op => richR al set go A c₀ op a b
noncomputable def cmpR (op : CmpOp) (a b : Value) : R Value := match a, b with
  | .int x t, .int y u => match cmpI op x y with
    | some z => says (.bool z)
    | none => otherR al set go A c₀ op (.int x t) (.int y u)
  | .str x t, .str y u => match op with
    | .Eq => says (.bool (x.cps.toList == y.cps.toList))
    | .NotEq => says (.bool (x.cps.toList != y.cps.toList))
    | op => otherR al set go A c₀ op (.str x t) (.str y u)
  | a, .ref c => fun p T m bb i => match seqAns T (unitsAt A c₀) op a (.ref c) with
    | some z => says (.bool z) p T m bb i
    | none => otherR al set go A c₀ op a (.ref c) p T m bb i
  | a, b => otherR al set go A c₀ op a b
noncomputable def binR (op : Operator) (a b : Value) : R Value := match a, b with
  | .int x t, .int y u => match binI op x y with
    | some z => z
    | none => leaf al set go A c₀ (binaryOp op (.int x t) (.int y u))
  | a, b => leaf al set go A c₀ (binaryOp op a b)
noncomputable def inpR (op : Operator) (a b : Value) : R Value := match a, b with
  | .int x t, .int y u => match inpI op x y with
    | some z => z
    | none => leaf al set go A c₀ (inplaceOp op (.int x t) (.int y u))
  | a, b => leaf al set go A c₀ (inplaceOp op a b)
end
section
variable {pg : Program} {w : World} {F : Frame} {go : Ar → Code → Run} {A : Ar} {c₀ : Code} {α β : Type}
theorem itemsOf_ok {T : OT} {v : Value} {s : Shared} {m b i : Nat} (D : Rep F s T m b i) {isT : Bool} {xs : Array Value} (h : itemsOf T isT v = some xs) :
    ∃ a, v = .ref a ∧ (isT = true → s.heap.IsTuple a xs) ∧ (isT = false → s.heap.IsList a xs) := by
  unfold itemsOf at h
  split at h
  · rename_i a
    split at h
    · rename_i o ho
      have ho := D.get a o ho
      split at h
      · rename_i ys n hd
        cases isT with
        | true =>
          by_cases hc : o.cls = .type "tuple"
          · have h : some ys = some xs := (if_pos hc).symm.trans h
            injection h with h
            subst h
            exact ⟨a, rfl, fun _ => ⟨o, ho, hc, n, hd⟩, fun e => by cases e⟩
          · have h : none = some xs := (if_neg hc).symm.trans h
            cases h
        | false =>
          by_cases hc : o.cls = .type "list"
          · have h : some ys = some xs := (if_pos hc).symm.trans h
            injection h with h
            subst h
            exact ⟨a, rfl, fun e => (by cases e), fun _ => ⟨o, ho, hc, n, hd⟩⟩
          · have h : none = some xs := (if_neg hc).symm.trans h
            cases h
      · cases h
    · cases h
  · cases h
theorem inAns_ok {T : OT} {a v : Value} {s : Shared} {m b i : Nat} (D : Rep F s T m b i) {z : Bool} (h : inAns T a v = some z) {A' : Around} {E : Value → Shared → Prop} {Q : Value → Shared → Prop} :
    (Q (.bool z) s → wpAny (model pg w) A' (compareOp .In a v) Q E s) ∧ (Q (.bool !z) s → wpAny (model pg w) A' (compareOp .NotIn a v) Q E s) := by
  unfold inAns at h
  cases h1 : itemsOf T true v with
  | some xs =>
    rw [h1] at h
    obtain ⟨l, rfl, hl, _⟩ := itemsOf_ok D h1
    dsimp only at h
    cases h2 : xs.all (hasEq a) with
    | false => rw [h2] at h; cases h
    | true =>
      rw [h2] at h; cases h
      have he : ∀ y, y ∈ xs → EqAt A'.in1 s y a (isEq a y) := fun y hy => hasEq_ok (Array.all_eq_true'.mp h2 y hy)
      exact ⟨fun hq => in_tupleAt (isEq a) (hl rfl) he hq, fun hq => notIn_tupleAt (isEq a) (hl rfl) he hq⟩
  | none =>
    rw [h1] at h
    dsimp only at h
    cases h3 : itemsOf T false v with
    | none => rw [h3] at h; cases h
    | some xs =>
      rw [h3] at h
      obtain ⟨l, rfl, _, hl⟩ := itemsOf_ok D h3
      dsimp only at h
      cases h2 : xs.all (hasEq a) with
      | false => rw [h2] at h; cases h
      | true =>
        rw [h2] at h; cases h
        have he : ∀ y, y ∈ xs → EqAt A'.in1 s y a (isEq a y) := fun y hy => hasEq_ok (Array.all_eq_true'.mp h2 y hy)
        exact ⟨fun hq => in_listAt (isEq a) (hl rfl) he hq, fun hq => notIn_listAt (isEq a) (hl rfl) he hq⟩
theorem eqAns_ok {T : OT} {a v : Value} {s : Shared} {m b i : Nat} (D : Rep F s T m b i) {z : Bool} {A' : Around} (h : eqAns T A'.units a v = some z) {E : Value → Shared → Prop} {Q : Value → Shared → Prop}
    (hq : Q (.bool z) s) : wpAny (model pg w) A' (compareOp .Eq a v) Q E s := by
  unfold eqAns at h
  cases h0 : Nat.blt A'.units cLine with
  | false => rw [h0] at h; cases h
  | true =>
    rw [h0] at h
    have hu : A'.units < cLine := by have := Nat.blt_eq (x := A'.units) (y := cLine); rw [← this]; exact h0
    dsimp only at h
    split at h
    · rename_i xs ys h1 h2
      obtain ⟨l, rfl, hl, _⟩ := itemsOf_ok D h1
      obtain ⟨r, rfl, hr, _⟩ := itemsOf_ok D h2
      cases h3 : (List.range (min xs.size ys.size)).all (pairHas xs ys) with
      | false => rw [h3] at h; cases h
      | true =>
        rw [h3] at h; cases h
        exact eq_tupleAt (hl rfl) (hr rfl) hu (pair_ok h3 rfl) hq
    · split at h
      · rename_i xs ys h1 h2
        obtain ⟨l, rfl, _, hl⟩ := itemsOf_ok D h1
        obtain ⟨r, rfl, _, hr⟩ := itemsOf_ok D h2
        cases h4 : (xs.size != ys.size) with
        | true =>
          rw [h4] at h; cases h
          exact eq_list_lengthsAt (hl rfl) (hr rfl) h4 hu hq
        | false =>
          rw [h4] at h
          cases h3 : (List.range (min xs.size ys.size)).all (pairHas xs ys) with
          | false => rw [h3] at h; cases h
          | true =>
            rw [h3] at h; cases h
            exact eq_listAt (hl rfl) (hr rfl) (by simpa using h4) hu (pair_ok h3 rfl) hq
      · cases h
theorem snd_otherR (G : Sound (model pg w) F go) (op : CmpOp) (a b : Value) : Snd (model pg w) F A c₀ (compareOp op a b) (otherR F.al ⟨pg, w.params⟩ go A c₀ op a b) := by
  unfold otherR
  cases op <;> first | exact snd_leaf G _ | exact snd_richR G _ _ _
theorem snd_cmpR (G : Sound (model pg w) F go) (op : CmpOp) (a b : Value) : Snd (model pg w) F A c₀ (compareOp op a b) (cmpR F.al ⟨pg, w.params⟩ go A c₀ op a b) := by
  unfold cmpR
  split
  · split
    · rename_i z h; exact cmpI_ok h
    · exact snd_otherR G _ _ _
  · split
    · exact snd_says fun A' Q E s hq => P.eq_str hq
    · exact snd_says fun A' Q E s hq => P.ne_str hq
    · exact snd_otherR G _ _ _
  · rename_i c _ _
    intro p T m bb i q s K D Γ hΓ Q E hp
    dsimp only at hp
    split at hp
    · rename_i z hz
      unfold seqAns at hz
      refine of_says D hp fun Q' hq => ?_
      split at hz
      · exact (inAns_ok D hz).1 hq
      · rw [Option.map_eq_some_iff] at hz
        obtain ⟨y, hy, rfl⟩ := hz
        exact (inAns_ok D hy).2 hq
      · rw [← units_around hΓ] at hz
        exact eqAns_ok D hz hq
      · cases hz
    · exact snd_otherR G _ _ _ p T m bb i q s K D Γ hΓ Q E hp
  · exact snd_otherR G _ _ _
theorem snd_binR (G : Sound (model pg w) F go) (op : Operator) (a b : Value) : Snd (model pg w) F A c₀ (binaryOp op a b) (binR F.al ⟨pg, w.params⟩ go A c₀ op a b) := by
  unfold binR
  split
  · split
    · rename_i z h; exact binI_ok h
    · exact snd_leaf G _
  · exact snd_leaf G _
theorem snd_inpR (G : Sound (model pg w) F go) (op : Operator) (a b : Value) : Snd (model pg w) F A c₀ (inplaceOp op a b) (inpR F.al ⟨pg, w.params⟩ go A c₀ op a b) := by
  unfold inpR
  split
  · split
    · rename_i z h; exact inpI_ok h
    · exact snd_leaf G _
  · exact snd_leaf G _
end

/-! look-ups in a dict -/
section
variable (al : Nat → Bool) (set : Setting) (go : Ar → Code → Run) (A : Ar) (c₀ : Code)
noncomputable def forR {σ : Type} (body : Nat → σ → R (ForInStep σ)) : List Nat → σ → R σ :=
  List.rec (fun s => pu s) (fun i _ ih s => bd (body i s) fun r => ForInStep.rec (motive := fun _ => R σ) (fun s => pu s) (fun s => ih s) r)
noncomputable def hashTypeR (v : Value) : R Int := bd (leaf al set go A c₀ (cRoomFor "hash" [v])) fun _ => bd (leaf al set go A c₀ (specialOf v "__hash__")) fun f => Bool.rec (motive := fun _ => R Int) (bd (leaf al set go A c₀ (specialOf v "__hash__")) fun g =>
  Bool.rec (motive := fun _ => R Int) (bd (callNNR al set go A c₀ v "__hash__") fun r => match r with
    | some (.int i _) => leaf al set go A c₀ (pyHashByItsType.reduced i)
    | _ => no 111) (no 110) g.isNone) (no 109) (f == some Value.none)
noncomputable def pyHashR (k : Value) : R Int := match k with
  | .str s t => bd (callIfR al set go A c₀ (.str s t) "__hash__" []) fun _ => leaf al set go A c₀ (strHash s)
  | v => hashTypeR al set go A c₀ v
noncomputable def foundR (d : Addr) (key : Value) (es : Array DictEntry) (s : Str) : R (Option Nat) := match es.findIdx? (·.key.isStr s) with
  | none => pu none
  | some i => match es[i]? with
    | none => pu none
    | some e => bd (leaf al set go A c₀ (dictEpoch d (keyPart key))) fun before => bd (eqBoolR al set go A c₀ e.key key) fun same => bd (leaf al set go A c₀ (dictEpoch d (keyPart key))) fun now =>
        Bool.rec (motive := fun _ => R (Option Nat)) (Bool.rec (motive := fun _ => R (Option Nat)) (no 52) (pu (some i)) same) (no 53) (now != before)
noncomputable def walkStep (d : Addr) (key : Value) (h : Int) (es : Array DictEntry) (i : Nat) (_ : Option (Option Nat) × Unit) : R (ForInStep (Option (Option Nat) × Unit)) := match es[i]? with
  | some e => Bool.rec (motive := fun _ => R _) (pu (.yield (none, ()))) (bd (leaf al set go A c₀ (dictEpoch d (keyPart key))) fun before => bd (eqBoolR al set go A c₀ e.key key) fun same => bd (leaf al set go A c₀ (dictEpoch d (keyPart key))) fun now =>
        Bool.rec (motive := fun _ => R _) (Bool.rec (motive := fun _ => R _) (pu (.yield (none, ()))) (pu (.done (some (some i), ()))) same) (no 53) (now != before)) (e.hash == h)
  | none => pu (.yield (none, ()))
noncomputable def walkR (d : Addr) (key : Value) (h : Int) (es : Array DictEntry) (places : List Nat) : R (Option Nat) :=
  bd (forR (walkStep al set go A c₀ d key h es) places (none, ())) fun r => match r.1 with
    | some x => pu x
    | none => pu none
noncomputable def placesOf (es : Array DictEntry) (h : Int) : List Nat := placesWithHash es.size (fun i => es[i]?.map (·.hash)) h
noncomputable def dictFindR (d : Addr) (key : Value) (h : Int) : R (Option Nat) :=
  bd (leaf al set go A c₀ (dictEntries d (keyPart key))) fun es => match key with
    | .str s t => Bool.rec (motive := fun _ => R _) (no 50) (foundR al set go A c₀ d (.str s t) es s) (es.all fun e => isExactStrKey e.key)
    | .int x t => Bool.rec (motive := fun _ => R _) (no 51) (walkR al set go A c₀ d (.int x t) h es (placesOf es h)) ((Value.int x t :: (placesOf es h).filterMap fun i => es[i]?.map (·.key)).all carriedByValue)
    | _ => no 54
noncomputable def dictGetR (d : Addr) (key : Value) : R (Option Value) :=
  bd (pyHashR al set go A c₀ key) fun h => bd (dictFindR al set go A c₀ d key h) fun i => match i with
    | some i => bd (leaf al set go A c₀ (dictEntries d (keyPart key))) fun es => pu (es[i]?.map (·.val))
    | none => pu none
noncomputable def dictSetR (d : Addr) (k v : Value) : R Unit :=
  bd (pyHashR al set go A c₀ k) fun h => bd (dictFindR al set go A c₀ d k h) fun i => match i with
    | some i => bd (leaf al set go A c₀ (updateDict d (·.modify i fun e => { e with val := v }) (keyPart k))) fun _ => pu ()
    | none => leaf al set go A c₀ (updateDictKeys d (·.push ⟨h, k, v⟩) (keyPart k))
/-! the built-ins of a dict -/
noncomputable def dGetItemR (args : Args) : R PySem.Fin := bd (leaf al set go A c₀ (Builtin.Dict.keyArg "__getitem__" args)) fun dk => bd (dictGetR al set go A c₀ dk.1 dk.2) fun v => match v with
  | some v => pu (.done (.ret v))
  | none => no 70
noncomputable def dGetR (args : Args) : R PySem.Fin := bd (leaf al set go A c₀ (Builtin.Dict.keyAndDefault "get" args)) fun x => bd (dictGetR al set go A c₀ x.1 x.2.1) fun v => match v with
  | some v => pu (.done (.ret v))
  | none => bd (leaf al set go A c₀ (Builtin.Dict.missed x.1 x.2.1)) fun v => match v with
    | some v => pu (.done (.ret v))
    | none => pu (.done (.ret (x.2.2.getD .none)))
noncomputable def dContainsR (args : Args) : R PySem.Fin := bd (leaf al set go A c₀ (Builtin.Dict.keyArg "__contains__" args)) fun dk => bd (dictGetR al set go A c₀ dk.1 dk.2) fun v =>
  Bool.rec (motive := fun _ => R PySem.Fin) (bd (leaf al set go A c₀ (Builtin.Dict.pendingKey? dk.1 dk.2)) fun v => match v with
    | some _ => pu (.done (.ret (.bool true)))
    | none => pu (.done (.ret (.bool false)))) (pu (.done (.ret (.bool true)))) v.isSome
noncomputable def dSetItemR (args : Args) : R PySem.Fin := bd (leaf al set go A c₀ (Builtin.Dict.notOrdered "__setitem__" args)) fun _ => Bool.rec (motive := fun _ => R PySem.Fin)
  (bd (leaf al set go A c₀ (slotArgs "__setitem__" 2 args)) fun x => match x with
    | (self, [key, v]) => bd (leaf al set go A c₀ (Builtin.Dict.addrOf self)) fun d => bd (dictSetR al set go A c₀ d key v) fun _ => pu (.done (.ret .none))
    | _ => no 71) (no 72) (args.kw.isEmpty && args.pos.length != 3)
noncomputable def pairR (d : Addr) (item : Value) : R Unit := bd (calm (leaf al set go A c₀ (Builtin.Dict.pairItems item))) fun pair => match pair with
  | [k, v] => dictSetR al set go A c₀ d k v
  | _ => no 73
noncomputable def dUpdateR (args : Args) : R PySem.Fin := match args.pos with
  | [.ref d, it, .int i t, result] => bd (leaf al set go A c₀ (pyNext it)) fun x => match x with
    | some item => bd (pairR al set go A c₀ d item) fun _ => pu (.again (.builtin "dict.update.loop" ⟨[.ref d, it, rawInt (i + 1), result], args.kw⟩))
    | none => bd (leaf al set go A c₀ (Builtin.Dict.addKeywords d args.kw)) fun _ => pu (.done (.ret result))
  | _ => no 74
end
section
variable {pg : Program} {w : World} {F : Frame} {go : Ar → Code → Run} {A : Ar} {c₀ : Code} {α β : Type}
theorem snd_forR {σ : Type} {f : Nat → σ → Sem (ForInStep σ)} {body : Nat → σ → R (ForInStep σ)} (h : ∀ i s, Snd (model pg w) F A c₀ (f i s) (body i s)) : ∀ (l : List Nat) (s : σ), Snd (model pg w) F A c₀ (forIn l s f) (forR body l s)
  | [], s => snd_pure' _
  | i :: l, s => by
    rw [List.forIn_cons]
    refine snd_bd' (h i s) fun r => ?_
    cases r with
    | done s => exact snd_pure' _
    | yield s => exact snd_forR h l s
theorem snd_hashTypeR (G : Sound (model pg w) F go) (v : Value) : Snd (model pg w) F A c₀ (pyHashByItsType v) (hashTypeR F.al ⟨pg, w.params⟩ go A c₀ v) := by
  refine snd_bd' (snd_leaf G _) fun _ => snd_bd' (snd_leaf G _) fun f => ?_
  cases h : (f == some Value.none) with
  | true => exact snd_no _ _
  | false =>
    refine snd_bd' (snd_leaf G _) fun g => ?_
    cases g with
    | none => exact snd_no _ _
    | some g =>
      refine snd_bd' (snd_callNNR G v "__hash__" _) fun r => ?_
      cases r with
      | none => exact snd_no _ _
      | some r => cases r <;> first | exact snd_no _ _ | exact snd_leaf G _
theorem snd_pyHashR (G : Sound (model pg w) F go) (k : Value) : Snd (model pg w) F A c₀ (pyHash k) (pyHashR F.al ⟨pg, w.params⟩ go A c₀ k) := by
  cases k with
  | str s t => exact snd_bd' (snd_callIfR G _ _ _) fun _ => snd_leaf G _
  | _ => exact snd_hashTypeR G _
theorem snd_foundR (G : Sound (model pg w) F go) (d : Addr) (key : Value) (es : Array DictEntry) (s : Str) : Snd (model pg w) F A c₀ (foundByValue d key es s) (foundR F.al ⟨pg, w.params⟩ go A c₀ d key es s) := by
  unfold foundByValue foundR
  cases es.findIdx? (·.key.isStr s) with
  | none => exact snd_pure' _
  | some i =>
    dsimp only
    cases es[i]? with
    | none => exact snd_pure' _
    | some e =>
      refine snd_bd' (snd_leaf G _) fun before => snd_bd' (snd_eqBoolR G _ _) fun same => snd_bd' (snd_leaf G _) fun now => ?_
      cases hn : (now != before) with
      | true => exact snd_no _ _
      | false =>
        cases same with
        | false => exact snd_no _ _
        | true => exact snd_skip (snd_rule _) (snd_pure' _)
theorem snd_walkR (G : Sound (model pg w) F go) (d : Addr) (key : Value) (h : Int) (es : Array DictEntry) (places : List Nat) : Snd (model pg w) F A c₀ (dictWalkPlain d key h es places) (walkR F.al ⟨pg, w.params⟩ go A c₀ d key h es places) := by
  unfold dictWalkPlain walkR
  refine snd_bd' (snd_forR (fun i s => ?_) _ _) fun r => ?_
  · unfold walkStep
    cases es[i]? with
    | none => exact snd_pure' _
    | some e =>
      dsimp only
      cases he : (e.hash == h) with
      | false => exact snd_pure' _
      | true =>
        refine snd_bd' (snd_leaf G _) fun before => snd_bd' (snd_eqBoolR G _ _) fun same => snd_bd' (snd_leaf G _) fun now => ?_
        cases hn : (now != before) with
        | true => exact snd_no _ _
        | false =>
          cases same with
          | false => exact snd_skip (snd_rule _) (snd_pure' _)
          | true => exact snd_skip (snd_rule _) (snd_pure' _)
  · obtain ⟨x, y⟩ := r
    cases x <;> exact snd_pure' _
theorem snd_dictFindR (G : Sound (model pg w) F go) (d : Addr) (key : Value) (h : Int) : Snd (model pg w) F A c₀ (dictFind d key h) (dictFindR F.al ⟨pg, w.params⟩ go A c₀ d key h) := by
  refine snd_hold _ (snd_bd' (snd_leaf G _) fun es => ?_)
  cases key with
  | str s t =>
    dsimp only
    cases he : (es.all fun e => isExactStrKey e.key) with
    | false => exact snd_no _ _
    | true => exact snd_foundR G d _ es s
  | int x t =>
    dsimp only
    cases he : ((Value.int x t :: (placesOf es h).filterMap fun i => es[i]?.map (·.key)).all carriedByValue) with
    | false => exact snd_no _ _
    | true =>
      unfold placesOf at he
      rw [if_pos he]
      exact snd_walkR G d _ h es _
  | _ => exact snd_no _ _
theorem snd_dictGetR (G : Sound (model pg w) F go) (d : Addr) (key : Value) : Snd (model pg w) F A c₀ (dictGet d key) (dictGetR F.al ⟨pg, w.params⟩ go A c₀ d key) := by
  refine snd_hold _ (snd_bd' (snd_pyHashR G _) fun h => snd_bd' (snd_dictFindR G _ _ _) fun i => ?_)
  cases i with
  | none => exact snd_pure' _
  | some i => exact snd_bd' (snd_leaf G _) fun es => snd_pure' _
theorem snd_dictSetR (G : Sound (model pg w) F go) (d : Addr) (k v : Value) : Snd (model pg w) F A c₀ (dictSet d k v) (dictSetR F.al ⟨pg, w.params⟩ go A c₀ d k v) := by
  refine snd_hold _ (snd_bd' (snd_pyHashR G _) fun h => snd_hold _ (snd_bd' (snd_dictFindR G _ _ _) fun i => ?_))
  cases i with
  | none => exact snd_skip (snd_rule _) (snd_leaf G _)
  | some i => exact snd_skip (snd_rule _) (snd_bd' (snd_leaf G _) fun _ => snd_point)
theorem snd_dGetItemR (G : Sound (model pg w) F go) (args : Args) : Snd (model pg w) F A c₀ (Builtin.«dict.__getitem__» args) (dGetItemR F.al ⟨pg, w.params⟩ go A c₀ args) := by
  refine snd_bd' (snd_leaf G _) fun dk => snd_bd' (snd_dictGetR G _ _) fun v => ?_
  cases v with
  | none => exact snd_no _ _
  | some v => exact snd_pure' _
theorem snd_dGetR (G : Sound (model pg w) F go) (args : Args) : Snd (model pg w) F A c₀ (Builtin.«dict.get» args) (dGetR F.al ⟨pg, w.params⟩ go A c₀ args) := by
  refine snd_bd' (snd_leaf G _) fun x => snd_bd' (snd_dictGetR G _ _) fun v => ?_
  cases v with
  | some v => exact snd_pure' _
  | none =>
    refine snd_bd' (snd_leaf G _) fun v => ?_
    cases v <;> exact snd_pure' _
theorem snd_dContainsR (G : Sound (model pg w) F go) (args : Args) : Snd (model pg w) F A c₀ (Builtin.«dict.__contains__» args) (dContainsR F.al ⟨pg, w.params⟩ go A c₀ args) := by
  refine snd_bd' (snd_leaf G _) fun x => snd_bd' (snd_dictGetR G _ _) fun v => ?_
  cases v with
  | some v => exact snd_pure' _
  | none =>
    refine snd_bd' (snd_leaf G _) fun v => ?_
    cases v <;> exact snd_pure' _
theorem snd_dSetItemR (G : Sound (model pg w) F go) (args : Args) : Snd (model pg w) F A c₀ (Builtin.«dict.__setitem__» args) (dSetItemR F.al ⟨pg, w.params⟩ go A c₀ args) := by
  refine snd_bd' (snd_leaf G _) fun _ => ?_
  cases he : (args.kw.isEmpty && args.pos.length != 3) with
  | true => exact snd_no _ _
  | false =>
    refine snd_bd' (snd_leaf G _) fun x => ?_
    obtain ⟨self, l⟩ := x
    match l with
    | [key, v] => exact snd_bd' (snd_leaf G _) fun d => snd_bd' (snd_dictSetR G _ _ _) fun _ => snd_pure' _
    | [] => exact snd_no _ _
    | [_] => exact snd_no _ _
    | _ :: _ :: _ :: _ => exact snd_no _ _
theorem snd_dUpdateR (G : Sound (model pg w) F go) (args : Args) : Snd (model pg w) F A c₀ (Builtin.«dict.update.loop» args) (dUpdateR F.al ⟨pg, w.params⟩ go A c₀ args) := by
  unfold dUpdateR
  split
  · rename_i d it i t result heq
    unfold Builtin.«dict.update.loop»
    rw [heq]
    refine snd_bd' (snd_leaf G _) fun x => ?_
    cases x with
    | none => exact snd_bd' (snd_leaf G _) fun _ => snd_pure' _
    | some item =>
      refine snd_bd' (snd_hold _ (snd_bd' (snd_catch _ (snd_leaf G _)) fun pair => ?_)) fun _ => snd_pure' _
      match pair with
      | [k, v] => exact snd_hold _ (snd_dictSetR G _ _ _)
      | [] => exact snd_no _ _
      | [_] => exact snd_no _ _
      | _ :: _ :: _ :: _ => exact snd_no _ _
  · exact snd_no _ _
end
section
variable (al : Nat → Bool) (set : Setting) (go : Ar → Code → Run) (A : Ar) (c₀ : Code)
noncomputable def indexStep (xs : Array Value) (x : Value) (i : Nat) (_ : Option PySem.Fin × Unit) : R (ForInStep (Option PySem.Fin × Unit)) := match xs[i]? with
  | some y => bd (eqBoolR al set go A c₀ y x) fun b => Bool.rec (motive := fun _ => R _) (pu (.yield (none, ()))) (bd (leaf al set go A c₀ (retInt i)) fun r => pu (.done (some r, ()))) b
  | none => pu (.yield (none, ()))
noncomputable def tIndexR (args : Args) : R PySem.Fin := bd (leaf al set go A c₀ (selfAndSome "tuple.index" "index" 1 3 args)) fun tr => bd (leaf al set go A c₀ (Builtin.Tuple.tupleItemsOf tr.1)) fun xs => match tr.2 with
  | [x] => bd (forR (indexStep al set go A c₀ xs x) (List.range' 0 xs.size 1) (none, ())) fun r => match r.1 with
    | some r => pu r
    | none => no 75
  | _ => no 76
end
section
variable {pg : Program} {w : World} {F : Frame} {go : Ar → Code → Run} {A : Ar} {c₀ : Code} {α β : Type}
theorem snd_tIndexR (G : Sound (model pg w) F go) (args : Args) : Snd (model pg w) F A c₀ (Builtin.«tuple.index» args) (tIndexR F.al ⟨pg, w.params⟩ go A c₀ args) := by
  refine snd_bd' (snd_leaf G _) fun tr => ?_
  obtain ⟨t, rest⟩ := tr
  refine snd_bd' (snd_leaf G _) fun xs => ?_
  match rest with
  | [] => exact snd_no _ _
  | _ :: _ :: _ => exact snd_no _ _
  | [x] =>
    refine snd_pureB _ (snd_pureB _ ?_)
    dsimp only
    rw [Std.Legacy.Range.forIn_eq_forIn_range']
    have hr : Std.Legacy.Range.size [0:min xs.size xs.size] = xs.size := by simp [Std.Legacy.Range.size]
    rw [hr]
    refine snd_bd' (snd_forR (fun i s => ?_) _ _) fun r => ?_
    · unfold indexStep
      cases xs[i]? with
      | none => exact snd_pure' _
      | some y =>
        refine snd_bd' (snd_eqBoolR G _ _) fun b => ?_
        cases b with
        | false => exact snd_pure' _
        | true => exact snd_bd' (snd_leaf G _) fun r => snd_pure' _
    · obtain ⟨r, _⟩ := r
      cases r with
      | none => exact snd_no _ _
      | some r => exact snd_pure' _
end
end Mine
open PySem PySem.W PySem.Spec PySem.Calls PyProof.Rows PySem.SeqAt
set_option Elab.async false
namespace Mine
set_option genInjectivity false
set_option genSizeOf false
set_option maxHeartbeats 0
set_option linter.unusedVariables false

/-! built-ins that ask for an iterator or compare -/
section
variable (al : Nat → Bool) (set : Setting) (go : Ar → Code → Run) (A : Ar) (c₀ : Code)
noncomputable def anyR (args : Args) : R PySem.Fin := bd (leaf al set go A c₀ (oneArg "any" args)) fun x => bd (pyIterR al set go A c₀ x) fun it => pu (.again (.builtin "any.loop" ⟨[it], []⟩))
noncomputable def enumR (args : Args) : R PySem.Fin := bd (leaf al set go A c₀ (Builtin.SmallTypes.newClass "enumerate" args)) fun cr =>
  Bool.rec (motive := fun _ => R PySem.Fin) (no 90) (bd (leaf al set go A c₀ (Builtin.SmallTypes.calledThroughType cr.1)) fun short => Bool.rec (motive := fun _ => R PySem.Fin) (no 91) (match cr.2, args.kw with
    | [x], [] => bd (pyIterR al set go A c₀ x) fun it => bd (leaf al set go A c₀ (Builtin.SmallTypes.newRecord cr.1 (Builtin.SmallTypes.ownedTupleFields ++ [it, rawInt 0, .none, .none]))) fun r => pu (.done (.ret r))
    | _, _ => no 92) short) (cr.1 == .type "enumerate")
noncomputable def dInitR (args : Args) : R PySem.Fin := bd (leaf al set go A c₀ (Builtin.Dict.selfAndRest "__init__" args)) fun dr => match dr.2 with
  | [arg] => bd (leaf al set go A c₀ (typeOf arg)) fun t => Bool.rec (motive := fun _ => R PySem.Fin) (no 93) (bd (leaf al set go A c₀ (getAttr? arg "keys")) fun k => Bool.rec (motive := fun _ => R PySem.Fin) (no 94)
      (bd (pyIterR al set go A c₀ arg) fun it => pu (.again (.builtin "dict.update.loop" ⟨[.ref dr.1, it, rawInt 0, .none], args.kw⟩))) k.isNone) (t != .type "dict")
  | [] => bd (leaf al set go A c₀ (Builtin.Dict.addKeywords dr.1 args.kw)) fun _ => pu (.done (.ret .none))
  | _ => no 95
noncomputable def minMaxR (name loop : String) (args : Args) : R PySem.Fin := match args.pos with
  | x :: y :: l => bd (leaf al set go A c₀ (Builtin.Builtins.bindParams name ["key", "default"] 0 ⟨[], args.kw⟩)) fun kd => match kd with
    | [key, none] => bd (leaf al set go A c₀ (newTuple (x :: y :: l))) fun items => bd (pyIterR al set go A c₀ items) fun it => bd (leaf al set go A c₀ (newList [])) fun b => pu (.again (.builtin loop ⟨[it, key.getD .none, b], []⟩))
    | _ => no 96
  | _ => no 97
noncomputable def betterR (op : CmpOp) (val oldVal : Value) : R Bool :=
  bd (cmpR al set go A c₀ op val oldVal) fun answer => bd (leaf al set go A c₀ (truthy answer)) fun yes => bd (leaf al set go A c₀ (letGo [answer])) fun _ => pu yes
noncomputable def mmTakeR (loop : String) (args : Args) (op : CmpOp) (best : Addr) (old : List Value) (item : Value) : R PySem.Fin := match old with
  | [oldItem, oldVal] => bd (calm (betterR al set go A c₀ op item oldVal)) fun better => Bool.rec (motive := fun _ => R PySem.Fin) (bd (leaf al set go A c₀ (letGo [item, item])) fun _ => pu (.again (.builtin loop args)))
      (bd (leaf al set go A c₀ (updateSeq best fun _ => #[item, item])) fun _ => bd (leaf al set go A c₀ (letGo [oldVal, oldItem])) fun _ => pu (.again (.builtin loop args))) better
  | [] => bd (leaf al set go A c₀ (updateSeq best fun _ => #[item, item])) fun _ => pu (.again (.builtin loop args))
  | _ => no 98
noncomputable def minMaxLoopR (loop : String) (op : CmpOp) (args : Args) : R PySem.Fin := match args.pos with
  | [it, .none, .ref best] => bd (leaf al set go A c₀ (seqItems? (.ref best))) fun xs => bd (calm (leaf al set go A c₀ (pyNext it))) fun nx => match nx with
    | some item => mmTakeR al set go A c₀ loop args op best (xs.getD #[]).toList item
    | none => match (xs.getD #[]).toList with
      | [item, val] => bd (leaf al set go A c₀ (updateSeq best fun _ => #[])) fun _ => bd (leaf al set go A c₀ (letGo [val] [item])) fun _ => pu (.done (.ret item))
      | _ => no 99
  | _ => no 100
noncomputable def bytesOfR (cls x : Value) : R PySem.Fin := bd (leaf al set go A c₀ (Builtin.Bytes.buffer? "bytes.__new__" x (full := true))) fun b => match b with
  | none => bd (calm (pyIterR al set go A c₀ x)) fun it => bd (leaf al set go A c₀ (Builtin.Bytes.lengthHint "bytes.__new__" x)) fun _ => bd (leaf al set go A c₀ (Builtin.Bytes.newBytearray #[])) fun s => pu (.again (.builtin "bytes.__new__.loop" ⟨[cls, it, s], []⟩))
  | some _ => no 101
noncomputable def bytesNewR (args : Args) : R PySem.Fin := match args.pos with
  | cls :: pos => bd (leaf al set go A c₀ (isType cls)) fun b1 => Bool.rec (motive := fun _ => R PySem.Fin) (no 102) (bd (leaf al set go A c₀ (isSubtype cls (.type "bytes"))) fun b2 => Bool.rec (motive := fun _ => R PySem.Fin) (no 103)
      (bd (leaf al set go A c₀ (Builtin.Bytes.bindOptional "bytes.__new__" "bytes" ["source", "encoding", "errors"] pos args.kw)) fun l => match l with
        | [some x, none, none] => bd (leaf al set go A c₀ (Builtin.Bytes.checkCodecArg "bytes.__new__" "bytes" "encoding" none)) fun _ => bd (leaf al set go A c₀ (Builtin.Bytes.checkCodecArg "bytes.__new__" "bytes" "errors" none)) fun _ =>
            bd (leaf al set go A c₀ (specialOf x "__bytes__")) fun f => match f with
            | none => bd (bd (leaf al set go A c₀ (asStr? x)) fun s => pu s.isSome) fun isS => Bool.rec (motive := fun _ => R PySem.Fin) (bd (leaf al set go A c₀ (specialOf x "__index__")) fun ix => match ix with
                | none => bytesOfR al set go A c₀ cls x
                | some _ => no 104) (no 105) isS
            | some _ => no 106
        | _ => no 107) b2) b1
  | _ => no 108
/-- is it a list? -/
noncomputable def isListAt (T : OT) (v : Value) : Bool := match v with
  | .ref a => match T.get a with
    | some o => match o.cls with
      | .type n => n == "list"
      | _ => false
    | none => false
  | _ => false
noncomputable def argList (T : OT) (args : Args) : Bool := match args.pos with
  | [_, v] => isListAt T v
  | _ => false
/-- by the rule where the second argument is a list -/
noncomputable def onList (args : Args) (x y : R PySem.Fin) : R PySem.Fin := fun p T m b i => (Bool.rec (motive := fun _ => R PySem.Fin) y x (argList T args)) p T m b i
end

section
variable {pg : Program} {w : World} {F : Frame} {go : Ar → Code → Run} {A : Ar} {c₀ : Code} {α β : Type}
theorem snd_onList {t : Sem PySem.Fin} {args : Args} {x y : R PySem.Fin} (hx : Snd (model pg w) F A c₀ t x) (hy : Snd (model pg w) F A c₀ t y) : Snd (model pg w) F A c₀ t (onList args x y) := by
  intro p T m b i q s K D Γ hΓ Q E hp
  unfold onList at hp
  cases h : argList T args with
  | true => rw [h] at hp; exact hx p T m b i q s K D Γ hΓ Q E hp
  | false => rw [h] at hp; exact hy p T m b i q s K D Γ hΓ Q E hp
theorem snd_anyR (G : Sound (model pg w) F go) (args : Args) : Snd (model pg w) F A c₀ (Builtin.«any» args) (anyR F.al ⟨pg, w.params⟩ go A c₀ args) :=
  snd_bd' (snd_leaf G _) fun x => snd_bd' (snd_pyIterR G x) fun it => snd_pure' _
theorem snd_enumR (G : Sound (model pg w) F go) (args : Args) : Snd (model pg w) F A c₀ (Builtin.«enumerate.__new__» args) (enumR F.al ⟨pg, w.params⟩ go A c₀ args) := by
  obtain ⟨pos, kw⟩ := args
  refine snd_bd' (snd_leaf G _) fun cr => ?_
  obtain ⟨cls, rest⟩ := cr
  dsimp only
  cases h : (cls == Value.type "enumerate") with
  | false => exact snd_no _ _
  | true =>
    refine snd_bd' (snd_leaf G _) fun short => ?_
    cases short with
    | false => exact snd_no _ _
    | true =>
      match rest, kw with
      | [x], [] => exact snd_pureB _ (snd_bd' (snd_pyIterR G x) fun it => snd_bd' (snd_leaf G _) fun r => snd_pure' _)
      | [], _ => exact snd_no _ _
      | _ :: _ :: _, _ => exact snd_no _ _
      | [_], _ :: _ => exact snd_no _ _
theorem snd_dInitR (G : Sound (model pg w) F go) (args : Args) : Snd (model pg w) F A c₀ (Builtin.«dict.__init__» args) (dInitR F.al ⟨pg, w.params⟩ go A c₀ args) := by
  refine snd_bd' (snd_leaf G _) fun dr => ?_
  obtain ⟨d, rest⟩ := dr
  match rest with
  | [] => exact snd_bd' (snd_leaf G _) fun _ => snd_pure' _
  | [arg] =>
    refine snd_bd' (snd_leaf G _) fun t => ?_
    cases h : (t != Value.type "dict") with
    | false => exact snd_no _ _
    | true =>
      refine snd_bd' (snd_leaf G _) fun k => ?_
      cases k with
      | some _ => exact snd_no _ _
      | none => exact snd_skip (snd_rule _) (snd_bd' (snd_pyIterR G _) fun it => snd_pure' _)
  | _ :: _ :: _ => exact snd_no _ _
theorem snd_maxR (G : Sound (model pg w) F go) (args : Args) : Snd (model pg w) F A c₀ (Builtin.«max» args) (minMaxR F.al ⟨pg, w.params⟩ go A c₀ "max" "max.loop" args) := by
  obtain ⟨pos, kw⟩ := args
  match pos with
  | [] => exact snd_no _ _
  | [_] => exact snd_no _ _
  | x :: y :: l =>
    refine snd_bd' (snd_leaf G _) fun kd => ?_
    match kd with
    | [key, none] => exact snd_bd' (snd_leaf G _) fun items => snd_bd' (snd_pyIterR G _) fun it => snd_bd' (snd_leaf G _) fun b => snd_pure' _
    | [_, some _] => exact snd_no _ _
    | [] => exact snd_no _ _
    | [_] => exact snd_no _ _
    | _ :: none :: _ :: _ => exact snd_no _ _
    | _ :: some _ :: _ :: _ => exact snd_no _ _
theorem snd_minR (G : Sound (model pg w) F go) (args : Args) : Snd (model pg w) F A c₀ (Builtin.«min» args) (minMaxR F.al ⟨pg, w.params⟩ go A c₀ "min" "min.loop" args) := by
  obtain ⟨pos, kw⟩ := args
  match pos with
  | [] => exact snd_no _ _
  | [_] => exact snd_no _ _
  | x :: y :: l =>
    refine snd_bd' (snd_leaf G _) fun kd => ?_
    match kd with
    | [key, none] => exact snd_bd' (snd_leaf G _) fun items => snd_bd' (snd_pyIterR G _) fun it => snd_bd' (snd_leaf G _) fun b => snd_pure' _
    | [_, some _] => exact snd_no _ _
    | [] => exact snd_no _ _
    | [_] => exact snd_no _ _
    | _ :: none :: _ :: _ => exact snd_no _ _
    | _ :: some _ :: _ :: _ => exact snd_no _ _
theorem snd_betterR (G : Sound (model pg w) F go) (op : CmpOp) (hop : compareOp op = richCompare op) (val oldVal : Value) (vs : List Value) (f : Bool → Sem Bool) (hf : ∀ y, f y = Pure.pure y) :
    Snd (model pg w) F A c₀ (richCompare op val oldVal >>= fun answer => holding [answer] (truthy answer) >>= fun yes => letGo [answer] >>= fun _ => f yes) (betterR F.al ⟨pg, w.params⟩ go A c₀ op val oldVal) := by
  rw [← hop]
  exact snd_bd' (snd_cmpR G _ _ _) fun answer => snd_bd' (snd_hold _ (snd_leaf G _)) fun yes => snd_bd' (snd_leaf G _) fun _ => by rw [hf]; exact snd_pure' _
theorem snd_maxLoopR (G : Sound (model pg w) F go) (args : Args) : Snd (model pg w) F A c₀ (Builtin.«max.loop» args) (minMaxLoopR F.al ⟨pg, w.params⟩ go A c₀ "max.loop" .Gt args) := by
  obtain ⟨pos, kw⟩ := args
  unfold minMaxLoopR
  dsimp only
  split
  · rename_i it best
    refine snd_bd' (snd_leaf G _) fun xs => ?_
    dsimp only
    generalize (xs.getD #[]).toList = old
    refine snd_bd' (snd_catch _ (snd_leaf G _)) fun nx => ?_
    cases nx with
    | none =>
      match old with
      | [item, val] => exact snd_bd' (snd_leaf G _) fun _ => snd_bd' (snd_leaf G _) fun _ => snd_pure' _
      | [] => exact snd_no _ _
      | [_] => exact snd_no _ _
      | _ :: _ :: _ :: _ => exact snd_no _ _
    | some item =>
      refine snd_pureB _ ?_
      match old with
      | [oi, ov] =>
        refine snd_bd' (snd_catch _ (snd_hold _ (snd_betterR G .Gt rfl _ _ [] _ fun _ => rfl))) fun better => ?_
        cases better with
        | false => exact snd_bd' (snd_leaf G _) fun _ => snd_pure' _
        | true => exact snd_bd' (snd_leaf G _) fun _ => snd_bd' (snd_leaf G _) fun _ => snd_pure' _
      | [] => exact snd_bd' (snd_leaf G _) fun _ => snd_pure' _
      | [_] => exact snd_no _ _
      | _ :: _ :: _ :: _ => exact snd_no _ _
  · exact snd_no _ _
theorem snd_minLoopR (G : Sound (model pg w) F go) (args : Args) : Snd (model pg w) F A c₀ (Builtin.«min.loop» args) (minMaxLoopR F.al ⟨pg, w.params⟩ go A c₀ "min.loop" .Lt args) := by
  obtain ⟨pos, kw⟩ := args
  unfold minMaxLoopR
  dsimp only
  split
  · rename_i it best
    refine snd_bd' (snd_leaf G _) fun xs => ?_
    dsimp only
    generalize (xs.getD #[]).toList = old
    refine snd_bd' (snd_catch _ (snd_leaf G _)) fun nx => ?_
    cases nx with
    | none =>
      match old with
      | [item, val] => exact snd_bd' (snd_leaf G _) fun _ => snd_bd' (snd_leaf G _) fun _ => snd_pure' _
      | [] => exact snd_no _ _
      | [_] => exact snd_no _ _
      | _ :: _ :: _ :: _ => exact snd_no _ _
    | some item =>
      refine snd_pureB _ ?_
      match old with
      | [oi, ov] =>
        refine snd_bd' (snd_catch _ (snd_hold _ (snd_betterR G .Lt rfl _ _ [] _ fun _ => rfl))) fun better => ?_
        cases better with
        | false => exact snd_bd' (snd_leaf G _) fun _ => snd_pure' _
        | true => exact snd_bd' (snd_leaf G _) fun _ => snd_bd' (snd_leaf G _) fun _ => snd_pure' _
      | [] => exact snd_bd' (snd_leaf G _) fun _ => snd_pure' _
      | [_] => exact snd_no _ _
      | _ :: _ :: _ :: _ => exact snd_no _ _
  · exact snd_no _ _
theorem snd_bytesNewR (G : Sound (model pg w) F go) (args : Args) : Snd (model pg w) F A c₀ (Builtin.«bytes.__new__» args) (bytesNewR F.al ⟨pg, w.params⟩ go A c₀ args) := by
  obtain ⟨pos, kw⟩ := args
  match pos with
  | [] => exact snd_no _ _
  | cls :: pos =>
    refine snd_bd' (snd_leaf G _) fun b1 => ?_
    cases b1 with
    | false => exact snd_no _ _
    | true =>
      refine snd_bd' (snd_leaf G _) fun b2 => ?_
      cases b2 with
      | false => exact snd_no _ _
      | true =>
        refine snd_bd' (snd_leaf G _) fun l => ?_
        match l with
        | [some x, none, none] =>
          refine snd_bd' (snd_leaf G _) fun _ => snd_bd' (snd_leaf G _) fun _ => snd_bd' (snd_leaf G _) fun f => ?_
          cases f with
          | some v => exact snd_no _ _
          | none =>
            refine snd_bd' (snd_bd' (snd_leaf G _) fun s => snd_pure' _) fun isS => ?_
            cases isS with
            | true => exact snd_no _ _
            | false =>
              refine snd_bd' (snd_leaf G _) fun ix => ?_
              cases ix with
              | some _ => exact snd_no _ _
              | none =>
                refine snd_bd' (snd_leaf G _) fun b => ?_
                cases b with
                | some _ => exact snd_no _ _
                | none => exact snd_bd' (snd_catch _ (snd_pyIterR G _)) fun it => snd_bd' (snd_hold _ (snd_leaf G _)) fun _ => snd_bd' (snd_leaf G _) fun s => snd_pure' _
        | [] => exact snd_no _ _
        | none :: _ => exact snd_no _ _
        | [some _] => exact snd_no _ _
        | some _ :: some _ :: _ => exact snd_no _ _
        | [some _, none] => exact snd_no _ _
        | some _ :: none :: some _ :: _ => exact snd_no _ _
        | some _ :: none :: none :: _ :: _ => exact snd_no _ _
end
theorem entry_bytes_new : entryFor table "bytes.__new__" = some Builtin.«bytes.__new__» := entryFor_of_tree (by kernel_rfl)
end Mine
open PySem PySem.W PySem.Spec PySem.Calls PyProof.Rows
set_option Elab.async false
namespace Mine
set_option genInjectivity false
set_option genSizeOf false
set_option maxHeartbeats 0
set_option linter.unusedVariables false

/-- the four walks over a text -/
structure Fn where
  E : Env → Expr → R Value
  B : Env → Expr → R Bool
  S : Env → Stmt → R Flow
  As : Env → Expr → Value → R Unit

noncomputable def notStar : Expr → Bool
  | .Starred .. => false
  | _ => true
noncomputable def notCall : Expr → Bool
  | .Call (.Name _ _) [] [] _ => false
  | _ => true

section
variable (al : Nat → Bool) (set : Setting) (go : Ar → Code → Run) (A : Ar) (c₀ : Code)

noncomputable def ss (f : Fn) (env : Env) : List Stmt → R Flow :=
  List.rec (pu .next) (fun s _ ih => bd (f.S env s) fun fl => Flow.rec (motive := fun _ => R Flow) ih (pu .brk) (pu .cont) (fun v => pu (.ret v)) fl)
noncomputable def es (f : Fn) (env : Env) : List Expr → R (List Value) :=
  List.rec (pu []) (fun e _ ih => bd (f.E env e) fun v => bd ih fun r => pu (v :: r))
noncomputable def bo (f : Fn) (env : Env) (pos : Pos) (op : BoolOp) : List Expr → R Value :=
  List.rec (no 41) (fun e rest ih => List.rec (motive := fun _ => R Value) (f.E env e) (fun _ _ _ => bd (f.E env e) fun v => bd (stand pos) fun _ => bd (leaf al set go A c₀ (truthy v)) fun t =>
    BoolOp.rec (motive := fun _ => R Value) (Bool.rec (motive := fun _ => R Value) (pu v) ih t) (Bool.rec (motive := fun _ => R Value) ih (pu v) t) op) rest)
noncomputable def at' (f : Fn) (env : Env) (op : BoolOp) : List Expr → R Bool :=
  List.rec (pu (op == .And)) (fun e _ ih => bd (f.B env e) fun t =>
    BoolOp.rec (motive := fun _ => R Bool) (Bool.rec (motive := fun _ => R Bool) (pu false) ih t) (Bool.rec (motive := fun _ => R Bool) ih (pu true) t) op)
noncomputable def asg (f : Fn) (env : Env) : List Expr → List Value → R Unit :=
  List.rec (fun _ => pu ()) (fun t _ ih xs => List.rec (motive := fun _ => R Unit) (pu ()) (fun x xs _ => bd (f.As env t x) fun _ => ih xs) xs)
noncomputable def plainR (mark : Value) (n : Nat) (f : Value) (a : List Value) : R Value :=
  Bool.rec (motive := fun _ => R Value) (leaf al set go A c₀ (callMarked mark f a [])) (leaf al set go A c₀ (call f a [])) (Nat.blt 30 n)
noncomputable def keptR (n : Nat) (f : Value) (a : List Value) (k : Keeper) : R Value := match k with
  | .frame => plainR al set go A c₀ plainCall n f a
  | .boundFrame => plainR al set go A c₀ callOfAMethodObject n f a
  | .machine => leaf al set go A c₀ (call f a [])
  | .caller => leaf al set go A c₀ (call f a [])
noncomputable def callWithR (pos : Pos) (n : Nat) (f : Value) (first a : List Value) : R Value :=
  bd (stand pos) fun _ => bd (leaf al set go A c₀ (keeperOf f)) fun k => bd (keptR al set go A c₀ n f (first ++ a) k) fun r => pu r
noncomputable def callX (f : Fn) (env : Env) (args : List PySem.Expr) (pos : Pos) (func : PySem.Expr) : R Value := match func with
  | .Attribute o name apos => Bool.rec (motive := fun _ => R Value) (no 45) (bd (f.E env o) fun ov => bd (stand apos.atName) fun _ => bd (leaf al set go A c₀ (calleeOf (Nat.blt args.length 30) o env ov name)) fun fv => bd (leaf al set go A c₀ (methodCallPos (Nat.blt args.length 30) o env apos pos)) fun cp =>
          bd (es f env args) fun a => callWithR al set go A c₀ cp args.length fv.1 fv.2 a) (notCall o)
  | func => bd (f.E env func) fun fv => bd (es f env args) fun a => callWithR al set go A c₀ pos args.length fv [] a

noncomputable def chainR (f : Fn) (env : Env) (pos : Pos) : List CmpOp → Value → List PySem.Expr → R Value :=
  List.rec (fun _ _ => no 47) (fun op ops ih a es => List.rec (motive := fun _ => R Value) (no 47) (fun e es' _ => List.rec (motive := fun _ => R Value)
    (List.rec (motive := fun _ => R Value) (Bool.rec (motive := fun _ => R Value) (bd (f.E env e) fun b => bd (stand pos) fun _ => bd (cmpR al set go A c₀ op a b) fun r => pu r) (no 43) (behindInMarks op e)) (fun _ _ _ => no 47) es')
    (fun _ _ _ => bd (f.E env e) fun b => bd (stand pos) fun _ => bd (cmpR al set go A c₀ op a b) fun c => bd (leaf al set go A c₀ (truthy c)) fun t => Bool.rec (motive := fun _ => R Value) (pu c) (ih b es') t) ops) es)
noncomputable def testR (f : Fn) (env : Env) (pos : Pos) : List CmpOp → Value → List PySem.Expr → R Bool :=
  List.rec (fun _ _ => no 47) (fun op ops ih a es => List.rec (motive := fun _ => R Bool) (no 47) (fun e es' _ => List.rec (motive := fun _ => R Bool)
    (List.rec (motive := fun _ => R Bool) (Bool.rec (motive := fun _ => R Bool) (bd (f.E env e) fun b => bd (stand pos) fun _ => bd (cmpR al set go A c₀ op a b) fun c => leaf al set go A c₀ (truthy c)) (no 43) (behindInMarks op e)) (fun _ _ _ => no 47) es')
    (fun _ _ _ => bd (f.E env e) fun b => bd (stand pos) fun _ => bd (cmpR al set go A c₀ op a b) fun c => bd (leaf al set go A c₀ (truthy c)) fun t => Bool.rec (motive := fun _ => R Bool) (pu false) (ih b es') t) ops) es)
noncomputable def drawR (it : Value) : Nat → R (List Value) :=
  Nat.rec (pu []) (fun _ ih => bd (leaf al set go A c₀ (pyNext it)) fun x => match x with
    | none => pu []
    | some v => bd ih fun r => pu (v :: r))
noncomputable def unpackR (v : Value) (n : Nat) : R (List Value) :=
  bd (leaf al set go A c₀ (notIterableAtAll v)) fun no' => Bool.rec (motive := fun _ => R (List Value)) (bd (pyIterR al set go A c₀ v) fun it => bd (drawR al set go A c₀ it n) fun items =>
    Bool.rec (motive := fun _ => R (List Value)) (bd (leaf al set go A c₀ (pyNext it)) fun x => Bool.rec (motive := fun _ => R (List Value)) (pu items) (no 81) x.isSome) (no 82) (decide (items.length < n))) (no 83) no'
noncomputable def bindAllR (env : Env) : List Str → List Value → R Unit :=
  List.rec (fun _ => pu ()) (fun n _ ih xs => List.rec (motive := fun _ => R Unit) (pu ()) (fun x xs _ => bd (leaf al set go A c₀ (bindName env n x)) fun _ => ih xs) xs)
/-- the environment in which a comprehension runs -/
noncomputable def innerEnv (scope : Scope) (env cenv : Env) : Env :=
  let cells : Str × NameKind → Str × NameKind := fun (n, k) => if (k == .free && env.scope.kind == .function && env.kindOf n == some .cell) = true then (n, .cell) else (n, k)
  { cenv with scope := { scope with names := scope.names.map cells } }
noncomputable def innerVars (scope : Scope) : List (Str × NameKind) := scope.names.filter fun (n, k) => (k == .local || k == .cell) && n != (".0" : Str)
noncomputable def letGoR (cenv : Env) : List (Str × NameKind) → R Unit :=
  List.rec (pu ()) (fun nk _ ih => bd (Bool.rec (motive := fun _ => R Unit) (pu ()) (bd (leaf al set go A c₀ (nsGet cenv.locals nk.1)) fun v => Bool.rec (motive := fun _ => R Unit) (pu ()) (leaf al set go A c₀ (unbindName cenv nk.1)) v.isSome) (nk.2 == .local)) fun _ => ih)
noncomputable def pairsR (f : Fn) (env : Env) (pos : Pos) : List (Option PySem.Expr) → List PySem.Expr → R (List (Value × Value)) :=
  List.rec (fun _ => pu []) (fun k _ ih vs => List.rec (motive := fun _ => R (List (Value × Value))) (no 89) (fun v vs _ => Option.rec (motive := fun _ => R (List (Value × Value))) (no 89) (fun k =>
    bd (f.E env k) fun kv => bd (bd (f.E env v) fun x => bd (stand pos) fun _ => pu x) fun vv => bd (ih vs) fun r => pu ((kv, vv) :: r)) k) vs)
noncomputable def storeR (d : Addr) : List (Value × Value) → R PUnit :=
  List.rec (pu PUnit.unit) (fun kv _ ih => bd (dictSetR al set go A c₀ d kv.1 kv.2) fun _ => ih)
noncomputable def dispOk (keys : List (Option PySem.Expr)) (values : List PySem.Expr) : Bool := keys.all (·.isSome) && ((keys.length == values.length) && (Nat.blt 0 keys.length && Nat.ble keys.length 15))
noncomputable def dispR (f : Fn) (env : Env) (pos : Pos) (keys : List (Option PySem.Expr)) (values : List PySem.Expr) : R Value :=
  Bool.rec (motive := fun _ => R Value) (leaf al set go A c₀ (eval (.Dict keys values pos) env)) (bd (stand pos) fun _ => bd (bd (leaf al set go A c₀ (alloc { cls := .type "dict", data := .dict #[] })) fun d =>
    bd (bd (pairsR f env pos keys values) fun vs => bd (storeR al set go A c₀ d vs) fun _ => pu PUnit.unit) fun _ => pu d) fun d => pu (.ref d)) (dispOk keys values)
noncomputable def swapR (f : Fn) (env : Env) (e : PySem.Expr) (t : PySem.Expr) (scope : Scope) (gens : List Comprehension) : R Value := match gens with
  | g :: _ => Bool.rec (motive := fun _ => R Value) (bd (f.E env g.iter) fun x => bd (stand g.iter.pos) fun _ => bd (leaf al set go A c₀ (foldedSetIterable g.iter env x)) fun x => bd (pyIterR al set go A c₀ x) fun it =>
      bd (stand e.pos) fun _ => bd (leaf al set go A c₀ (newList [])) fun acc => bd (leaf al set go A c₀ (closureFor scope env)) fun cs => bd (leaf al set go A c₀ (newFunctionEnv scope env.globals cs [] env.qual none .none (some env))) fun cenv =>
      bd (calm (leaf al set go A c₀ (run (.compStart e 0 it acc (innerEnv scope env cenv))))) fun _ => bd (f.As env t acc) fun _ =>
      bd (letGoR al set go A c₀ (innerEnv scope env cenv) ((innerVars scope).reverse.drop 1 ++ (innerVars scope).reverse.take 1)) fun _ => pu .none) (no 48) (g.is_async != 0)
  | [] => no 49
noncomputable def swapS (f : Fn) (env : Env) (t : PySem.Expr) (value : PySem.Expr) : R Flow := match value with
  | .ListComp elt gens scope pos => Bool.rec (motive := fun _ => R Flow) (no 42) (bd (bd (swapR al set go A c₀ f env (.ListComp elt gens scope pos) t scope gens) fun _ => pu ()) fun _ => pu .next) (notStar t)
  | value => leaf al set go A c₀ (do { evalThenUse value env (fun v => assignAll v ((assignEach [t] env).map (·.2))); pure .next })
noncomputable def noFn : Fn := ⟨fun _ _ => no 15, fun _ _ => no 15, fun _ _ => no 15, fun _ _ _ => no 15⟩
end

structure FnOk (M : Model) (F : Frame) (A : Ar) (c₀ : Code) (f : Fn) : Prop where
  E : ∀ env e, Snd M F A c₀ (eval e env) (f.E env e)
  B : ∀ env e, Snd M F A c₀ (isTrue e env (eval e env)) (f.B env e)
  S : ∀ env s, Snd M F A c₀ (exec s env) (f.S env s)
  As : ∀ env t v, Snd M F A c₀ (assign t env v) (f.As env t v)

section
variable {pg : Program} {w : World} {F : Frame} {go : Ar → Code → Run} {A : Ar} {c₀ : Code} {f : Fn}

theorem snd_ss (H : FnOk (model pg w) F A c₀ f) (env : Env) : ∀ l, Snd (model pg w) F A c₀ (execs l env) (ss f env l)
  | [] => snd_pure' _
  | s :: rest => snd_bd' (H.S env s) fun fl => by
    cases fl with
    | next => exact snd_ss H env rest
    | brk => exact snd_pure' _
    | cont => exact snd_pure' _
    | ret v => exact snd_pure' _
theorem starEach_cons (e : Expr) (rest : List Expr) (env : Env) (h : notStar e = true) : starEach (e :: rest) env = (false, eval e env) :: starEach rest env := by
  cases e <;> first | rfl | cases h
theorem assignEach_cons (e : Expr) (rest : List Expr) (env : Env) (h : notStar e = true) : assignEach (e :: rest) env = (false, assign e env) :: assignEach rest env := by
  cases e <;> first | rfl | cases h
theorem starEach_false (env : Env) : ∀ l : List Expr, l.all notStar = true → ∀ x ∈ starEach l env, x.1 = false
  | [], _, x, h => by cases h
  | e :: rest, ha, x, h => by
    rw [List.all_cons, Bool.and_eq_true] at ha
    rw [starEach_cons _ _ _ ha.1] at h
    rcases List.mem_cons.mp h with rfl | h
    · rfl
    · exact starEach_false env rest ha.2 x h
theorem backTo_plain (pos : Pos) (l : List (Bool × Sem Value)) (h : ∀ x ∈ l, x.1 = false) : backTo pos l = l := by
  unfold backTo
  conv => rhs; rw [← List.map_id l]
  refine List.map_congr_left fun x hx => ?_
  obtain ⟨b, t⟩ := x
  have := h _ hx
  dsimp only at this
  subst this
  rfl
theorem snd_es (H : FnOk (model pg w) F A c₀ f) (env : Env) : ∀ l : List Expr, l.all notStar = true → Snd (model pg w) F A c₀ (spliced (starEach l env)) (es f env l)
  | [], _ => snd_pure' _
  | e :: rest, ha => by
    rw [List.all_cons, Bool.and_eq_true] at ha
    rw [starEach_cons _ _ _ ha.1]
    exact snd_bd' (H.E env e) fun v => snd_pureB _ (snd_bd' (snd_hold _ (snd_es H env rest ha.2)) fun r => snd_pure' _)

theorem snd_bo (G : Sound (model pg w) F go) (H : FnOk (model pg w) F A c₀ f) (env : Env) (pos : Pos) (op : BoolOp) : ∀ l : List Expr, Snd (model pg w) F A c₀ (boolOp pos op (evalEach l env)) (bo F.al ⟨pg, w.params⟩ go A c₀ f env pos op l)
  | [] => snd_no _ _
  | [e] => H.E env e
  | e :: e' :: rest => snd_bd' (H.E env e) fun v => snd_bd' (snd_stand _) fun _ => snd_bd' (snd_hold _ (snd_leaf G _)) fun t => by
    cases op <;> cases t <;> first | exact snd_pure' _ | exact snd_bo G H env pos _ (e' :: rest)
theorem snd_at (H : FnOk (model pg w) F A c₀ f) (env : Env) (op : BoolOp) : ∀ l : List Expr, Snd (model pg w) F A c₀ (allTrue op l env) (at' f env op l)
  | [] => snd_pure' _
  | e :: rest => snd_bd' (H.B env e) fun t => by
    cases op <;> cases t <;> first | exact snd_pure' _ | exact snd_at H env _ rest
theorem snd_asg (H : FnOk (model pg w) F A c₀ f) (env : Env) : ∀ (l : List Expr) (xs : List Value), l.all notStar = true → Snd (model pg w) F A c₀ (assignInOrder ((assignEach l env).map (·.2)) xs) (asg f env l xs)
  | [], xs, _ => snd_pure' _
  | t :: rest, [], ha => by
    rw [List.all_cons, Bool.and_eq_true] at ha
    rw [assignEach_cons _ _ _ ha.1]
    exact snd_pure' _
  | t :: rest, x :: xs, ha => by
    rw [List.all_cons, Bool.and_eq_true] at ha
    rw [assignEach_cons _ _ _ ha.1]
    exact snd_bd' (snd_hold _ (H.As env t x)) fun _ => snd_asg H env rest xs ha.2

theorem blt_of (a b : Nat) : Nat.blt a b = decide (a < b) := by
  have := Nat.blt_eq (x := a) (y := b)
  cases h : Nat.blt a b <;> simp_all
theorem snd_plainR (G : Sound (model pg w) F go) (mark : Value) (n : Nat) (g : Value) (a : List Value) :
    Snd (model pg w) F A c₀ (if n + 2 * ([] : List Keyword).length > 30 then call g a [] else callMarked mark g a []) (plainR F.al ⟨pg, w.params⟩ go A c₀ mark n g a) := by
  unfold plainR
  by_cases h : 30 < n
  · have h2 : Nat.blt 30 n = true := by rw [blt_of]; exact decide_eq_true h
    rw [if_pos (by simpa using h), h2]
    exact snd_leaf G _
  · have h2 : Nat.blt 30 n = false := by rw [blt_of]; exact decide_eq_false h
    rw [if_neg (by simpa using h), h2]
    exact snd_leaf G _

theorem any_star (env : Env) (l : List Expr) (ha : l.all notStar = true) : (starEach l env).any (·.1) = false := by
  rw [List.any_eq_false]
  intro x hx
  rw [starEach_false env l ha x hx]
  decide
theorem len_star (env : Env) : ∀ l : List Expr, l.all notStar = true → (starEach l env).length = l.length
  | [], _ => rfl
  | e :: rest, ha => by
    rw [List.all_cons, Bool.and_eq_true] at ha
    rw [starEach_cons _ _ _ ha.1, List.length_cons, List.length_cons, len_star env rest ha.2]
theorem snd_args (H : FnOk (model pg w) F A c₀ f) (env : Env) (g : Value) : ∀ l : List Expr, l.all notStar = true → Snd (model pg w) F A c₀ (evalArgs g true (starEach l env) []) (bd (es f env l) fun r => pu ⟨r, []⟩)
  | [], ha => by
    have := snd_es H env [] ha
    refine snd_bd' (t := spliced (starEach [] env)) this fun r => ?_
    exact snd_hold (r ++ []) (snd_pure' (Args.mk r []))
  | [e], ha => by
    rw [List.all_cons, Bool.and_eq_true] at ha
    rw [starEach_cons _ _ _ ha.1]
    have := snd_es H env [e] (by simpa using ha.1)
    rw [starEach_cons _ _ _ ha.1] at this
    refine snd_bd' (t := spliced ((false, eval e env) :: starEach [] env)) this fun r => ?_
    exact snd_hold (r ++ []) (snd_pure' (Args.mk r []))
  | e :: e' :: rest, ha => by
    have hb := ha
    rw [List.all_cons, Bool.and_eq_true, List.all_cons, Bool.and_eq_true] at ha
    have := snd_es H env (e :: e' :: rest) hb
    rw [starEach_cons _ _ _ ha.1, starEach_cons _ _ _ ha.2.1] at this ⊢
    refine snd_bd' (t := spliced ((false, eval e env) :: (false, eval e' env) :: starEach rest env)) this fun r => ?_
    exact snd_hold (r ++ []) (snd_pure' (Args.mk r []))

theorem snd_done (r : Value) : Snd (model pg w) F A c₀ (holding [r] point >>= fun _ => (Pure.pure r : Sem Value)) (pu r) :=
  snd_bd' (x := pu ()) (g := fun _ => pu r) (snd_hold _ snd_point) fun _ => snd_pure' _
theorem snd_keptR (G : Sound (model pg w) F go) (n : Nat) (g : Value) (a : List Value) (mark : Value) {k : Value → Sem Value} (hk : ∀ r, Snd (model pg w) F A c₀ (k r) (pu r)) :
    Snd (model pg w) F A c₀ (if n + 2 * ([] : List (Option Str × Sem Value)).length > 30 then call g a [] >>= k else callMarked mark g a [] >>= k) (bd (plainR F.al ⟨pg, w.params⟩ go A c₀ mark n g a) fun r => pu r) := by
  unfold plainR
  by_cases h : 30 < n
  · have h2 : Nat.blt 30 n = true := by rw [blt_of]; exact decide_eq_true h
    rw [if_pos (by simpa using h), h2]
    exact snd_bd' (snd_leaf G _) hk
  · have h2 : Nat.blt 30 n = false := by rw [blt_of]; exact decide_eq_false h
    rw [if_neg (by simpa using h), h2]
    exact snd_bd' (snd_leaf G _) hk
theorem snd_callWith (G : Sound (model pg w) F go) (H : FnOk (model pg w) F A c₀ f) (env : Env) (pos : Pos) (g : Value) (first : List Value) (l : List PySem.Expr) (ha : l.all notStar = true) :
    Snd (model pg w) F A c₀ (callWith pos g first (starEach l env) []) (bd (es f env l) fun a => callWithR F.al ⟨pg, w.params⟩ go A c₀ pos l.length g first a) := by
  unfold callWith
  rw [any_star env l ha, len_star env l ha]
  refine snd_map (h := fun r => Args.mk r []) (snd_hold _ (snd_args H env g l ha)) fun r => ?_
  refine snd_bd' (snd_stand _) fun _ => snd_bd' (snd_leaf G _) fun k => ?_
  cases k with
  | frame => exact snd_keptR G l.length g (first ++ r) plainCall snd_done
  | boundFrame => exact snd_keptR G l.length g (first ++ r) callOfAMethodObject snd_done
  | machine => exact snd_bd' (snd_leaf G _) snd_done
  | caller => exact snd_assoc (snd_bd' (snd_hold _ (snd_leaf G _)) fun r => snd_assoc (snd_bd' (x := pu ()) (g := fun _ => pu r) (snd_release _ _) fun _ => snd_pureB r (snd_done r)))

theorem attributeBase_not (o : PySem.Expr) (name : Str) (env : Env) (w : Sem Value) (h : notCall o = true) : attributeBase o name env w = w := by
  unfold attributeBase
  split
  · cases h
  · rfl
theorem snd_operate {vs : List Value} {t : Sem Value} {x : R Value} (ht : Snd (model pg w) F A c₀ t x) : Snd (model pg w) F A c₀ (operate vs t) (bd x fun r => pu r) :=
  snd_bd' (snd_hold _ ht) fun r => snd_bd' (x := pu ()) (g := fun _ => pu r) (snd_release _ _) fun _ => snd_pure' r
theorem form_star (env : Env) (l : List PySem.Expr) (ha : l.all notStar = true) : methodCallForm (l.length + ([] : List Keyword).length) (backTo pos (starEach l env)) [] = Nat.blt l.length 30 := by
  rw [backTo_plain pos _ (starEach_false env l ha), blt_of]
  have : (starEach l env).all (fun x => !x.1) = true := by
    rw [List.all_eq_true]
    intro x hx
    rw [starEach_false env l ha x hx]
    rfl
  unfold methodCallForm
  rw [this]
  simp
theorem snd_callX (G : Sound (model pg w) F go) (H : FnOk (model pg w) F A c₀ f) (env : Env) (args : List PySem.Expr) (pos : Pos) (ha : args.all notStar = true) (func : PySem.Expr) :
    Snd (model pg w) F A c₀ (eval (.Call func args [] pos) env) (callX F.al ⟨pg, w.params⟩ go A c₀ f env args pos func) := by
  have hb := backTo_plain pos _ (starEach_false env args ha)
  cases func with
  | Attribute o name apos =>
    unfold callX
    dsimp only
    cases ho : notCall o with
    | false => exact snd_no _ _
    | true =>
      refine snd_bd' (t := attributeBase o name env (eval o env)) ?_ fun ov => ?_
      · rw [attributeBase_not _ _ _ _ ho]; exact H.E env o
      · refine snd_bd' (snd_stand _) fun _ => ?_
        show Snd (model pg w) F A c₀ (methodCall o name apos pos env ov (args.length + ([] : List Keyword).length) (backTo pos (starEach args env)) []) _
        unfold methodCall
        rw [form_star env args ha, hb]
        refine snd_bd' (snd_hold _ (snd_leaf G _)) fun fv => ?_
        exact snd_bd' (snd_leaf G _) fun cp => snd_callWith G H env cp fv.1 fv.2 args ha
  | _ =>
    refine snd_bd' (H.E env _) fun fv => ?_
    show Snd (model pg w) F A c₀ (callWith pos fv [] (backTo pos (starEach args env)) []) _
    rw [hb]
    exact snd_callWith G H env pos fv [] args ha
theorem marked_one (op : CmpOp) (e : PySem.Expr) (t : Sem Value) (h : behindInMarks op e = false) : markedEach [op] [e] [t] = [t] := by
  show [markedBehindIn op e t] = [t]
  unfold markedBehindIn
  rw [h]
theorem snd_chainR (G : Sound (model pg w) F go) (H : FnOk (model pg w) F A c₀ f) (env : Env) (pos : Pos) : ∀ (ops : List CmpOp) (a : Value) (es : List PySem.Expr),
    Snd (model pg w) F A c₀ (compareChain pos a ops (markedEach ops es (evalEach es env))) (chainR F.al ⟨pg, w.params⟩ go A c₀ f env pos ops a es)
  | [], _, _ => snd_no _ _
  | _ :: _, _, [] => snd_no _ _
  | [op], a, [e] => by
    show Snd (model pg w) F A c₀ _ (Bool.rec (motive := fun _ => R Value) _ (no 43) (behindInMarks op e))
    cases h : behindInMarks op e with
    | true => exact snd_no _ _
    | false =>
      show Snd (model pg w) F A c₀ (compareChain pos a [op] (markedEach [op] [e] [eval e env])) _
      rw [marked_one _ _ _ h]
      exact snd_bd' (snd_hold _ (H.E env e)) fun b => snd_bd' (snd_stand _) fun _ => snd_operate (snd_cmpR G _ _ _)
  | [_], _, _ :: _ :: _ => snd_no _ _
  | op :: op2 :: ops, a, e :: es => by
    refine snd_bd' (snd_hold _ (H.E env e)) fun b => snd_bd' (snd_stand _) fun _ => snd_bd' (snd_hold _ (snd_cmpR G _ _ _)) fun c => ?_
    refine snd_skip (snd_release _ _) (snd_bd' (snd_hold _ (snd_leaf G _)) fun t => ?_)
    cases t with
    | true => exact snd_chainR G H env pos (op2 :: ops) b es
    | false => exact snd_pure' _
theorem snd_testR (G : Sound (model pg w) F go) (H : FnOk (model pg w) F A c₀ f) (env : Env) (pos : Pos) : ∀ (ops : List CmpOp) (a : Value) (es : List PySem.Expr),
    Snd (model pg w) F A c₀ (testChain pos a ops (markedEach ops es (evalEach es env))) (testR F.al ⟨pg, w.params⟩ go A c₀ f env pos ops a es)
  | [], _, _ => snd_no _ _
  | _ :: _, _, [] => snd_no _ _
  | [op], a, [e] => by
    show Snd (model pg w) F A c₀ _ (Bool.rec (motive := fun _ => R Bool) _ (no 43) (behindInMarks op e))
    cases h : behindInMarks op e with
    | true => exact snd_no _ _
    | false =>
      show Snd (model pg w) F A c₀ (testChain pos a [op] (markedEach [op] [e] [eval e env])) _
      rw [marked_one _ _ _ h]
      refine snd_bd' (snd_hold _ (H.E env e)) fun b => snd_bd' (snd_stand _) fun _ => ?_
      exact snd_map (h := fun r => r) (snd_operate (snd_cmpR G _ _ _)) fun c => snd_hold _ (snd_leaf G _)
  | [_], _, _ :: _ :: _ => snd_no _ _
  | op :: op2 :: ops, a, e :: es => by
    refine snd_bd' (snd_hold _ (H.E env e)) fun b => snd_bd' (snd_stand _) fun _ => snd_bd' (snd_hold _ (snd_cmpR G _ _ _)) fun c => ?_
    refine snd_skip (snd_release _ _) (snd_bd' (snd_hold _ (snd_leaf G _)) fun t => ?_)
    cases t with
    | true => exact snd_testR G H env pos (op2 :: ops) b es
    | false => exact snd_pure' _
theorem snd_drawR (G : Sound (model pg w) F go) (it : Value) : ∀ n, Snd (model pg w) F A c₀ (draw it n) (drawR F.al ⟨pg, w.params⟩ go A c₀ it n)
  | 0 => snd_pure' _
  | n + 1 => by
    refine snd_bd' (snd_leaf G _) fun x => ?_
    cases x with
    | none => exact snd_pure' _
    | some v => exact snd_bd' (snd_hold _ (snd_drawR G it n)) fun r => snd_pure' _
theorem snd_unpackR (G : Sound (model pg w) F go) (v : Value) (n : Nat) : Snd (model pg w) F A c₀ (unpackItems v n none) (unpackR F.al ⟨pg, w.params⟩ go A c₀ v n) := by
  refine snd_bd' (snd_leaf G _) fun no' => ?_
  cases no' with
  | true => exact snd_no _ _
  | false =>
    refine snd_bd' (snd_hold _ (snd_pyIterR G _)) fun it => snd_bd' (snd_hold _ (snd_drawR G _ _)) fun items => ?_
    cases h : decide (items.length < n) with
    | true => exact snd_no _ _
    | false =>
      rw [if_neg (of_decide_eq_false h)]
      refine snd_bd' (snd_hold _ (snd_leaf G _)) fun x => ?_
      cases x with
      | none => exact snd_pure' _
      | some x => exact snd_no _ _
theorem snd_bindAllR (G : Sound (model pg w) F go) (env : Env) : ∀ (ns : List Str) (xs : List Value), Snd (model pg w) F A c₀ (assignInOrder (ns.map fun n => bindName env n) xs) (bindAllR F.al ⟨pg, w.params⟩ go A c₀ env ns xs)
  | [], xs => snd_pure' _
  | n :: ns, [] => snd_pure' _
  | n :: ns, x :: xs => snd_bd' (snd_hold _ (snd_leaf G _)) fun _ => snd_bindAllR G env ns xs
theorem snd_letGoR (G : Sound (model pg w) F go) (cenv : Env) (cellsOf : List (Str × NameKind) → List Value) : ∀ l, Snd (model pg w) F A c₀ (comprehension.letGo cenv cellsOf l) (letGoR F.al ⟨pg, w.params⟩ go A c₀ cenv l)
  | [] => snd_pure' _
  | (n, k) :: rest => by
    refine snd_bd' (snd_hold _ ?_) fun _ => snd_letGoR G cenv cellsOf rest
    cases hk : (k == NameKind.local) with
    | false => exact snd_point
    | true =>
      refine snd_bd' (snd_leaf G _) fun v => ?_
      cases v with
      | none => exact snd_pure' _
      | some v => exact snd_leaf G _
theorem snd_attempt {t : Sem Flow} {x : R Flow} {k : Except Value Flow → Sem Value} {y : Flow → R Value} (ht : Snd (model pg w) F A c₀ t x) (hk : ∀ a, Snd (model pg w) F A c₀ (k (.ok a)) (y a)) :
    Snd (model pg w) F A c₀ (t.attempt >>= k) (bd (calm x) y) := by
  intro p T m b i q s K D Γ hΓ Q E hh
  show Sem.wp (model pg w) Γ (t.attempt.bind k) Q E q s
  rw [Sem.wp_bind, Sem.wp_attempt]
  refine ht p T m b i q s K D Γ hΓ _ _ ?_
  unfold bd calm at hh
  cases z : x p T m b i with
  | ok a p' T' m' b' i' => rw [z] at hh; exact fun q' s' K' D' => hk a p' T' m' b' i' q' s' K' D' Γ hΓ Q E hh
  | err e p' T' m' b' i' => rw [z] at hh; exact hh.elim
  | stuck n => rw [z] at hh; exact hh.elim
theorem snd_pairsR (H : FnOk (model pg w) F A c₀ f) (env : Env) (pos : Pos) : ∀ (keys : List (Option PySem.Expr)) (values : List PySem.Expr), keys.all (·.isSome) = true → keys.length = values.length →
    Snd (model pg w) F A c₀ (evalPairs (pairTrees keys values env pos)) (pairsR f env pos keys values)
  | [], _, _, _ => by
    have : pairTrees [] ‹_› env pos = [] := by unfold pairTrees; rfl
    rw [this]
    exact snd_pure' _
  | none :: _, _, h, _ => by simp at h
  | some k :: ks, [], _, h => by simp at h
  | some k :: ks, v :: vs, ha, hl => by
    refine snd_bd' (H.E env k) fun kv => snd_bd' (snd_hold _ (snd_bd' (H.E env v) fun x => snd_bd' (snd_stand _) fun _ => snd_pure' _)) fun vv => ?_
    exact snd_bd' (snd_hold _ (snd_pairsR H env pos ks vs (by simpa using ha) (by simpa using hl))) fun r => snd_pure' _
theorem snd_storeR (G : Sound (model pg w) F go) (d : Addr) : ∀ l : List (Value × Value), Snd (model pg w) F A c₀ (forIn l PUnit.unit fun (x : Value × Value) (_ : PUnit) => (do dictSet d x.1 x.2; pure (ForInStep.yield PUnit.unit) : Sem (ForInStep PUnit))) (storeR F.al ⟨pg, w.params⟩ go A c₀ d l)
  | [] => snd_pure' _
  | kv :: l => by
    rw [List.forIn_cons]
    exact snd_assoc (snd_bd' (snd_dictSetR G d kv.1 kv.2) fun _ => snd_pureB _ (snd_storeR G d l))
theorem snd_dispR (G : Sound (model pg w) F go) (H : FnOk (model pg w) F A c₀ f) (env : Env) (keys : List (Option PySem.Expr)) (values : List PySem.Expr) (pos : Pos) :
    Snd (model pg w) F A c₀ (eval (.Dict keys values pos) env) (dispR F.al ⟨pg, w.params⟩ go A c₀ f env pos keys values) := by
  unfold dispR
  cases h : dispOk keys values with
  | false => exact snd_leaf G _
  | true =>
    unfold dispOk at h
    simp only [Bool.and_eq_true, beq_iff_eq] at h
    obtain ⟨ha, hl, h0, h15⟩ := h
    have h15 := Nat.le_of_ble_eq_true h15
    have hn := pairTrees_length keys values env pos ha hl
    have h0 : 0 < keys.length := by have := Nat.blt_eq (x := 0) (y := keys.length); rw [← this]; exact h0
    have hp0 : pairTrees keys values env pos ≠ [] := by
      intro he
      rw [he] at hn
      rw [← hn] at h0
      exact absurd h0 (by decide)
    rw [arm_eval_Dict, zip_pairTrees keys values env pos ha hl, dictDisplay_pairs _ hp0 (by rw [hn]; omega)]
    refine snd_bd' (snd_stand _) fun _ => snd_bd' ?_ fun d => snd_pure' _
    unfold subDict
    refine snd_bd' (snd_leaf G _) fun d => ?_
    rw [if_pos (by rw [hn]; exact h15)]
    exact snd_bd' (snd_hold _ (snd_bd' (snd_pairsR H env pos keys values ha hl) fun vs => snd_hold _ (snd_bd' (snd_storeR G d vs) fun _ => snd_pure' _))) fun _ => snd_pure' _
theorem snd_attemptV {t : Sem Flow} {x : R Flow} {k : Except Value Flow → Sem Value} {y : Flow → R Value} (ht : Snd (model pg w) F A c₀ t x) (hk : ∀ a, Snd (model pg w) F A c₀ (k (.ok a)) (y a)) :
    Snd (model pg w) F A c₀ (t.attempt >>= k) (bd (calm x) y) := snd_attempt ht hk
theorem snd_swapS (G : Sound (model pg w) F go) (H : FnOk (model pg w) F A c₀ f) (env : Env) (t value : PySem.Expr) :
    Snd (model pg w) F A c₀ (do evalThenUse value env fun v => assignAll v ((assignEach [t] env).map (·.2))
                                pure .next) (swapS F.al ⟨pg, w.params⟩ go A c₀ f env t value) := by
  unfold swapS
  split
  · rename_i elt gens scope pos
    cases hs : notStar t with
    | false => exact snd_no _ _
    | true =>
      rw [assignEach_cons t [] env hs, arm_evalThenUse_ListComp]
      refine snd_bd' (snd_bd' ?_ fun _ => snd_pure' _) fun _ => snd_pure' _
      generalize hu : (fun v => assignAll v (List.map (fun x => x.2) ((false, assign t env) :: assignEach [] env))) = use
      have hue : ∀ v, use v = assign t env v := fun v => by rw [← hu]; rfl
      cases gens with
      | nil => exact snd_no _ _
      | cons g gs =>
        obtain ⟨tg, gi, ifs, ga⟩ := g
        unfold swapR
        dsimp only
        cases ha : (ga != 0) with
        | true => exact snd_no _ _
        | false =>
          show Snd (model pg w) F A c₀ (comprehension (.ListComp elt (⟨tg, gi, ifs, ga⟩ :: gs) scope pos) scope env gi.pos (newList []) (ga != 0) (eval gi env) (some use)) _
          rw [ha]
          refine snd_bd' (H.E env gi) fun x => snd_bd' (snd_stand _) fun _ => snd_bd' (snd_leaf G _) fun x => snd_bd' (snd_hold _ (snd_pyIterR G _)) fun it => ?_
          refine snd_bd' (snd_stand _) fun _ => snd_bd' (snd_leaf G _) fun acc => snd_bd' (snd_leaf G _) fun cs => snd_bd' (snd_leaf G _) fun cenv => ?_
          refine snd_hold _ ?_
          refine snd_attempt (snd_hold _ (snd_leaf G _)) fun a => ?_
          refine snd_skip (snd_rule _) (snd_bd' (snd_hold _ (by rw [hue]; exact H.As env t acc)) fun _ => snd_bd' (snd_letGoR G _ _ _) fun _ => snd_pure' _)
  · exact snd_leaf G _
end
end Mine
open PySem PySem.W PySem.Spec PySem.Calls PyProof.Rows
set_option Elab.async false
namespace Mine
set_option genInjectivity false
set_option genSizeOf false
set_option maxHeartbeats 0
set_option linter.unusedVariables false

/-! names: looked up and bound by short roads -/
noncomputable def keyIs (n : Str) (v : Value) : Bool := match v with
  | .str s _ => Fast.sEq s n
  | _ => false
theorem keyIs_eq (n : Str) (v : Value) : keyIs n v = v.isStr n := by
  cases v with
  | str s t =>
    show Fast.sEq s n = (s == n)
    rw [Bool.eq_iff_iff, Fast.sEq_iff, beq_iff_eq]
  | _ => rfl
noncomputable def lookQ (n : Str) : List DictEntry → Option Value :=
  List.rec (motive := fun _ => Option Value) none (fun e _ ih => Bool.rec (motive := fun _ => Option Value) ih (some e.val) (keyIs n e.key))
noncomputable def replQ (n : Str) (v : Value) : List DictEntry → List DictEntry :=
  List.rec (motive := fun _ => List DictEntry) [] (fun e l ih => Bool.rec (motive := fun _ => List DictEntry) (e :: ih) (⟨e.hash, e.key, v⟩ :: l) (keyIs n e.key))
noncomputable def pushQ (x : DictEntry) : List DictEntry → List DictEntry :=
  List.rec (motive := fun _ => List DictEntry) [x] (fun e _ ih => e :: ih)
noncomputable def notRef : Value → Bool
  | .ref _ => false
  | _ => true
noncomputable def noRefs : List DictEntry → Bool := List.rec (motive := fun _ => Bool) true (fun e _ ih => Bool.rec (motive := fun _ => Bool) false ih (!e.refKey))
theorem lookQ_find (n : Str) : ∀ l : List DictEntry, lookQ n l = (l.find? (·.key.isStr n)).map (·.val)
  | [] => rfl
  | e :: l => by
    have ih := lookQ_find n l
    show Bool.rec (motive := fun _ => Option Value) (lookQ n l) (some e.val) (keyIs n e.key) = _
    rw [keyIs_eq, List.find?_cons]
    cases e.key.isStr n with
    | true => rfl
    | false => exact ih
theorem noRefs_any : ∀ l : List DictEntry, noRefs l = true → l.any (·.refKey) = false
  | [], _ => rfl
  | e :: l, h => by
    have h : Bool.rec (motive := fun _ => Bool) false (noRefs l) (!e.refKey) = true := h
    rw [List.any_cons]
    cases he : e.refKey with
    | true => rw [he] at h; cases h
    | false => rw [he] at h; simpa using noRefs_any l h
theorem putIn_hit {n : Str} {v w : Value} {f : Option DictEntry → DictEntry} (hf : ∀ e, f (some e) = ⟨e.hash, e.key, v⟩) : ∀ {l : List DictEntry}, lookQ n l = some w → nsPutIn n.cps.size n.cps.toList f l = (replQ n v l, false)
  | [], e => by cases e
  | x :: l, e => by
    have e : Bool.rec (motive := fun _ => Option Value) (lookQ n l) (some x.val) (keyIs n x.key) = some w := e
    unfold nsPutIn
    rw [Value.isStrByCps_eq, ← keyIs_eq]
    show _ = (Bool.rec (motive := fun _ => List DictEntry) (x :: replQ n v l) (⟨x.hash, x.key, v⟩ :: l) (keyIs n x.key), false)
    cases hk : keyIs n x.key with
    | true => simp only [if_true]; rw [hf]
    | false =>
      rw [hk] at e
      have := putIn_hit (v := v) hf (l := l) e
      simp only [Bool.false_eq_true, if_false]
      rw [this]
theorem putIn_miss {n : Str} {x₀ : DictEntry} {f : Option DictEntry → DictEntry} (hf : f none = x₀) : ∀ {l : List DictEntry}, lookQ n l = none → nsPutIn n.cps.size n.cps.toList f l = (pushQ x₀ l, true)
  | [], e => by unfold nsPutIn; rw [hf]; rfl
  | x :: l, e => by
    have e : Bool.rec (motive := fun _ => Option Value) (lookQ n l) (some x.val) (keyIs n x.key) = none := e
    unfold nsPutIn
    rw [Value.isStrByCps_eq, ← keyIs_eq]
    show _ = (x :: pushQ x₀ l, true)
    cases hk : keyIs n x.key with
    | true => rw [hk] at e; cases e
    | false =>
      rw [hk] at e
      have := putIn_miss hf (l := l) e
      simp only [Bool.false_eq_true, if_false]
      rw [this]
theorem find_list (es : Array DictEntry) (f : DictEntry → Bool) : es.find? f = es.toList.find? f := by
  obtain ⟨l⟩ := es
  rw [List.find?_toArray]
theorem look_hit {n : Str} {o : Obj} {es : Array DictEntry} {k : Nat} {v : Value} (hd : o.data = .dict es k) (h : lookQ n es.toList = some v) : nsLook n o = Sem.pure (some v) := by
  rw [nsLook_eq]
  unfold nsLookByArray
  rw [hd]
  dsimp only
  rw [lookQ_find] at h
  rw [find_list]
  cases hf : es.toList.find? (fun e => e.key.isStr n) with
  | none => rw [hf] at h; cases h
  | some e => rw [hf] at h; rw [← h]; rfl
theorem any_list (es : Array DictEntry) (f : DictEntry → Bool) : es.any f = es.toList.any f := by
  obtain ⟨l⟩ := es
  simp
theorem noName_hit {n : Str} {es : Array DictEntry} {v : Value} (h : lookQ n es.toList = some v) : aRefKeyMayBeTheName n es = false := by
  rw [aRefKeyMayBeTheName_at, any_list]
  rw [lookQ_find] at h
  cases hf : es.toList.find? (fun e => e.key.isStr n) with
  | none => rw [hf] at h; cases h
  | some e =>
    have : es.toList.any (fun e => e.key.isStr n) = true := List.any_eq_true.mpr ⟨e, List.mem_of_find?_eq_some hf, by simpa using List.find?_some hf⟩
    rw [this]
    rfl
theorem noName_miss {n : Str} {es : Array DictEntry} (h : noRefs es.toList = true) : aRefKeyMayBeTheName n es = false := by
  rw [aRefKeyMayBeTheName_at, any_list es (·.refKey), noRefs_any _ h, Bool.and_false]

noncomputable def isLoc (sc : Scope) (id : Str) : Bool := sc.kind == .function && sc.names.lookup id == some .local
noncomputable def isGlo (sc : Scope) (id : Str) : Bool := sc.kind == .function && (sc.names.lookup id == some .globalImplicit || sc.names.lookup id == some .globalExplicit)
theorem loadName_loc {env : Env} {id : Str} (h : isLoc env.scope id = true) : ∃ k, loadName env id = (nsGet env.locals id >>= k) ∧ ∀ v, k (some v) = (Pure.pure v : Sem Value) := by
  unfold isLoc at h
  rw [Bool.and_eq_true, beq_iff_eq, beq_iff_eq] at h
  have h2 : env.kindOf id = some .local := h.2
  unfold loadName
  have h3 : env.blockKind = .function := by unfold Env.blockKind; rw [h.1]; rfl
  rw [h.1, h2, h3]
  exact ⟨_, rfl, fun v => rfl⟩
theorem loadName_glo {env : Env} {id : Str} (h : isGlo env.scope id = true) : loadName env id = loadGlobal env id := by
  unfold isGlo at h
  rw [Bool.and_eq_true, Bool.or_eq_true, beq_iff_eq, beq_iff_eq, beq_iff_eq] at h
  have h3 : env.blockKind = .function := by unfold Env.blockKind; rw [h.1]; rfl
  unfold loadName
  rcases h.2 with q | q
  · have h2 : env.kindOf id = some .globalImplicit := q
    rw [h.1, h2, h3]
    rfl
  · have h2 : env.kindOf id = some .globalExplicit := q
    rw [h.1, h2, h3]
    rfl
theorem storeName_loc {env : Env} {id : Str} (v : Value) (h : isLoc env.scope id = true) : storeName env id v = nsSet env.locals id v := by
  unfold isLoc at h
  rw [Bool.and_eq_true, beq_iff_eq, beq_iff_eq] at h
  have h2 : env.kindOf id = some .local := h.2
  unfold storeName
  rw [h2, h.1]
  rfl

section
variable (al : Nat → Bool) (set : Setting) (go : Ar → Code → Run) (A : Ar) (c₀ : Code)
noncomputable def lookD (ns : Addr) (n : Str) (o : Obj) : R (Option Value) := match o.data with
  | .dict es _ => Option.rec (motive := fun _ => R (Option Value)) (leaf al set go A c₀ (nsGet ns n)) (fun v => pu (some v)) (lookQ n es.toList)
  | _ => no 191
noncomputable def nsGetQ (ns : Addr) (n : Str) : R (Option Value) := fun p T m b i => Option.rec (motive := fun _ => Ans (Option Value)) (.stuck 190) (fun o => lookD al set go A c₀ ns n o p T m b i) (T.get ns)
noncomputable def orNo {α : Type} (k : Nat) (x : Option α) : R α := Option.rec (motive := fun _ => R α) (no k) (fun v => pu v) x
noncomputable def llQ (env : Env) (id : Str) : R Value := bd (nsGetQ al set go A c₀ env.locals id) (orNo 192)
noncomputable def lgQ (env : Env) (id : Str) : R Value := bd (nsGetQ al set go A c₀ env.globals id) fun x => Option.rec (motive := fun _ => R Value) (bd (nsGetQ al set go A c₀ env.builtins id) (orNo 193)) (fun v => pu v) x
noncomputable def lnQ (env : Env) (id : Str) : R Value := Bool.rec (motive := fun _ => R Value) (Bool.rec (motive := fun _ => R Value) (leaf al set go A c₀ (loadName env id)) (lgQ al set go A c₀ env id) (isGlo env.scope id)) (llQ al set go A c₀ env id) (isLoc env.scope id)
noncomputable def putD (ns : Addr) (o' : Obj) : R Unit := fun p T m b i => Bool.rec (motive := fun _ => Ans Unit) (.stuck 194) (fTA (T.put (some o') ns) fun T' => fzA (Nat.succ i) fun i' => .ok () p T' m b i') (al ns)
noncomputable def newD (n : Str) (v : Value) (o : Obj) (l : List DictEntry) (k : Nat) : R (Option Obj) := fun p T m b i =>
  Option.rec (motive := fun _ => Ans (Option Obj)) (Bool.rec (motive := fun _ => Ans (Option Obj)) (.ok none p T m b i) (.ok (some ⟨o.cls, o.dict, .dict (Array.mk (pushQ ⟨PyData.keyHash set.params n, .str n (Nat.add b i), v⟩ l)) (k + 1), o.slots⟩) p T m b i) (noRefs l))
    (fun _ => .ok (some ⟨o.cls, o.dict, .dict (Array.mk (replQ n v l)) k, o.slots⟩) p T m b i) (lookQ n l)
noncomputable def setD (ns : Addr) (n : Str) (v : Value) (o : Obj) : R Unit := match o.data with
  | .dict es k => bd (newD set n v o es.toList k) fun x => Option.rec (motive := fun _ => R Unit) (leaf al set go A c₀ (nsSet ns n v)) (putD al ns) x
  | _ => no 195
noncomputable def nsSetQ (ns : Addr) (n : Str) (v : Value) : R Unit := fun p T m b i => Option.rec (motive := fun _ => Ans Unit) (.stuck 196) (fun o => setD al set go A c₀ ns n v o p T m b i) (T.get ns)
noncomputable def bnQ (env : Env) (id : Str) (v : Value) : R Unit := Bool.rec (motive := fun _ => R Unit) (leaf al set go A c₀ (bindName env id v)) (nsSetQ al set go A c₀ env.locals id v) (isLoc env.scope id)
end
section
variable {pg : Program} {w : World} {F : Frame} {go : Ar → Code → Run} {A : Ar} {c₀ : Code} {f : Fn} {α β : Type}
theorem snd_nsGetQ (G : Sound (model pg w) F go) (ns : Addr) (n : Str) : Snd (model pg w) F A c₀ (nsGet ns n) (nsGetQ F.al ⟨pg, w.params⟩ go A c₀ ns n) := by
  intro p T m b i q s K D Γ hΓ Q E h
  unfold nsGetQ at h
  cases z : T.get ns with
  | none => rw [z] at h; exact h.elim
  | some o =>
    rw [z] at h
    have h : Pays F Q E (lookD F.al ⟨pg, w.params⟩ go A c₀ ns n o p T m b i) := h
    unfold lookD at h
    cases hd : o.data with
    | dict es k =>
      rw [hd] at h
      dsimp only at h
      cases hl : lookQ n es.toList with
      | none => rw [hl] at h; exact snd_leaf G (nsGet ns n) p T m b i q s K D Γ hΓ Q E h
      | some v =>
        rw [hl] at h
        have h : ∀ q s, PosOk p q → Rep F s T m b i → Q (some v) q s := h
        have e := look_hit (n := n) hd hl
        refine ⟨o, D.get _ _ z, ?_⟩
        show Sem.wp (model pg w) Γ (nsLook n o) Q E q s
        rw [e]
        exact h q s K D
    | _ => rw [hd] at h; exact h.elim
theorem snd_lnQ (G : Sound (model pg w) F go) (env : Env) (id : Str) : Snd (model pg w) F A c₀ (loadName env id) (lnQ F.al ⟨pg, w.params⟩ go A c₀ env id) := by
  unfold lnQ
  cases h : isLoc env.scope id with
  | true =>
    obtain ⟨k, e, hk⟩ := loadName_loc h
    rw [e]
    refine snd_bd' (snd_nsGetQ G _ _) fun x => ?_
    cases x with
    | none => exact snd_no _ _
    | some v => rw [hk]; exact snd_pure' v
  | false =>
    dsimp only
    cases h : isGlo env.scope id with
    | false => exact snd_leaf G _
    | true =>
      rw [loadName_glo h]
      refine snd_bd' (snd_nsGetQ G _ _) fun x => ?_
      cases x with
      | some v => exact snd_pure' v
      | none =>
        refine snd_bd' (snd_nsGetQ G _ _) fun y => ?_
        cases y with
        | some v => exact snd_pure' v
        | none => exact snd_no _ _
theorem snd_nsSetQ (G : Sound (model pg w) F go) (ns : Addr) (n : Str) (v : Value) : Snd (model pg w) F A c₀ (nsSet ns n v) (nsSetQ F.al ⟨pg, w.params⟩ go A c₀ ns n v) := by
  intro p T m b i q s K D Γ hΓ Q E h
  unfold nsSetQ at h
  cases z : T.get ns with
  | none => rw [z] at h; exact h.elim
  | some o =>
    rw [z] at h
    have h : Pays F Q E (setD F.al ⟨pg, w.params⟩ go A c₀ ns n v o p T m b i) := h
    unfold setD at h
    cases hd : o.data with
    | dict es k =>
      rw [hd] at h
      dsimp only at h
      -- the one new object
      have main : ∀ o' : Obj, aRefKeyMayBeTheName n es = false → Obj.putName n (PyData.keyHash w.params n) (.str n (Nat.add b i)) v o = o' → o'.isFreed = false → Pays F Q E (putD F.al ns o' p T m b i) → Sem.wp (model pg w) Γ (nsSet ns n v) Q E q s := by
        intro o' ha he hf h
        unfold putD at h
        cases hal : F.al ns with
        | false => rw [hal] at h; exact h.elim
        | true =>
          rw [hal] at h
          dsimp only at h
          rw [fTA_eq, fzA_eq] at h
          have h : ∀ q s, PosOk p q → Rep F s (T.put (some o') ns) m b (Nat.succ i) → Q () q s := h
          have D1 := D.fresh
          refine ⟨o, D1.get _ _ z, ?_⟩
          show Sem.wp (model pg w) Γ (match o.data with
            | .dict es _ => (if aRefKeyMayBeTheName n es = true then ((unsupported "namespace:key-that-is-no-exact-str" : Sem PUnit) >>= fun _ => updatePart ns (some (.str n 0)) (Obj.putName n (PyData.keyHash w.params n) (.str n s.toks) v)) else updatePart ns (some (.str n 0)) (Obj.putName n (PyData.keyHash w.params n) (.str n s.toks) v))
            | _ => unsupported "internal:write-to-non-dict") Q E q _
          rw [hd]
          dsimp only
          rw [ha]
          have e2 : s.toks = Nat.add b i := D.toks
          rw [← e2] at he
          have hu := D1.update (a := ns) (o := o) (f := Obj.putName n (PyData.keyHash w.params n) (.str n s.toks) v) z hal (by rw [he]; exact hf)
          rw [he] at hu
          exact ⟨by rw [D1.get _ _ z]; rfl, h q _ K hu⟩
      unfold newD bd at h
      cases hl : lookQ n es.toList with
      | some v₀ =>
        rw [hl] at h
        refine main _ (noName_hit hl) ?_ rfl h
        obtain ⟨c, d, da, sl⟩ := o
        have hd : da = .dict es k := hd
        subst hd
        unfold Obj.putName
        dsimp only
        rw [putIn_hit (v := v) (fun _ => rfl) hl]
      | none =>
        rw [hl] at h
        dsimp only at h
        cases hr : noRefs es.toList with
        | false => rw [hr] at h; exact snd_leaf G (nsSet ns n v) p T m b i q s K D Γ hΓ Q E h
        | true =>
          rw [hr] at h
          refine main _ (noName_miss hr) ?_ rfl h
          obtain ⟨c, d, da, sl⟩ := o
          have hd : da = .dict es k := hd
          subst hd
          unfold Obj.putName
          dsimp only
          rw [putIn_miss rfl hl]
    | _ => rw [hd] at h; exact h.elim
theorem snd_bnQ (G : Sound (model pg w) F go) (env : Env) (id : Str) (v : Value) : Snd (model pg w) F A c₀ (bindName env id v) (bnQ F.al ⟨pg, w.params⟩ go A c₀ env id v) := by
  unfold bnQ
  cases h : isLoc env.scope id with
  | false => exact snd_leaf G _
  | true =>
    unfold bindName
    rw [storeName_loc v h]
    refine snd_skip (snd_hold _ snd_point) ?_
    intro p T m b i q s K D Γ hΓ Q E hp
    show Sem.wp (model pg w) Γ ((nsSet env.locals id v).bind fun _ => point) Q E q s
    rw [Sem.wp_bind]
    exact snd_nsSetQ G env.locals id v p T m b i q s K D Γ hΓ _ _ hp
end
end Mine
open PySem PySem.W PySem.Spec PySem.Calls PyProof.Rows
set_option Elab.async false
namespace Mine
set_option genInjectivity false
set_option genSizeOf false
set_option maxHeartbeats 0
set_option genInjectivity false
set_option genSizeOf false
set_option linter.unusedVariables false

/-! the texts by views that are small to look at: a view of a text is reckoned once -/
inductive EV where
  | name (id : Str) (p : Pos)
  | const (c : Const)
  | boolOp (op : BoolOp) (vs : List PySem.Expr) (p : Pos)
  | binOp (l : PySem.Expr) (op : Operator) (r : PySem.Expr) (p : Pos)
  | unary (op : UnaryOp) (x : PySem.Expr) (p : Pos)
  | ifExp (t b o : PySem.Expr)
  | list (es : List PySem.Expr) (p : Pos)
  | tuple (es : List PySem.Expr) (p : Pos)
  | dict (ks : List (Option PySem.Expr)) (vs : List PySem.Expr) (p : Pos)
  | comp (elt : PySem.Expr) (gens : List Comprehension) (scope : Scope) (p : Pos)
  | compare (l : PySem.Expr) (ops : List CmpOp) (es : List PySem.Expr) (p : Pos)
  | call (f : PySem.Expr) (args : List PySem.Expr) (p : Pos)
  | attr (v : PySem.Expr) (n : Str) (p : Pos)
  | sub (v s : PySem.Expr) (p : Pos)
  | other
noncomputable def viewE : PySem.Expr → EV
  | .Name id p => .name id p
  | .Constant c _ _ => .const c
  | .BoolOp op vs p => .boolOp op vs p
  | .BinOp l op r p => .binOp l op r p
  | .UnaryOp op x p => .unary op x p
  | .IfExp t b o _ => .ifExp t b o
  | .List es p => .list es p
  | .Tuple es _ p => .tuple es p
  | .Dict ks vs p => .dict ks vs p
  | .ListComp elt gens scope p => .comp elt gens scope p
  | .Compare l ops es p => .compare l ops es p
  | .Call f args [] p => .call f args p
  | .Attribute v n p => .attr v n p
  | .Subscript v s p => .sub v s p
  | _ => .other
inductive BV where
  | notOp (x : PySem.Expr)
  | boolOp (op : BoolOp) (vs : List PySem.Expr)
  | ifExp (t b o : PySem.Expr)
  | compare (l : PySem.Expr) (ops : List CmpOp) (es : List PySem.Expr) (p : Pos)
  | other
noncomputable def viewB : PySem.Expr → BV
  | .UnaryOp .Not x _ => .notOp x
  | .BoolOp op vs _ => .boolOp op vs
  | .IfExp t b o _ => .ifExp t b o
  | .Compare l ops es p => .compare l ops es p
  | _ => .other
inductive SV where
  | expr (v : PySem.Expr) (p : Pos)
  | ret (v : Option PySem.Expr) (p : Pos)
  | assign (t v : PySem.Expr) (p : Pos)
  | augName (id : Str) (np : Pos) (op : Operator) (v : PySem.Expr) (p : Pos)
  | augAttr (o : PySem.Expr) (n : Str) (tp : Pos) (op : Operator) (v : PySem.Expr) (p : Pos)
  | ifS (t : PySem.Expr) (b o : List Stmt) (p : Pos)
  | forS (t i : PySem.Expr) (b o : List Stmt) (p : Pos)
  | other
noncomputable def viewS : Stmt → SV
  | .Expr v p => .expr v p
  | .Return v p => .ret v p
  | .Assign [t] v p => .assign t v p
  | .AugAssign (.Name id np) op v p => .augName id np op v p
  | .AugAssign (.Attribute o n tp) op v p => .augAttr o n tp op v p
  | .If t b o p => .ifS t b o p
  | .For t i b o p => .forS t i b o p
  | _ => .other
inductive TV where
  | name (id : Str) (p : Pos)
  | attr (o : PySem.Expr) (n : Str) (p : Pos)
  | sub (o i : PySem.Expr) (p : Pos)
  | tuple (es : List PySem.Expr) (p : Pos)
  | other
noncomputable def viewT : PySem.Expr → TV
  | .Name id p => .name id p
  | .Attribute o n p => .attr o n p
  | .Subscript o i p => .sub o i p
  | .Tuple es _ p => .tuple es p
  | _ => .other
inductive FV where
  | attr (o : PySem.Expr) (n : Str) (p : Pos)
  | other
noncomputable def viewF : PySem.Expr → FV
  | .Attribute o n p => .attr o n p
  | _ => .other
noncomputable def isDebug (id : Str) : Bool := id == ("__debug__" : Str)
noncomputable def isComp : PySem.Expr → Bool
  | .ListComp .. | .SetComp .. | .DictComp .. => true
  | _ => false
noncomputable def isSetD : PySem.Expr → Bool
  | .Set .. => true
  | _ => false
noncomputable def isNameE : PySem.Expr → Bool
  | .Name .. => true
  | _ => false
noncomputable def isTupL : PySem.Expr → Bool
  | .Tuple .. | .List .. => true
  | _ => false
noncomputable def pairSw (t v : PySem.Expr) : Bool := isTupL t && match v with
  | .Tuple .. => true
  | _ => false
noncomputable def someHandled : Option Value → Bool := Option.isSome

section
variable (al : Nat → Bool) (set : Setting) (go : Ar → Code → Run) (A : Ar) (c₀ : Code)
noncomputable def swQ (t value : PySem.Expr) (line : Nat) (env : Env) : R Bool := Bool.rec (motive := fun _ => R Bool) (pu false) (leaf al set go A c₀ (swapsWithSole [t] value line env)) (isComp value)
noncomputable def swN (value : PySem.Expr) (line : Nat) (env : Env) : R Bool := Bool.rec (motive := fun _ => R Bool) (pu false) (leaf al set go A c₀ (swapsWith value none line env)) (isComp value)
noncomputable def ssQ (t value : PySem.Expr) (env : Env) : R (Option (List Str)) := Bool.rec (motive := fun _ => R (Option (List Str))) (pu none) (leaf al set go A c₀ (swappedStores [t] value env)) (pairSw t value)
noncomputable def fsQ (i : PySem.Expr) (env : Env) (x : Value) : R Value := Bool.rec (motive := fun _ => R Value) (pu x) (leaf al set go A c₀ (foldedSetIterable i env x)) (isSetD i)
noncomputable def ltQ (base : PySem.Expr) (o r : Value) : R Unit := Bool.rec (motive := fun _ => R Unit) (leaf al set go A c₀ (letTemporaryGo base o r)) (pu ()) (isNameE base)
noncomputable def loQ (t : PySem.Expr) (it v : Value) : R Unit := Bool.rec (motive := fun _ => R Unit) (pu ()) (leaf al set go A c₀ (letOwnedTupleGo t it v)) (isTupL t)
noncomputable def dvQ (e : PySem.Expr) (p : Pos) (v : Value) : R Flow := match v with
  | .none => pu .next
  | _ => leaf al set go A c₀ (dropValue e p v)

noncomputable def eName (env : Env) (id : Str) (p : Pos) : R Value := bd (stand p) fun _ => Bool.rec (motive := fun _ => R Value) (lnQ al set go A c₀ env id) (leaf al set go A c₀ debugConstant) (isDebug id)
noncomputable def eConst (env : Env) (c : Const) : R Value := leaf al set go A c₀ (constValue env c)
noncomputable def eBool (f : Fn) (env : Env) (op : BoolOp) (vs : List PySem.Expr) (p : Pos) : R Value := bo al set go A c₀ f env p op vs
noncomputable def eBin (f : Fn) (env : Env) (l : PySem.Expr) (op : Operator) (r : PySem.Expr) (p : Pos) : R Value := bd (f.E env l) fun a => bd (f.E env r) fun b => bd (stand p) fun _ => bd (binR al set go A c₀ op a b) fun r => pu r
noncomputable def eUn (f : Fn) (env : Env) (op : UnaryOp) (x : PySem.Expr) (p : Pos) : R Value := bd (f.E env x) fun v => bd (stand p) fun _ => leaf al set go A c₀ (unaryOp op v)
noncomputable def eIf (f : Fn) (env : Env) (t b o : PySem.Expr) : R Value := bd (f.B env t) fun t => Bool.rec (motive := fun _ => R Value) (f.E env o) (f.E env b) t
noncomputable def eList (f : Fn) (env : Env) (elts : List PySem.Expr) (p : Pos) : R Value := Bool.rec (motive := fun _ => R _) (no 42) (bd (stand p) fun _ => bd (es f env elts) fun vs => leaf al set go A c₀ (newList vs)) (elts.all notStar)
noncomputable def eTup (f : Fn) (env : Env) (elts : List PySem.Expr) (p : Pos) : R Value := Bool.rec (motive := fun _ => R _) (no 42) (bd (stand p) fun _ => bd (es f env elts) fun vs => leaf al set go A c₀ (newTuple vs)) (elts.all notStar)
noncomputable def eDict (f : Fn) (env : Env) (ks : List (Option PySem.Expr)) (vs : List PySem.Expr) (p : Pos) : R Value := dispR al set go A c₀ f env p ks vs
noncomputable def listCompV (f : Fn) (env : Env) (e : PySem.Expr) (scope : Scope) (gens : List Comprehension) : R Value := List.rec (motive := fun _ => R Value) (no 49) (fun g _ _ =>
      Bool.rec (motive := fun _ => R Value) (bd (f.E env g.iter) fun x => bd (stand g.iter.pos) fun _ => bd (fsQ al set go A c₀ g.iter env x) fun x => bd (pyIterR al set go A c₀ x) fun it =>
      bd (leaf al set go A c₀ (newList [])) fun acc => bd (leaf al set go A c₀ (closureFor scope env)) fun cs => bd (leaf al set go A c₀ (newFunctionEnv scope env.globals cs [] env.qual none .none (some env))) fun cenv =>
      bd (calm (leaf al set go A c₀ (run (.compStart e 0 it acc (innerEnv scope env cenv))))) fun _ => bd (letGoR al set go A c₀ (innerEnv scope env cenv) (innerVars scope).reverse) fun _ => pu acc) (no 48) (g.is_async != 0)) gens
noncomputable def eComp (f : Fn) (env : Env) (elt : PySem.Expr) (gens : List Comprehension) (scope : Scope) (p : Pos) : R Value := listCompV al set go A c₀ f env (.ListComp elt gens scope p) scope gens
noncomputable def eCmp (f : Fn) (env : Env) (l : PySem.Expr) (ops : List CmpOp) (es : List PySem.Expr) (p : Pos) : R Value := bd (f.E env l) fun a => chainR al set go A c₀ f env p ops a es
noncomputable def eCallN (f : Fn) (env : Env) (args : List PySem.Expr) (pos : Pos) (func : PySem.Expr) : R Value := bd (f.E env func) fun fv => bd (es f env args) fun a => callWithR al set go A c₀ pos args.length fv [] a
noncomputable def eCallA (f : Fn) (env : Env) (args : List PySem.Expr) (pos : Pos) (o : PySem.Expr) (name : Str) (apos : Pos) : R Value :=
  Bool.rec (motive := fun _ => R Value) (no 45) (bd (f.E env o) fun ov => bd (stand apos.atName) fun _ => bd (leaf al set go A c₀ (calleeOf (Nat.blt args.length 30) o env ov name)) fun fv => bd (leaf al set go A c₀ (methodCallPos (Nat.blt args.length 30) o env apos pos)) fun cp =>
          bd (es f env args) fun a => callWithR al set go A c₀ cp args.length fv.1 fv.2 a) (notCall o)
noncomputable def callV (f : Fn) (env : Env) (args : List PySem.Expr) (pos : Pos) (func : PySem.Expr) : R Value :=
  FV.rec (motive := fun _ => R Value) (eCallA al set go A c₀ f env args pos) (eCallN al set go A c₀ f env args pos func) (viewF func)
noncomputable def eCall (f : Fn) (env : Env) (func : PySem.Expr) (args : List PySem.Expr) (p : Pos) : R Value := Bool.rec (motive := fun _ => R Value) (no 42) (callV al set go A c₀ f env args p func) (args.all notStar)
noncomputable def eAttr (f : Fn) (env : Env) (v : PySem.Expr) (n : Str) (p : Pos) : R Value :=
  Bool.rec (motive := fun _ => R _) (no 45) (bd (f.E env v) fun o => bd (stand p.atName) fun _ => bd (leaf al set go A c₀ (getAttr o n true)) fun r => bd (ltQ al set go A c₀ v o r) fun _ => pu r) (notCall v)
noncomputable def eSub (f : Fn) (env : Env) (v s : PySem.Expr) (p : Pos) : R Value :=
  bd (f.E env v) fun o => bd (f.E env s) fun i => bd (stand p) fun _ => bd (leaf al set go A c₀ (getitemInPython o)) fun g => bd (leaf al set go A c₀ (subscripted s g o i)) fun r => bd (ltQ al set go A c₀ v o r) fun _ => pu r
noncomputable def stepEV (f : Fn) (env : Env) (e : PySem.Expr) : R Value :=
  EV.rec (motive := fun _ => R Value) (eName al set go A c₀ env) (eConst al set go A c₀ env) (eBool al set go A c₀ f env) (eBin al set go A c₀ f env) (eUn al set go A c₀ f env) (eIf f env) (eList al set go A c₀ f env) (eTup al set go A c₀ f env) (eDict al set go A c₀ f env)
    (eComp al set go A c₀ f env) (eCmp al set go A c₀ f env) (eCall al set go A c₀ f env) (eAttr al set go A c₀ f env) (eSub al set go A c₀ f env) (leaf al set go A c₀ (eval e env)) (viewE e)

noncomputable def bNot (f : Fn) (env : Env) (x : PySem.Expr) : R Bool := bd (f.B env x) fun b => pu (!b)
noncomputable def bIf (f : Fn) (env : Env) (t b o : PySem.Expr) : R Bool := bd (f.B env t) fun t => Bool.rec (motive := fun _ => R Bool) (f.B env o) (f.B env b) t
noncomputable def bCmp (f : Fn) (env : Env) (l : PySem.Expr) (ops : List CmpOp) (es : List PySem.Expr) (p : Pos) : R Bool := bd (f.E env l) fun a => testR al set go A c₀ f env p ops a es
noncomputable def bOther (f : Fn) (env : Env) (e : PySem.Expr) : R Bool := bd (f.E env e) fun v => bd (stand e.pos) fun _ => leaf al set go A c₀ (truthy v)
noncomputable def stepBV (f : Fn) (env : Env) (e : PySem.Expr) : R Bool :=
  BV.rec (motive := fun _ => R Bool) (bNot f env) (at' f env) (bIf f env) (bCmp al set go A c₀ f env) (bOther al set go A c₀ f env e) (viewB e)

noncomputable def sExpr (f : Fn) (env : Env) (value : PySem.Expr) (pos : Pos) : R Flow := bd (stand pos) fun _ => Bool.rec (motive := fun _ => R Flow) (bd (swN al set go A c₀ value pos.line env) fun b => Bool.rec (motive := fun _ => R Flow) (bd (f.E env value) fun v => dvQ al set go A c₀ value pos v) (no 46) b) (no 46) (interactive env)
noncomputable def sRet (f : Fn) (env : Env) (value : Option PySem.Expr) (pos : Pos) : R Flow := bd (stand pos) fun _ => Option.rec (motive := fun _ => R Flow) (pu (.ret .none)) (fun e => bd (f.E env e) fun v => pu (.ret v)) value
noncomputable def sStore (f : Fn) (env : Env) (t : PySem.Expr) (v : Value) : R Flow := Bool.rec (motive := fun _ => R Flow) (no 42) (bd (f.As env t v) fun _ => pu .next) (notStar t)
noncomputable def sSwap (env : Env) (v : Value) (names : List Str) : R Flow := bd (unpackR al set go A c₀ v names.length) fun items => bd (bindAllR al set go A c₀ env names.reverse items.reverse) fun _ => pu .next
noncomputable def sAssign (f : Fn) (env : Env) (t value : PySem.Expr) (pos : Pos) : R Flow := bd (stand pos) fun _ => bd (swQ al set go A c₀ t value pos.line env) fun b => Bool.rec (motive := fun _ => R Flow)
      (bd (f.E env value) fun v => bd (ssQ al set go A c₀ t value env) fun sw => Option.rec (motive := fun _ => R Flow) (sStore f env t v) (sSwap al set go A c₀ env v) sw)
      (swapS al set go A c₀ f env t value) b
noncomputable def sAugN (f : Fn) (env : Env) (id : Str) (npos : Pos) (op : Operator) (value : PySem.Expr) (pos : Pos) : R Flow :=
  bd (stand npos) fun _ => bd (lnQ al set go A c₀ env id) fun old => bd (f.E env value) fun v => bd (stand pos) fun _ => bd (inpR al set go A c₀ op old v) fun r => bd (stand npos) fun _ => bd (bnQ al set go A c₀ env id r) fun _ => pu .next
noncomputable def sAugA (f : Fn) (env : Env) (o : PySem.Expr) (attr : Str) (tpos : Pos) (op : Operator) (value : PySem.Expr) (pos : Pos) : R Flow := bd (stand pos) fun _ => bd (f.E env o) fun ov =>
      bd (bd (stand tpos.atName) fun _ => bd (leaf al set go A c₀ (getAttr ov attr true)) fun old => bd (f.E env value) fun v => bd (stand pos) fun _ => bd (inpR al set go A c₀ op old v) fun r => pu r) fun r =>
      bd (stand tpos.atName) fun _ => bd (leaf al set go A c₀ (setAttr ov attr r)) fun _ => pu .next
noncomputable def sIf (f : Fn) (env : Env) (test : PySem.Expr) (body orelse : List Stmt) (pos : Pos) : R Flow := bd (stand pos) fun _ => bd (f.B env test) fun t => Bool.rec (motive := fun _ => R Flow) (ss f env orelse) (ss f env body) t
noncomputable def sFor (f : Fn) (env : Env) (target iter : PySem.Expr) (body orelse : List Stmt) (pos : Pos) : R Flow := bd (stand pos) fun _ => bd (f.E env iter) fun x => bd (fsQ al set go A c₀ iter env x) fun x => bd (stand iter.pos) fun _ => bd (pyIterR al set go A c₀ x) fun it => leaf al set go A c₀ (runOwn (.forLoop target it body orelse env) env)
noncomputable def stepSV (f : Fn) (env : Env) (s : Stmt) : R Flow :=
  SV.rec (motive := fun _ => R Flow) (sExpr al set go A c₀ f env) (sRet f env) (sAssign al set go A c₀ f env) (sAugN al set go A c₀ f env) (sAugA al set go A c₀ f env) (sIf f env) (sFor al set go A c₀ f env) (leaf al set go A c₀ (exec s env)) (viewS s)

noncomputable def tName (env : Env) (v : Value) (id : Str) (p : Pos) : R Unit := bd (stand p) fun _ => bnQ al set go A c₀ env id v
noncomputable def tAttr (f : Fn) (env : Env) (v : Value) (o : PySem.Expr) (attr : Str) (pos : Pos) : R Unit := bd (f.E env o) fun ov => bd (stand pos.atName) fun _ => bd (leaf al set go A c₀ (setAttr ov attr v)) fun _ => pu ()
noncomputable def tSub (f : Fn) (env : Env) (v : Value) (o i : PySem.Expr) (pos : Pos) : R Unit := bd (f.E env o) fun ov => bd (f.E env i) fun iv => bd (stand pos) fun _ => bd (leaf al set go A c₀ (setItem ov iv v)) fun _ => pu ()
noncomputable def tTup (f : Fn) (env : Env) (v : Value) (elts : List PySem.Expr) (pos : Pos) : R Unit := Bool.rec (motive := fun _ => R _) (no 42) (bd (stand pos) fun _ => bd (unpackR al set go A c₀ v elts.length) fun xs => asg f env elts xs) (elts.all notStar)
noncomputable def stepAsV (f : Fn) (env : Env) (t : PySem.Expr) (v : Value) : R Unit :=
  TV.rec (motive := fun _ => R Unit) (tName al set go A c₀ env v) (tAttr al set go A c₀ f env v) (tSub al set go A c₀ f env v) (tTup al set go A c₀ f env v) (leaf al set go A c₀ (assign t env v)) (viewT t)
noncomputable def fns : Nat → Fn :=
  Nat.rec noFn (fun _ f => ⟨stepEV al set go A c₀ f, stepBV al set go A c₀ f, stepSV al set go A c₀ f, stepAsV al set go A c₀ f⟩)
end

section
variable {pg : Program} {w : World} {F : Frame} {go : Ar → Code → Run} {A : Ar} {c₀ : Code} {f : Fn} {α β : Type}
theorem snd_swN (G : Sound (model pg w) F go) (value : PySem.Expr) (line : Nat) (env : Env) : Snd (model pg w) F A c₀ (swapsWith value none line env) (swN F.al ⟨pg, w.params⟩ go A c₀ value line env) := by
  unfold swN
  cases h : isComp value with
  | true => exact snd_leaf G _
  | false => cases value <;> first | exact snd_pure' _ | cases h
theorem snd_swQ (G : Sound (model pg w) F go) (t value : PySem.Expr) (line : Nat) (env : Env) : Snd (model pg w) F A c₀ (swapsWithSole [t] value line env) (swQ F.al ⟨pg, w.params⟩ go A c₀ t value line env) := by
  unfold swQ
  cases h : isComp value with
  | true => exact snd_leaf G _
  | false => cases value <;> first | exact snd_pure' _ | cases h
theorem snd_ssQ (G : Sound (model pg w) F go) (t value : PySem.Expr) (env : Env) : Snd (model pg w) F A c₀ (swappedStores [t] value env) (ssQ F.al ⟨pg, w.params⟩ go A c₀ t value env) := by
  unfold ssQ
  cases h : pairSw t value with
  | true => exact snd_leaf G _
  | false =>
    unfold pairSw at h
    cases t <;> first | exact snd_pure' _ | (cases value <;> first | exact snd_pure' _ | cases h)
theorem snd_fsQ (G : Sound (model pg w) F go) (i : PySem.Expr) (env : Env) (x : Value) : Snd (model pg w) F A c₀ (foldedSetIterable i env x) (fsQ F.al ⟨pg, w.params⟩ go A c₀ i env x) := by
  unfold fsQ
  cases h : isSetD i with
  | true => exact snd_leaf G _
  | false => cases i <;> first | exact snd_pure' _ | cases h
theorem snd_ltQ (G : Sound (model pg w) F go) (base : PySem.Expr) (o r : Value) : Snd (model pg w) F A c₀ (letTemporaryGo base o r) (ltQ F.al ⟨pg, w.params⟩ go A c₀ base o r) := by
  unfold ltQ
  cases h : isNameE base with
  | false => exact snd_leaf G _
  | true =>
    cases base with
    | Name id p => exact snd_pure' _
    | _ => exact Bool.noConfusion h
theorem snd_loQ (G : Sound (model pg w) F go) (t : PySem.Expr) (it v : Value) : Snd (model pg w) F A c₀ (letOwnedTupleGo t it v) (loQ F.al ⟨pg, w.params⟩ go A c₀ t it v) := by
  unfold loQ
  cases h : isTupL t with
  | true => exact snd_leaf G _
  | false => cases t <;> first | exact snd_pure' _ | cases h
theorem snd_dvQ (G : Sound (model pg w) F go) (e : PySem.Expr) (p : Pos) (v : Value) : Snd (model pg w) F A c₀ (dropValue e p v) (dvQ F.al ⟨pg, w.params⟩ go A c₀ e p v) := by
  cases v with
  | none => cases e <;> exact snd_pure' _
  | _ => exact snd_leaf G _
theorem snd_eComp (G : Sound (model pg w) F go) (H : FnOk (model pg w) F A c₀ f) (env : Env) (elt : PySem.Expr) (gens : List Comprehension) (scope : Scope) (pos : Pos) :
    Snd (model pg w) F A c₀ (eval (.ListComp elt gens scope pos) env) (eComp F.al ⟨pg, w.params⟩ go A c₀ f env elt gens scope pos) := by
  cases gens with
  | nil => exact snd_no _ _
  | cons g gs =>
    obtain ⟨tg, gi, ifs, ga⟩ := g
    unfold eComp listCompV
    dsimp only
    cases ha : (ga != 0) with
    | true => exact snd_no _ _
    | false =>
      show Snd (model pg w) F A c₀ (comprehension (.ListComp elt (⟨tg, gi, ifs, ga⟩ :: gs) scope pos) scope env gi.pos (newList []) (ga != 0) (eval gi env) none) _
      rw [ha]
      refine snd_bd' (H.E env gi) fun x => snd_bd' (snd_stand _) fun _ => snd_bd' (snd_fsQ G _ _ _) fun x => snd_bd' (snd_hold _ (snd_pyIterR G _)) fun it => ?_
      refine snd_bd' (snd_leaf G _) fun acc => snd_bd' (snd_leaf G _) fun cs => snd_bd' (snd_leaf G _) fun cenv => ?_
      refine snd_hold _ ?_
      refine snd_attempt (snd_hold _ (snd_leaf G _)) fun a => ?_
      exact snd_bd' (snd_hold _ (snd_letGoR G _ _ _)) fun _ => snd_pure' _
theorem snd_eName (G : Sound (model pg w) F go) (env : Env) (id : Str) (p : Pos) : Snd (model pg w) F A c₀ (eval (.Name id p) env) (eName F.al ⟨pg, w.params⟩ go A c₀ env id p) := by
  refine snd_bd' (snd_stand _) fun _ => ?_
  unfold isDebug
  cases h : (id == ("__debug__" : Str)) with
  | true => exact snd_leaf G _
  | false => exact snd_lnQ G _ _
theorem snd_stepEV (G : Sound (model pg w) F go) (H : FnOk (model pg w) F A c₀ f) (env : Env) (e : PySem.Expr) : Snd (model pg w) F A c₀ (eval e env) (stepEV F.al ⟨pg, w.params⟩ go A c₀ f env e) := by
  cases e with
  | Name id p => exact snd_eName G env id p
  | Constant c k p => exact snd_leaf G _
  | BoolOp op vs p => exact snd_bo G H _ _ _ _
  | BinOp l op r p => exact snd_bd' (H.E env _) fun a => snd_bd' (snd_hold _ (H.E env _)) fun b => snd_bd' (snd_stand _) fun _ => snd_operate (snd_binR G _ _ _)
  | UnaryOp op x p => exact snd_bd' (H.E env _) fun v => snd_bd' (snd_stand _) fun _ => snd_hold _ (snd_leaf G _)
  | IfExp t b o p => exact snd_bd' (H.B env _) fun t => by cases t <;> exact H.E env _
  | List elts p =>
    show Snd (model pg w) F A c₀ _ (eList F.al ⟨pg, w.params⟩ go A c₀ f env elts p)
    unfold eList
    cases h : elts.all notStar with
    | false => exact snd_no _ _
    | true =>
      refine snd_bd' (snd_stand _) fun _ => ?_
      rw [backTo_plain p _ (starEach_false env elts h)]
      exact snd_bd' (snd_es H env elts h) fun vs => snd_leaf G _
  | Tuple elts k p =>
    show Snd (model pg w) F A c₀ _ (eTup F.al ⟨pg, w.params⟩ go A c₀ f env elts p)
    unfold eTup
    cases h : elts.all notStar with
    | false => exact snd_no _ _
    | true =>
      refine snd_bd' (snd_stand _) fun _ => ?_
      rw [backTo_plain p _ (starEach_false env elts h)]
      exact snd_bd' (snd_es H env elts h) fun vs => snd_leaf G _
  | Dict ks vs p => exact snd_dispR G H env _ _ _
  | ListComp elt gens scope p => exact snd_eComp G H env elt gens scope p
  | Compare l ops es p => exact snd_bd' (H.E env _) fun a => snd_chainR G H env _ _ _ _
  | Call func args kws p =>
    cases kws with
    | cons k ks => exact snd_leaf G _
    | nil =>
      show Snd (model pg w) F A c₀ _ (eCall F.al ⟨pg, w.params⟩ go A c₀ f env func args p)
      unfold eCall
      cases h : args.all notStar with
      | false => exact snd_no _ _
      | true =>
        have := snd_callX G H env args p h func
        cases func <;> exact this
  | Attribute v n p =>
    show Snd (model pg w) F A c₀ _ (eAttr F.al ⟨pg, w.params⟩ go A c₀ f env v n p)
    unfold eAttr
    cases h : notCall v with
    | false => exact snd_no _ _
    | true =>
      refine snd_bd' (t := attributeBase v n env (eval v env)) ?_ fun o => ?_
      · rw [attributeBase_not _ _ _ _ h]; exact H.E env _
      · exact snd_bd' (snd_stand _) fun _ => snd_bd' (snd_hold _ (snd_leaf G _)) fun r => snd_bd' (snd_ltQ G _ _ _) fun _ => snd_pure' _
  | Subscript v s p => exact snd_bd' (H.E env _) fun o => snd_bd' (snd_hold _ (H.E env _)) fun i => snd_bd' (snd_stand _) fun _ => snd_bd' (snd_leaf G _) fun p => snd_bd' (snd_leaf G _) fun r => snd_bd' (snd_ltQ G _ _ _) fun _ => snd_pure' _
  | _ => exact snd_leaf G _
theorem snd_stepBV (G : Sound (model pg w) F go) (H : FnOk (model pg w) F A c₀ f) (env : Env) (e : PySem.Expr) : Snd (model pg w) F A c₀ (isTrue e env (eval e env)) (stepBV F.al ⟨pg, w.params⟩ go A c₀ f env e) := by
  have other : ∀ e : PySem.Expr, Snd (model pg w) F A c₀ (do let v ← eval e env; standAt e.pos; holding [v] (truthy v)) (bOther F.al ⟨pg, w.params⟩ go A c₀ f env e) :=
    fun e => snd_bd' (H.E env e) fun v => snd_bd' (snd_stand _) fun _ => snd_hold _ (snd_leaf G _)
  cases e with
  | UnaryOp op x pos =>
    cases op with
    | Not => exact snd_bd' (H.B env x) fun b => snd_pure' _
    | _ => exact other _
  | BoolOp op values pos => exact snd_at H env op values
  | IfExp test body orelse pos => exact snd_bd' (H.B env test) fun t => by cases t <;> exact H.B env _
  | Compare left ops es pos => exact snd_bd' (H.E env _) fun a => snd_testR G H env pos ops a es
  | _ => exact other _
theorem snd_stepAsV (G : Sound (model pg w) F go) (H : FnOk (model pg w) F A c₀ f) (env : Env) (t : PySem.Expr) (v : Value) : Snd (model pg w) F A c₀ (assign t env v) (stepAsV F.al ⟨pg, w.params⟩ go A c₀ f env t v) := by
  have rel : ∀ {t : Sem Unit} {x : R Unit} (vs ks : List Value), Snd (model pg w) F A c₀ t x → Snd (model pg w) F A c₀ (t >>= fun _ => release vs ks) (bd x fun _ => pu ()) := fun vs ks h => snd_bd' h fun _ => snd_release vs ks
  cases t with
  | Name id p => exact snd_bd' (snd_stand _) fun _ => snd_bnQ G _ _ _
  | Attribute o n p => exact snd_bd' (snd_hold _ (H.E env _)) fun ov => snd_bd' (snd_stand _) fun _ => rel _ _ (snd_hold _ (snd_leaf G _))
  | Subscript o i p => exact snd_bd' (snd_hold _ (H.E env _)) fun ov => snd_bd' (snd_hold _ (H.E env _)) fun iv => snd_bd' (snd_stand _) fun _ => rel _ _ (snd_hold _ (snd_leaf G _))
  | Tuple elts k pos =>
    show Snd (model pg w) F A c₀ _ (tTup F.al ⟨pg, w.params⟩ go A c₀ f env v elts pos)
    unfold tTup
    cases h : elts.all notStar with
    | false => exact snd_no _ _
    | true =>
      have h1 : ∀ l : List PySem.Expr, l.all notStar = true → (assignEach l env).length = l.length ∧ (assignEach l env).findIdx? (·.1) = none := by
        intro l
        induction l with
        | nil => intro _; exact ⟨rfl, rfl⟩
        | cons e rest ih =>
          intro ha
          rw [List.all_cons, Bool.and_eq_true] at ha
          rw [assignEach_cons _ _ _ ha.1]
          obtain ⟨i1, i2⟩ := ih ha.2
          refine ⟨by rw [List.length_cons, List.length_cons, i1], ?_⟩
          rw [List.findIdx?_cons]
          simp [i2]
      refine snd_bd' (snd_stand _) fun _ => ?_
      show Snd (model pg w) F A c₀ (unpack v (assignEach elts env)) _
      unfold unpack
      rw [(h1 elts h).1, (h1 elts h).2]
      exact snd_bd' (snd_hold _ (snd_unpackR G _ _)) fun xs => snd_asg H env elts xs h
  | _ => exact snd_leaf G _
theorem snd_stepSV (G : Sound (model pg w) F go) (H : FnOk (model pg w) F A c₀ f) (env : Env) (s : Stmt) : Snd (model pg w) F A c₀ (exec s env) (stepSV F.al ⟨pg, w.params⟩ go A c₀ f env s) := by
  have hassign : ∀ t value pos, Snd (model pg w) F A c₀ (exec (.Assign [t] value pos) env) (sAssign F.al ⟨pg, w.params⟩ go A c₀ f env t value pos) := by
    intro t value pos
    refine snd_bd' (snd_stand _) fun _ => snd_bd' (snd_swQ G _ _ _ _) fun b => ?_
    cases b with
    | true => exact snd_swapS G H env t value
    | false =>
      refine snd_bd' (H.E env _) fun v => snd_bd' (snd_ssQ G _ _ _) fun sw => ?_
      cases sw with
      | some names => exact snd_skip (snd_rule _) (snd_bd' (snd_unpackR G _ _) fun items => snd_bd' (snd_bindAllR G _ _ _) fun _ => snd_pure' _)
      | none =>
        show Snd (model pg w) F A c₀ _ (sStore f env t v)
        unfold sStore
        cases h : notStar t with
        | true =>
          rw [assignEach_cons t [] env h]
          exact snd_bd' (H.As env t v) fun _ => snd_pure' _
        | false => exact snd_no _ _
  have haug : ∀ id npos op value pos, Snd (model pg w) F A c₀ (exec (.AugAssign (.Name id npos) op value pos) env) (sAugN F.al ⟨pg, w.params⟩ go A c₀ f env id npos op value pos) := by
    intro id npos op value pos
    exact snd_bd' (snd_stand _) fun _ => snd_bd' (snd_lnQ G _ _) fun old => snd_bd' (snd_hold _ (H.E env _)) fun v => snd_bd' (snd_stand _) fun _ => snd_map (h := fun r => r) (snd_operate (snd_inpR G _ _ _)) fun r => snd_bd' (snd_stand _) fun _ => snd_bd' (snd_bnQ G _ _ _) fun _ => snd_pure' _
  have haugA : ∀ o n tpos op value pos, Snd (model pg w) F A c₀ (exec (.AugAssign (.Attribute o n tpos) op value pos) env) (sAugA F.al ⟨pg, w.params⟩ go A c₀ f env o n tpos op value pos) := by
    intro o n tpos op value pos
    refine snd_bd' (snd_stand _) fun _ => snd_bd' (H.E env _) fun ov => snd_bd' (snd_hold _ ?_) fun r => ?_
    · exact snd_bd' (snd_stand _) fun _ => snd_bd' (snd_leaf G _) fun old => snd_bd' (snd_hold _ (H.E env _)) fun v => snd_bd' (snd_stand _) fun _ => snd_operate (snd_inpR G _ _ _)
    · refine snd_bd' (snd_stand _) fun _ => snd_bd' (snd_hold _ (snd_leaf G _)) fun _ => ?_
      exact snd_bd' (x := pu ()) (g := fun _ => pu Flow.next) (snd_release _ _) fun _ => snd_pure' Flow.next
  have hret : ∀ value pos, Snd (model pg w) F A c₀ (exec (.Return value pos) env) (sRet f env value pos) := by
    intro value pos
    refine snd_bd' (snd_stand _) fun _ => ?_
    cases value with
    | none => exact snd_pure' _
    | some e => exact snd_bd' (H.E env e) fun v => snd_pure' _
  have hexpr : ∀ value pos, Snd (model pg w) F A c₀ (exec (.Expr value pos) env) (sExpr F.al ⟨pg, w.params⟩ go A c₀ f env value pos) := by
    intro value pos
    refine snd_bd' (snd_stand _) fun _ => ?_
    cases h : interactive env with
    | true => exact snd_no _ _
    | false =>
      refine snd_bd' (snd_swN G _ _ _) fun b => ?_
      cases b with
      | true => exact snd_no _ _
      | false => exact snd_bd' (H.E env _) fun v => snd_dvQ G _ _ _
  cases s with
  | Expr value pos => exact hexpr value pos
  | Assign ts value pos =>
    cases ts with
    | nil => exact snd_leaf G _
    | cons t ts =>
      cases ts with
      | nil => exact hassign t value pos
      | cons _ _ => exact snd_leaf G _
  | AugAssign t op value pos =>
    cases t with
    | Name id npos => exact haug id npos op value pos
    | Attribute o n tpos => exact haugA o n tpos op value pos
    | _ => exact snd_leaf G _
  | For target iter body orelse pos => exact snd_bd' (snd_stand _) fun _ => snd_bd' (H.E env _) fun x => snd_bd' (snd_fsQ G _ _ _) fun x => snd_bd' (snd_stand _) fun _ => snd_bd' (snd_hold _ (snd_pyIterR G _)) fun it => snd_leaf G _
  | Return value pos => exact hret value pos
  | If test body orelse pos => exact snd_bd' (snd_stand _) fun _ => snd_bd' (H.B env _) fun t => by cases t <;> exact snd_ss H env _
  | _ => exact snd_leaf G _
theorem fns_ok (G : Sound (model pg w) F go) : ∀ n, FnOk (model pg w) F A c₀ (fns F.al ⟨pg, w.params⟩ go A c₀ n)
  | 0 => ⟨fun _ _ => snd_no _ _, fun _ _ => snd_no _ _, fun _ _ => snd_no _ _, fun _ _ _ => snd_no _ _⟩
  | n + 1 => ⟨snd_stepEV G (fns_ok G n), snd_stepBV G (fns_ok G n), snd_stepSV G (fns_ok G n), snd_stepAsV G (fns_ok G n)⟩
end
end Mine
open PySem PySem.W PySem.Spec PySem.Calls PyProof.Rows
set_option Elab.async false
namespace Mine
set_option genInjectivity false
set_option genSizeOf false
set_option maxHeartbeats 0
set_option linter.unusedVariables false

noncomputable def SoundAt (M : Model) (F : Frame) (A : Ar) (c : Code) (run : Run) : Prop :=
  ∀ p T m b i r T' m' b' i', run p T m b i = .ok r T' m' b' i' → ∀ q s, PosOk p q → Rep F s T m b i → ∀ R : Result → Shared → Prop, (∀ s', Rep F s' T' m' b' i' → R r s') →
    ∀ Γ : PySem.Ctx, Γ.code = c → Γ.handled = A.handled → StOk A.st Γ.below → wpCode M Γ R q s
theorem sound_iff {M : Model} {F : Frame} {go : Ar → Code → Run} : Sound M F go ↔ ∀ A c, SoundAt M F A c (go A c) := Iff.rfl

/-- what a flow gives back -/
noncomputable def backOf : Flow → Value
  | .ret v => v
  | _ => .none
noncomputable def keepsOn : Flow → Code → PySem.Fin
  | .next, c => .again c
  | .cont, c => .again c
  | .brk, _ => .done .next
  | .ret v, _ => .done (.ret v)

noncomputable def finR (go : Ar → Code → Run) (A : Ar) (x : R PySem.Fin) : Run := fun p T m b i =>
  Ans.rec (motive := fun _ => Out) (fun fin p T m b i => PySem.Fin.rec (motive := fun _ => Out) (fun f => .ok (.ok f) T m b i) (fun c => Bool.rec (motive := fun _ => Out) (.stuck 20) (go A c p T m b i) c.quiet) fin)
    (fun e _ T m b i => .ok (.error e) T m b i) (fun n => .stuck n) (x p T m b i)

section
variable (al : Nat → Bool) (set : Setting) (go : Ar → Code → Run) (A : Ar) (c₀ : Code)
noncomputable def ifsR (f : Fn) (env : Env) : List PySem.Expr → Bool → R Bool :=
  List.rec (fun ok => pu ok) (fun c _ ih ok => Bool.rec (motive := fun _ => R Bool) (ih false) (bd (f.B env c) fun r => ih r) ok)
noncomputable def emitR (go : Ar → Code → Run) (A : Ar) (c₀ : Code) (f : Fn) (env : Env) (elt : PySem.Expr) (acc : Value) : R Unit :=
  bd (f.E env elt) fun v => bd (leaf al set go A c₀ (call (.builtin "list.append") [acc, v])) fun _ => pu ()
end

section
variable {pg : Program} {w : World} {F : Frame} {go : Ar → Code → Run} {A : Ar} {c₀ : Code} {f : Fn}
theorem snd_ifsR (H : FnOk (model pg w) F A c₀ f) (env : Env) : ∀ (l : List PySem.Expr) (ok : Bool), Snd (model pg w) F A c₀ (forIn l ok (fun c (r : Bool) => if r = true then isTrue c env (eval c env) >>= fun x => pure (ForInStep.yield x) else pure (ForInStep.yield r))) (ifsR f env l ok)
  | [], ok => snd_pure' _
  | c :: l, ok => by
    rw [List.forIn_cons]
    cases ok with
    | false => exact snd_pureB _ (snd_ifsR H env l false)
    | true => exact snd_assoc (snd_bd' (H.B env c) fun r => snd_pureB _ (snd_ifsR H env l r))
theorem entry_update_loop : entryFor table "dict.update.loop" = some Builtin.«dict.update.loop» := entryFor_of_tree (by kernel_rfl)
end
/-! the same, by pieces that are small to open -/
noncomputable def isSpecialId (id : String) : Bool := id == "dict.__getitem__" || (id == "dict.get" || (id == "dict.__contains__" || (id == "dict.__setitem__" || (id == "dict.update.loop" || (id == "tuple.index" || (id == "any" || (id == "enumerate.__new__" || (id == "dict.__init__" || (id == "max" || (id == "min" || (id == "max.loop" || (id == "min.loop" || id == "bytes.__new__"))))))))))))
section
variable (al : Nat → Bool) (set : Setting) (go : Ar → Code → Run) (A : Ar) (c₀ : Code)
noncomputable def cBack (fl : Flow) : R PySem.Fin := pu (.done (.ret (backOf fl)))
noncomputable def cRet (v : Value) : R PySem.Fin := pu (.done (.ret v))
noncomputable def cDone (fl : Flow) : R PySem.Fin := pu (.done fl)
noncomputable def cKeep (c : Code) (fl : Flow) : R PySem.Fin := pu (keepsOn fl c)
noncomputable def cDen : R PySem.Fin := leaf al set go A c₀ (denote treeTable c₀)
noncomputable def cFunc (f : Fn) (body : List Stmt) (env : Env) : R PySem.Fin := bd (calm (ss f env body)) cBack
noncomputable def cExpr (f : Fn) (e : PySem.Expr) (env : Env) : R PySem.Fin := bd (calm (f.E env e)) cRet
noncomputable def cBlock (f : Fn) (body : List Stmt) (env : Env) : R PySem.Fin := bd (calm (ss f env body)) cDone
noncomputable def cBody (f : Fn) (body : List Stmt) (env : Env) : R PySem.Fin := bd (leaf al set go A c₀ (blockStart body env)) fun _ => bd (calm (ss f env body)) cDone
noncomputable def cWhile (f : Fn) (test : PySem.Expr) (body orelse : List Stmt) (env : Env) : R PySem.Fin :=
  calm (bd (f.B env test) fun t => Bool.rec (motive := fun _ => R PySem.Fin) (bd (ss f env orelse) cDone) (bd (ss f env body) (cKeep (.whileLoop test body orelse env))) t)
noncomputable def cForT (f : Fn) (target : PySem.Expr) (it : Value) (body orelse : List Stmt) (env : Env) (v : Value) : R PySem.Fin := bd (loQ al set go A c₀ target it v) fun _ => bd (f.As env target v) fun _ => bd (ss f env body) (cKeep (.forLoop target it body orelse env))
noncomputable def cFor (f : Fn) (target : PySem.Expr) (it : Value) (body orelse : List Stmt) (env : Env) : R PySem.Fin :=
  calm (bd (stand target.pos) fun _ => bd (calm (leaf al set go A c₀ (pyNext it))) fun nx => Option.rec (motive := fun _ => R PySem.Fin) (pu (.again (.block orelse env))) (cForT al set go A c₀ f target it body orelse env) nx)
noncomputable def cStart (e : PySem.Expr) (depth : Nat) (it acc : Value) (env : Env) : R PySem.Fin := calm (compStartR e depth it acc env)
noncomputable def cAgain (e : PySem.Expr) (depth : Nat) (it acc : Value) (env : Env) : R PySem.Fin := pu (.again (.compLoop e depth it acc env))
noncomputable def cTurn (f : Fn) (e elt : PySem.Expr) (g : Comprehension) (depth : Nat) (it acc : Value) (env : Env) (v : Value) : R PySem.Fin :=
  bd (loQ al set go A c₀ g.target it v) fun _ => bd (f.As env g.target v) fun _ => bd (ifsR f env g.ifs true) fun ok =>
        Bool.rec (motive := fun _ => R PySem.Fin) (cAgain e depth it acc env) (bd (emitR al set go A c₀ f env elt acc) fun _ => cAgain e depth it acc env) ok
noncomputable def cGo (f : Fn) (e elt : PySem.Expr) (g : Comprehension) (more : Bool) (depth : Nat) (it acc : Value) (env : Env) : R PySem.Fin :=
  Bool.rec (motive := fun _ => R PySem.Fin) (Bool.rec (motive := fun _ => R PySem.Fin) (bd (stand g.iter.pos) fun _ => bd (leaf al set go A c₀ (pyNext it)) fun nx => Option.rec (motive := fun _ => R PySem.Fin) (pu (.done .next))
      (cTurn al set go A c₀ f e elt g depth it acc env) nx) (no 85) (g.is_async != 0)) (no 86) more
noncomputable def compParts : PySem.Expr → Option (PySem.Expr × List Comprehension)
  | .ListComp elt gens _ _ => some (elt, gens)
  | _ => none
noncomputable def cComp (f : Fn) (e : PySem.Expr) (depth : Nat) (it acc : Value) (env : Env) : R PySem.Fin :=
  calm (Option.rec (motive := fun _ => R PySem.Fin) (leaf al set go A c₀ (compTurn e depth it acc env)) (fun x => Option.rec (motive := fun _ => R PySem.Fin) (no 87) (fun g => cGo al set go A c₀ f e x.1 g (x.2[depth + 1]?).isSome depth it acc env) x.2[depth]?) (compParts e))
noncomputable def cSpec (id : String) (args : Args) : R PySem.Fin :=
    bif id == "dict.__getitem__" then dGetItemR al set go A c₀ args else bif id == "dict.get" then dGetR al set go A c₀ args else bif id == "dict.__contains__" then dContainsR al set go A c₀ args
    else bif id == "dict.__setitem__" then dSetItemR al set go A c₀ args else bif id == "dict.update.loop" then dUpdateR al set go A c₀ args else bif id == "tuple.index" then tIndexR al set go A c₀ args
    else bif id == "any" then anyR al set go A c₀ args else bif id == "enumerate.__new__" then enumR al set go A c₀ args
    else bif id == "dict.__init__" then onList args (dInitR al set go A c₀ args) (leaf al set go A c₀ (denote treeTable (.builtin id args)))
    else bif id == "max" then minMaxR al set go A c₀ "max" "max.loop" args else bif id == "min" then minMaxR al set go A c₀ "min" "min.loop" args
    else bif id == "max.loop" then minMaxLoopR al set go A c₀ "max.loop" .Gt args else bif id == "min.loop" then minMaxLoopR al set go A c₀ "min.loop" .Lt args
    else bif id == "bytes.__new__" then onList args (bytesNewR al set go A c₀ args) (leaf al set go A c₀ (denote treeTable (.builtin id args)))
    else leaf al set go A c₀ (denote treeTable (.builtin id args))
noncomputable def cBlt (id : String) (args : Args) : R PySem.Fin := Bool.rec (motive := fun _ => R PySem.Fin) (cDen al set go A c₀) (cSpec al set go A c₀ id args) (isSpecialId id)
noncomputable def codeV (f : Fn) : R PySem.Fin :=
  Code.rec (motive := fun _ => R PySem.Fin) (fun _ _ => cDen al set go A c₀) (cBlt al set go A c₀) (cBody al set go A c₀ f) (cBlock f) (fun _ _ _ => cDen al set go A c₀) (fun _ _ _ _ _ => cDen al set go A c₀) (cFunc f) (cExpr f) (cWhile f) (cFor al set go A c₀ f)
    (fun _ _ _ _ _ => cDen al set go A c₀) cStart (cComp al set go A c₀ f) c₀
end
section
variable {pg : Program} {w : World} {F : Frame} {go : Ar → Code → Run} {A : Ar} {c₀ : Code} {f : Fn}
theorem snd_cSpec (G : Sound (model pg w) F go) (id : String) (args : Args) : Snd (model pg w) F A (.builtin id args) (denote table (.builtin id args)) (cSpec F.al ⟨pg, w.params⟩ go A (.builtin id args) id args) := by
    unfold cSpec
    have hent : ∀ (x : String) (B : Builtin), entryFor table x = some B → denote table (.builtin x args) = B args := by
      intro x B h
      show (match entryFor table x with | some b => b args | none => _) = _
      rw [h]
    have pick : ∀ (x : String) (B : Builtin) (r r' : R PySem.Fin), entryFor table x = some B → Snd (model pg w) F A (.builtin id args) (B args) r → (Snd (model pg w) F A (.builtin id args) (denote table (.builtin id args)) r') →
        Snd (model pg w) F A (.builtin id args) (denote table (.builtin id args)) (bif id == x then r else r') := by
      intro x B r r' h h1 h2
      cases hx : (id == x) with
      | false => exact h2
      | true =>
        have := eq_of_beq hx
        subst this
        rw [hent _ _ h]
        exact h1
    refine pick _ _ _ _ PySem.F.entry_dict_getitem (snd_dGetItemR G args) (pick _ _ _ _ PySem.F.entry_dict_get (snd_dGetR G args) (pick _ _ _ _ PySem.F.entry_dict_contains (snd_dContainsR G args)
      (pick _ _ _ _ PySem.F.entry_dict_setitem (snd_dSetItemR G args) (pick _ _ _ _ entry_update_loop (snd_dUpdateR G args) (pick _ _ _ _ PySem.F.entry_tuple_index (snd_tIndexR G args) ?_)))))
    have hl : Snd (model pg w) F A (.builtin id args) (denote table (.builtin id args)) (leaf F.al ⟨pg, w.params⟩ go A (.builtin id args) (denote treeTable (.builtin id args))) := by rw [table_eq_tree]; exact snd_leaf G _
    have tie : ∀ (x : String) (B : Builtin) (r : R PySem.Fin), entryFor table x = some B → (id == x) = true → Snd (model pg w) F A (.builtin id args) (B args) r → Snd (model pg w) F A (.builtin id args) (denote table (.builtin id args)) r := by
      intro x B r h hx h1
      have := eq_of_beq hx
      subst this
      rw [hent _ _ h]
      exact h1
    have pick2 : ∀ (x : String) (B : Builtin) (r r' : R PySem.Fin), entryFor table x = some B → Snd (model pg w) F A (.builtin id args) (B args) r → (Snd (model pg w) F A (.builtin id args) (denote table (.builtin id args)) r') →
        Snd (model pg w) F A (.builtin id args) (denote table (.builtin id args)) (bif id == x then onList args r (leaf F.al ⟨pg, w.params⟩ go A (.builtin id args) (denote treeTable (.builtin id args))) else r') := by
      intro x B r r' h h1 h2
      cases hx : (id == x) with
      | false => exact h2
      | true => exact snd_onList (tie _ _ _ h hx h1) hl
    exact pick _ _ _ _ PySem.F.entry_any (snd_anyR G args) (pick _ _ _ _ PySem.F.entry_enumerate_new (snd_enumR G args) (pick2 _ _ _ _ PySem.F.entry_dict_init (snd_dInitR G args) (pick _ _ _ _ PySem.F.entry_max (snd_maxR G args) (pick _ _ _ _ PySem.F.entry_min (snd_minR G args)
      (pick _ _ _ _ PySem.F.entry_max_loop (snd_maxLoopR G args) (pick _ _ _ _ PySem.F.entry_min_loop (snd_minLoopR G args) (pick2 _ _ _ _ entry_bytes_new (snd_bytesNewR G args) hl)))))))
theorem snd_cTurn (G : Sound (model pg w) F go) (H : FnOk (model pg w) F A c₀ f) (e : PySem.Expr) (depth : Nat) (it acc : Value) (env : Env) :
    Snd (model pg w) F A c₀ (compTurn e depth it acc env) (Option.rec (motive := fun _ => R PySem.Fin) (leaf F.al ⟨pg, w.params⟩ go A c₀ (compTurn e depth it acc env)) (fun x => Option.rec (motive := fun _ => R PySem.Fin) (no 87) (fun g => cGo F.al ⟨pg, w.params⟩ go A c₀ f e x.1 g (x.2[depth + 1]?).isSome depth it acc env) x.2[depth]?) (compParts e)) := by
  cases e with
  | ListComp elt gens scope pos =>
    show Snd (model pg w) F A c₀ _ (Option.rec (motive := fun _ => R PySem.Fin) (no 87) (fun g => cGo F.al ⟨pg, w.params⟩ go A c₀ f (.ListComp elt gens scope pos) elt g (gens[depth + 1]?).isSome depth it acc env) gens[depth]?)
    unfold compTurn
    dsimp only
    cases hg : gens[depth]? with
    | none => exact snd_no _ _
    | some g =>
      dsimp only
      unfold cGo
      cases hm : gens[depth + 1]? with
      | some g' => exact snd_no _ _
      | none =>
        cases ha : (g.is_async != 0) with
        | true => exact snd_no _ _
        | false =>
          refine snd_bd' (snd_stand _) fun _ => snd_bd' (snd_leaf G _) fun nx => ?_
          cases nx with
          | none => exact snd_pure' _
          | some v =>
            show Snd (model pg w) F A c₀ _ (cTurn F.al ⟨pg, w.params⟩ go A c₀ f (.ListComp elt gens scope pos) elt g depth it acc env v)
            unfold cTurn
            refine snd_bd' (snd_loQ G _ _ _) fun _ => snd_bd' (H.As env g.target v) fun _ => snd_bd' (snd_ifsR H env g.ifs true) fun ok => ?_
            cases ok with
            | false => exact snd_pure' _
            | true => exact snd_bd' (snd_bd' (H.E env elt) fun v => snd_bd' (snd_leaf G _) fun _ => snd_pure' _) fun _ => snd_pure' _
  | _ => exact snd_leaf G _
theorem snd_codeV (G : Sound (model pg w) F go) (H : FnOk (model pg w) F A c₀ f) : Snd (model pg w) F A c₀ (denote table c₀) (codeV F.al ⟨pg, w.params⟩ go A c₀ f) := by
  have hd : Snd (model pg w) F A c₀ (denote table c₀) (cDen F.al ⟨pg, w.params⟩ go A c₀) := by
    unfold cDen
    rw [table_eq_tree]
    exact snd_leaf G _
  have ht : ∀ (fl : Flow) (c : Code), Snd (model pg w) F A c₀ (match fl with | .next | .cont => again c | .brk => pure (.done .next) | .ret v => pure (.done (.ret v))) (cKeep c fl) := by
    intro fl c
    cases fl <;> exact snd_pure' _
  cases c₀ with
  | call _ _ => exact hd
  | handlers _ _ _ => exact hd
  | starHandlers _ _ _ _ _ => exact hd
  | asyncForLoop _ _ _ _ _ => exact hd
  | builtin id args =>
    show Snd (model pg w) F A _ _ (cBlt F.al ⟨pg, w.params⟩ go A _ id args)
    unfold cBlt
    cases isSpecialId id with
    | false => exact hd
    | true => exact snd_cSpec G id args
  | func body env =>
    show Snd (model pg w) F A _ _ (cFunc f body env)
    refine snd_skip snd_point (snd_bd' (snd_calm _ (snd_ss H env body)) fun fl => ?_)
    cases fl <;> exact snd_pure' _
  | expr e env =>
    show Snd (model pg w) F A _ _ (cExpr f e env)
    exact snd_skip snd_point (snd_bd' (snd_calm _ (H.E env e)) fun v => snd_pure' _)
  | block body env =>
    show Snd (model pg w) F A _ _ (cBlock f body env)
    exact snd_bd' (snd_calm _ (snd_ss H env body)) fun fl => snd_pure' _
  | body body env =>
    show Snd (model pg w) F A _ _ (cBody F.al ⟨pg, w.params⟩ go A _ f body env)
    exact snd_bd' (snd_leaf G _) fun _ => snd_bd' (snd_calm _ (snd_ss H env body)) fun fl => snd_pure' _
  | whileLoop test body orelse env =>
    show Snd (model pg w) F A _ _ (cWhile f test body orelse env)
    refine snd_calm _ (snd_bd' (H.B env test) fun t => ?_)
    cases t with
    | false => exact snd_bd' (snd_ss H env orelse) fun fl => snd_pure' _
    | true => exact snd_bd' (snd_ss H env body) fun fl => ht fl _
  | forLoop target it body orelse env =>
    show Snd (model pg w) F A _ _ (cFor F.al ⟨pg, w.params⟩ go A _ f target it body orelse env)
    refine snd_calm _ (snd_bd' (snd_stand _) fun _ => snd_bd' (snd_calm _ (snd_leaf G _)) fun nx => ?_)
    cases nx with
    | none => exact snd_pure' _
    | some v => exact snd_bd' (snd_loQ G _ _ _) fun _ => snd_bd' (H.As env target v) fun _ => snd_bd' (snd_ss H env body) fun fl => ht fl _
  | compStart e depth it acc env =>
    show Snd (model pg w) F A _ (if (Code.compStart e depth it acc env).isFrame = true then _ else _) (cStart e depth it acc env)
    cases (Code.compStart e depth it acc env).isFrame <;> exact snd_calm _ (snd_compStartR e depth it acc env)
  | compLoop e depth it acc env =>
    show Snd (model pg w) F A _ (if (Code.compLoop e depth it acc env).isFrame = true then _ else _) (cComp F.al ⟨pg, w.params⟩ go A _ f e depth it acc env)
    cases (Code.compLoop e depth it acc env).isFrame <;> exact snd_calm _ (snd_cTurn G H e depth it acc env)
end
section
variable {M : Model} {F : Frame} {go : Ar → Code → Run} {A : Ar} {c₀ : Code}
theorem soundAt_fin (G : Sound M F go) {x : R PySem.Fin} (hx : Snd M F A c₀ (M.den c₀) x) : SoundAt M F A c₀ (finR go A x) := by
  intro p T m b i r T' m' b' i' h q₀ s K D R hR Γ hc hh hb
  rw [wpCode_iff_wp, hc]
  refine hx p T m b i q₀ s K D Γ ⟨hc, hh, hb⟩ _ _ ?_
  unfold finR at h
  cases q : x p T m b i with
  | stuck n => rw [q] at h; cases h
  | err e p₁ T₁ m₁ b₁ i₁ =>
    rw [q] at h
    injection h with h1 h2 h3 h4 h5
    subst h1 h2 h3 h4 h5
    exact fun _ s' _ D' => hR s' D'
  | ok fin p₁ T₁ m₁ b₁ i₁ =>
    rw [q] at h
    cases fin with
    | done f =>
      injection h with h1 h2 h3 h4 h5
      subst h1 h2 h3 h4 h5
      exact fun _ s' _ D' => hR s' D'
    | again c =>
      dsimp only at h
      cases hq : c.quiet with
      | false => rw [hq] at h; cases h
      | true =>
        rw [hq] at h
        exact fun q' s' K' D' => ⟨hq, G _ _ _ _ _ _ _ _ _ _ _ _ h q' s' K' D' R hR (Γ.goto c) rfl hh hb⟩
end

noncomputable def evR (mac : (Ar → Code → Run) → Ar → Code → Run → Run) (al : Nat → Bool) (set : Setting) : Nat → Ar → Code → Run :=
  Nat.rec (motive := fun _ => Ar → Code → Run) (fun _ _ _ _ _ _ _ => .stuck 14) (fun _ go A c => mac go A c (finR go A (codeV al set go A c (fns al set go A c 10000))))
noncomputable def MacOk (M : Model) (F : Frame) (mac : (Ar → Code → Run) → Ar → Code → Run → Run) : Prop :=
  ∀ go A c d, Sound M F go → SoundAt M F A c d → SoundAt M F A c (mac go A c d)
noncomputable def mac1 (_ : Ar → Code → Run) (_ : Ar) (_ : Code) (d : Run) : Run := d
theorem mac1_ok (M : Model) (F : Frame) : MacOk M F mac1 := fun _ _ _ _ _ h => h
theorem evR_sound {pg : Program} {w : World} {F : Frame} {mac} (hm : MacOk (model pg w) F mac) : ∀ n, Sound (model pg w) F (evR mac F.al ⟨pg, w.params⟩ n)
  | 0 => fun _ _ _ _ _ _ _ _ _ _ _ _ h => by cases h
  | n + 1 => fun A c => hm _ A c _ (evR_sound hm n) (soundAt_fin (evR_sound hm n) (snd_codeV (evR_sound hm n) (fns_ok (evR_sound hm n) 10000)))
end Mine
open PySem PySem.W PySem.Spec PySem.Calls PyProof.Rows PySem.SeqAt
set_option Elab.async false
namespace Mine
set_option genInjectivity false
set_option genSizeOf false
set_option maxHeartbeats 1000000
set_option linter.unusedVariables false
set_option genInjectivity false
set_option genSizeOf false

/-! texts taken apart, a level at a time -/
noncomputable def one {α : Type} : List α → Option α
  | [x] => some x
  | _ => none
theorem one_ok {α : Type} {l : List α} {x : α} (h : one l = some x) : l = [x] := by
  cases l with
  | nil => cases h
  | cons a r => cases r with
    | nil => cases h; rfl
    | cons _ _ => cases h
noncomputable def nilU {α : Type} : List α → Option Unit
  | [] => some ()
  | _ => none
theorem nilU_ok {α : Type} {l : List α} {x : Unit} (h : nilU l = some x) : l = [] := by
  cases l with
  | nil => rfl
  | cons _ _ => cases h
noncomputable def noU {α : Type} : Option α → Option Unit
  | none => some ()
  | _ => none
theorem noU_ok {α : Type} {l : Option α} {x : Unit} (h : noU l = some x) : l = none := by
  cases l with
  | none => rfl
  | some _ => cases h
noncomputable def three {α : Type} : List α → Option (α × α × α)
  | [a, b, c] => some (a, b, c)
  | _ => none
theorem three_ok {α : Type} {l : List α} {x : α × α × α} (h : three l = some x) : l = [x.1, x.2.1, x.2.2] := by
  cases l with
  | nil => cases h
  | cons a l => cases l with
    | nil => cases h
    | cons b l => cases l with
      | nil => cases h
      | cons c l => cases l with
        | nil => cases h; rfl
        | cons _ _ => cases h
noncomputable def two {α : Type} : List α → Option (α × α)
  | [a, b] => some (a, b)
  | _ => none
theorem two_ok {α : Type} {l : List α} {x : α × α} (h : two l = some x) : l = [x.1, x.2] := by
  cases l with
  | nil => cases h
  | cons a l => cases l with
    | nil => cases h
    | cons b l => cases l with
      | nil => cases h; rfl
      | cons _ _ => cases h
theorem nope {α : Type} {x : α} {q : Prop} (h : (none : Option α) = some x) : q := by cases h
noncomputable def asIf : Stmt → Option (PySem.Expr × List Stmt × List Stmt × Pos)
  | .If t b o p => some (t, b, o, p)
  | _ => none
theorem asIf_ok {s : Stmt} {x} (h : asIf s = some x) : s = .If x.1 x.2.1 x.2.2.1 x.2.2.2 := by
  cases s with
  | If _ _ _ _ => cases h; rfl
  | _ => exact nope h
noncomputable def asRet : Stmt → Option (Option PySem.Expr × Pos)
  | .Return e p => some (e, p)
  | _ => none
theorem asRet_ok {s : Stmt} {x} (h : asRet s = some x) : s = .Return x.1 x.2 := by
  cases s with
  | Return _ _ => cases h; rfl
  | _ => exact nope h
noncomputable def asAssign : Stmt → Option (List PySem.Expr × PySem.Expr × Pos)
  | .Assign t v p => some (t, v, p)
  | _ => none
theorem asAssign_ok {s : Stmt} {x} (h : asAssign s = some x) : s = .Assign x.1 x.2.1 x.2.2 := by
  cases s with
  | Assign _ _ _ => cases h; rfl
  | _ => exact nope h
noncomputable def asCmp : PySem.Expr → Option (PySem.Expr × List CmpOp × List PySem.Expr × Pos)
  | .Compare l o e p => some (l, o, e, p)
  | _ => none
theorem asCmp_ok {e : PySem.Expr} {x} (h : asCmp e = some x) : e = .Compare x.1 x.2.1 x.2.2.1 x.2.2.2 := by
  cases e with
  | Compare _ _ _ _ => cases h; rfl
  | _ => exact nope h
noncomputable def asCall : PySem.Expr → Option (PySem.Expr × List PySem.Expr × List Keyword × Pos)
  | .Call f a k p => some (f, a, k, p)
  | _ => none
theorem asCall_ok {e : PySem.Expr} {x} (h : asCall e = some x) : e = .Call x.1 x.2.1 x.2.2.1 x.2.2.2 := by
  cases e with
  | Call _ _ _ _ => cases h; rfl
  | _ => exact nope h
noncomputable def asName : PySem.Expr → Option (Str × Pos)
  | .Name n p => some (n, p)
  | _ => none
theorem asName_ok {e : PySem.Expr} {x} (h : asName e = some x) : e = .Name x.1 x.2 := by
  cases e with
  | Name _ _ => cases h; rfl
  | _ => exact nope h
noncomputable def asBin : PySem.Expr → Option (PySem.Expr × Operator × PySem.Expr × Pos)
  | .BinOp l o r p => some (l, o, r, p)
  | _ => none
theorem asBin_ok {e : PySem.Expr} {x} (h : asBin e = some x) : e = .BinOp x.1 x.2.1 x.2.2.1 x.2.2.2 := by
  cases e with
  | BinOp _ _ _ _ => cases h; rfl
  | _ => exact nope h
noncomputable def asSub : PySem.Expr → Option (PySem.Expr × PySem.Expr × Pos)
  | .Subscript v s p => some (v, s, p)
  | _ => none
theorem asSub_ok {e : PySem.Expr} {x} (h : asSub e = some x) : e = .Subscript x.1 x.2.1 x.2.2 := by
  cases e with
  | Subscript _ _ _ => cases h; rfl
  | _ => exact nope h
noncomputable def asList : PySem.Expr → Option (List PySem.Expr × Pos)
  | .List l p => some (l, p)
  | _ => none
theorem asList_ok {e : PySem.Expr} {x} (h : asList e = some x) : e = .List x.1 x.2 := by
  cases e with
  | List _ _ => cases h; rfl
  | _ => exact nope h
noncomputable def asSlice : PySem.Expr → Option (Option PySem.Expr × Option PySem.Expr × Option PySem.Expr × Pos)
  | .Slice l u s p => some (l, u, s, p)
  | _ => none
theorem asSlice_ok {e : PySem.Expr} {x} (h : asSlice e = some x) : e = .Slice x.1 x.2.1 x.2.2.1 x.2.2.2 := by
  cases e with
  | Slice _ _ _ _ => cases h; rfl
  | _ => exact nope h
noncomputable def isLtE : CmpOp → Option Unit
  | .LtE => some ()
  | _ => none
theorem isLtE_ok {o : CmpOp} {x} (h : isLtE o = some x) : o = .LtE := by cases o <;> first | rfl | cases h
noncomputable def isMod : Operator → Option Unit
  | .Mod => some ()
  | _ => none
theorem isMod_ok {o : Operator} {x} (h : isMod o = some x) : o = .Mod := by cases o <;> first | rfl | cases h

structure TakeParts where
  s1 : Stmt
  cl : PySem.Expr
  nm : Str
  np : Pos
  lox : PySem.Expr
  lpos : Pos
  tpos : Pos
  nm2 : Str
  np2 : Pos
  ox : PySem.Expr
  l0 : PySem.Expr
  op : Operator
  r0 : PySem.Expr
  p2 : Pos
  spos : Pos
  cpos : Pos
  my : PySem.Expr
  bpos : Pos
  rp : Pos
  ip : Pos
  dd : PySem.Expr
  dp : Pos
noncomputable def viewTake (body : List Stmt) : Option TakeParts :=
  (three body).bind fun b => (asIf b.2.1).bind fun i => (nilU i.2.2.1).bind fun _ => (asCmp i.1).bind fun c => (one c.2.1).bind fun o => (isLtE o).bind fun _ => (one c.2.2.1).bind fun ce => (asCall ce).bind fun k => (asName k.1).bind fun n1 => (one k.2.1).bind fun lox => (nilU k.2.2.1).bind fun _ =>
  (one i.2.1).bind fun r1 => (asRet r1).bind fun rr => rr.1.bind fun re => (asBin re).bind fun bb => (isMod bb.2.1).bind fun _ => (asCall bb.1).bind fun k2 => (asName k2.1).bind fun n2 => (one k2.2.1).bind fun sb => (nilU k2.2.2.1).bind fun _ => (asSub sb).bind fun su => (asBin su.2.1).bind fun ix =>
  (asRet b.2.2).bind fun dd => dd.1.bind fun de =>
  some ⟨b.1, c.1, n1.1, n1.2, lox, k.2.2.2, c.2.2.2, n2.1, n2.2, su.1, ix.1, ix.2.1, ix.2.2.1, ix.2.2.2, su.2.2, k2.2.2.2, bb.2.2.1, bb.2.2.2, rr.2, i.2.2.2, de, dd.2⟩
theorem viewTake_ok {body : List Stmt} {x : TakeParts} (h : viewTake body = some x) : body = [x.s1, .If (.Compare x.cl [.LtE] [.Call (.Name x.nm x.np) [x.lox] [] x.lpos] x.tpos) [.Return (some (.BinOp (.Call (.Name x.nm2 x.np2) [.Subscript x.ox (.BinOp x.l0 x.op x.r0 x.p2) x.spos] [] x.cpos) .Mod x.my x.bpos)) x.rp] [] x.ip, .Return (some x.dd) x.dp] := by
  unfold viewTake at h
  obtain ⟨b, hb, h⟩ := Option.bind_eq_some_iff.mp h
  obtain ⟨i, hi, h⟩ := Option.bind_eq_some_iff.mp h
  obtain ⟨u1, hu1, h⟩ := Option.bind_eq_some_iff.mp h
  obtain ⟨c, hc, h⟩ := Option.bind_eq_some_iff.mp h
  obtain ⟨o, hop, h⟩ := Option.bind_eq_some_iff.mp h
  obtain ⟨u2, hu2, h⟩ := Option.bind_eq_some_iff.mp h
  obtain ⟨ce, hce, h⟩ := Option.bind_eq_some_iff.mp h
  obtain ⟨k, hk, h⟩ := Option.bind_eq_some_iff.mp h
  obtain ⟨n1, hn1, h⟩ := Option.bind_eq_some_iff.mp h
  obtain ⟨lox, hlox, h⟩ := Option.bind_eq_some_iff.mp h
  obtain ⟨u3, hu3, h⟩ := Option.bind_eq_some_iff.mp h
  obtain ⟨r1, hr1, h⟩ := Option.bind_eq_some_iff.mp h
  obtain ⟨rr, hrr, h⟩ := Option.bind_eq_some_iff.mp h
  obtain ⟨re, hre, h⟩ := Option.bind_eq_some_iff.mp h
  obtain ⟨bb, hbb, h⟩ := Option.bind_eq_some_iff.mp h
  obtain ⟨u4, hu4, h⟩ := Option.bind_eq_some_iff.mp h
  obtain ⟨k2, hk2, h⟩ := Option.bind_eq_some_iff.mp h
  obtain ⟨n2, hn2, h⟩ := Option.bind_eq_some_iff.mp h
  obtain ⟨sb, hsb, h⟩ := Option.bind_eq_some_iff.mp h
  obtain ⟨u5, hu5, h⟩ := Option.bind_eq_some_iff.mp h
  obtain ⟨su, hsu, h⟩ := Option.bind_eq_some_iff.mp h
  obtain ⟨ix, hix, h⟩ := Option.bind_eq_some_iff.mp h
  obtain ⟨dd, hdd, h⟩ := Option.bind_eq_some_iff.mp h
  obtain ⟨de, hde, h⟩ := Option.bind_eq_some_iff.mp h
  obtain rfl := Option.some.inj h
  have e1 : ce = .Call (.Name n1.1 n1.2) [lox] [] k.2.2.2 := by rw [asCall_ok hk, asName_ok hn1, one_ok hlox, nilU_ok hu3]
  have e2 : i.1 = .Compare c.1 [.LtE] [ce] c.2.2.2 := by rw [asCmp_ok hc, one_ok hop, isLtE_ok hu2, one_ok hce]
  have e3 : sb = .Subscript su.1 (.BinOp ix.1 ix.2.1 ix.2.2.1 ix.2.2.2) su.2.2 := by rw [asSub_ok hsu, asBin_ok hix]
  have e4 : bb.1 = .Call (.Name n2.1 n2.2) [sb] [] k2.2.2.2 := by rw [asCall_ok hk2, asName_ok hn2, one_ok hsb, nilU_ok hu5]
  have e5 : re = .BinOp bb.1 .Mod bb.2.2.1 bb.2.2.2 := by rw [asBin_ok hbb, isMod_ok hu4]
  have e6 : r1 = .Return (some re) rr.2 := by rw [asRet_ok hrr, hre]
  have e7 : b.2.1 = .If i.1 [r1] [] i.2.2.2 := by rw [asIf_ok hi, one_ok hr1, nilU_ok hu1]
  have e8 : b.2.2 = .Return (some de) dd.2 := by rw [asRet_ok hdd, hde]
  subst e1 e6 e3
  rw [three_ok hb, e7, e2, e5, e4, e8]
structure LawParts where
  bx : Str
  bp : Pos
  ln : Str
  lnp : Pos
  sn : Str
  snp : Pos
  up : PySem.Expr
  slp : Pos
  spos : Pos
  cpos : Pos
  c0 : PySem.Expr
  lpos : Pos
  apos : Pos
  rest : List Stmt
noncomputable def headOf : List Stmt → Option (Stmt × List Stmt)
  | a :: r => some (a, r)
  | [] => none
theorem headOf_ok {l : List Stmt} {x} (h : headOf l = some x) : l = x.1 :: x.2 := by
  cases l with
  | nil => cases h
  | cons a r => cases h; rfl
noncomputable def viewLaw (body : List Stmt) : Option LawParts :=
  (headOf body).bind fun b => (asAssign b.1).bind fun a => (one a.1).bind fun t => (asName t).bind fun n => (asList a.2.1).bind fun l => (two l.1).bind fun lc => (asCall lc.1).bind fun k => (asName k.1).bind fun kn => (one k.2.1).bind fun sb => (nilU k.2.2.1).bind fun _ =>
  (asSub sb).bind fun su => (asName su.1).bind fun sn => (asSlice su.2.1).bind fun sl => (noU sl.1).bind fun _ => sl.2.1.bind fun up => (noU sl.2.2.1).bind fun _ =>
  some ⟨n.1, n.2, kn.1, kn.2, sn.1, sn.2, up, sl.2.2.2, su.2.2, k.2.2.2, lc.2, l.2, a.2.2, b.2⟩
theorem viewLaw_ok {body : List Stmt} {x : LawParts} (h : viewLaw body = some x) : body = .Assign [.Name x.bx x.bp] (.List [.Call (.Name x.ln x.lnp) [.Subscript (.Name x.sn x.snp) (.Slice none (some x.up) none x.slp) x.spos] [] x.cpos, x.c0] x.lpos) x.apos :: x.rest := by
  unfold viewLaw at h
  obtain ⟨b, hb, h⟩ := Option.bind_eq_some_iff.mp h
  obtain ⟨a, ha, h⟩ := Option.bind_eq_some_iff.mp h
  obtain ⟨t, ht, h⟩ := Option.bind_eq_some_iff.mp h
  obtain ⟨n, hn, h⟩ := Option.bind_eq_some_iff.mp h
  obtain ⟨l, hl, h⟩ := Option.bind_eq_some_iff.mp h
  obtain ⟨lc, hlc, h⟩ := Option.bind_eq_some_iff.mp h
  obtain ⟨k, hk, h⟩ := Option.bind_eq_some_iff.mp h
  obtain ⟨kn, hkn, h⟩ := Option.bind_eq_some_iff.mp h
  obtain ⟨sb, hsb, h⟩ := Option.bind_eq_some_iff.mp h
  obtain ⟨u1, hu1, h⟩ := Option.bind_eq_some_iff.mp h
  obtain ⟨su, hsu, h⟩ := Option.bind_eq_some_iff.mp h
  obtain ⟨sn, hsn, h⟩ := Option.bind_eq_some_iff.mp h
  obtain ⟨sl, hsl, h⟩ := Option.bind_eq_some_iff.mp h
  obtain ⟨u2, hu2, h⟩ := Option.bind_eq_some_iff.mp h
  obtain ⟨up, hup, h⟩ := Option.bind_eq_some_iff.mp h
  obtain ⟨u3, hu3, h⟩ := Option.bind_eq_some_iff.mp h
  obtain rfl := Option.some.inj h
  have e1 : lc.1 = .Call (.Name kn.1 kn.2) [sb] [] k.2.2.2 := by rw [asCall_ok hk, asName_ok hkn, one_ok hsb, nilU_ok hu1]
  have e2 : su.2.1 = .Slice none (some up) none sl.2.2.2 := by rw [asSlice_ok hsl, noU_ok hu2, hup, noU_ok hu3]
  have e3 : sb = .Subscript (.Name sn.1 sn.2) su.2.1 su.2.2 := by rw [asSub_ok hsu, asName_ok hsn]
  have e4 : a.2.1 = .List [lc.1, lc.2] l.2 := by rw [asList_ok hl, two_ok hlc]
  have e5 : b.1 = .Assign [.Name n.1 n.2] a.2.1 a.2.2 := by rw [asAssign_ok ha, one_ok ht, asName_ok hn]
  rw [headOf_ok hb, e5, e4, e1, e3, e2]
structure HookParts where
  nm : Str
  np : Pos
  args : List PySem.Expr
  cpos : Pos
  op : CmpOp
  kx : PySem.Expr
  pos : Pos
noncomputable def viewHook (e : PySem.Expr) : Option HookParts :=
  (asCmp e).bind fun c => (asCall c.1).bind fun k => (asName k.1).bind fun n => (nilU k.2.2.1).bind fun _ => (one c.2.1).bind fun op => (one c.2.2.1).bind fun kx => some ⟨n.1, n.2, k.2.1, k.2.2.2, op, kx, c.2.2.2⟩
theorem viewHook_ok {e : PySem.Expr} {x : HookParts} (h : viewHook e = some x) : e = .Compare (.Call (.Name x.nm x.np) x.args [] x.cpos) [x.op] [x.kx] x.pos := by
  unfold viewHook at h
  obtain ⟨c, hc, h⟩ := Option.bind_eq_some_iff.mp h
  obtain ⟨k, hk, h⟩ := Option.bind_eq_some_iff.mp h
  obtain ⟨n, hn, h⟩ := Option.bind_eq_some_iff.mp h
  obtain ⟨u1, hu1, h⟩ := Option.bind_eq_some_iff.mp h
  obtain ⟨op, hop, h⟩ := Option.bind_eq_some_iff.mp h
  obtain ⟨kx, hkx, h⟩ := Option.bind_eq_some_iff.mp h
  obtain rfl := Option.some.inj h
  rw [asCmp_ok hc, asCall_ok hk, asName_ok hn, nilU_ok hu1, one_ok hop, one_ok hkx]
end Mine
open PySem PySem.W PySem.Spec PySem.Calls PyProof.Rows PySem.SeqAt
set_option Elab.async false
namespace Mine
set_option genInjectivity false
set_option genSizeOf false
set_option maxHeartbeats 1000000
set_option linter.unusedVariables false

/-! what is known of a list that no tree of objects tells -/
structure Pin where
  L : Nat
  k : Nat
  X : Nat → Int
  tk : Nat → Nat
  res : Nat → Int
  dfl : Nat → Int
  ins : Nat → Bool
  neg : Nat → Bool
  op : Nat → CmpOp
  y : Nat → Int
  bit : Nat → Bool
noncomputable def absI (x : Int) : Int := if x < 0 then -x else x
structure PinOk (F : Frame) (P : Pin) : Prop where
  al : F.al P.L = false
  obj : ∃ xs : Array Value, xs.size = P.k ∧ F.h₀.IsList P.L xs ∧ ∀ j, j < P.k → xs[j]? = some (.int (P.X j) (P.tk j))
  fit : (P.k : Int) < 2 ^ 63
  ins : ∀ j, P.ins j = decide (j < P.k)
  neg : ∀ j, P.neg j = decide (P.X j < 0)
  res : ∀ j, j < P.k → j < 4 → (absI (P.X j)).fmod 4 = P.res j
  dfl : ∀ j, ¬ j < P.k → j < 4 → P.dfl j = P.res j
  bit : ∀ j, j < 3 → cmpI (P.op j) (P.res j) (P.y j) = some (P.bit j)
theorem PinOk.list {F : Frame} {P : Pin} (H : PinOk F P) {s : Shared} {T : OT} {m b i : Nat} (D : Rep F s T m b i) : ∃ xs : Array Value, xs.size = P.k ∧ s.heap.IsList P.L xs ∧ ∀ j, j < P.k → xs[j]? = some (.int (P.X j) (P.tk j)) := by
  obtain ⟨xs, h1, ⟨o, ho, h2⟩, h3⟩ := H.obj
  exact ⟨xs, h1, ⟨o, D.keep _ _ H.al ho, h2⟩, h3⟩

/-! on the side: no object is changed -/
noncomputable def offF (s : Shared) : Frame := ⟨fun _ => false, s.heap, s.gens, s.drawn, s.os⟩
theorem Rep.off {F : Frame} {s : Shared} {T : OT} {m b i : Nat} (D : Rep F s T m b i) : Rep (offF s) s T m b i :=
  ⟨D.size, D.get, D.toks, fun _ _ _ h => h, fun a o h => ⟨o, h⟩, Nat.le_of_eq D.size, rfl, rfl, rfl, rfl⟩
theorem Rep.on {F : Frame} {s s' : Shared} {T T' : OT} {m b i b' i' : Nat} (D : Rep F s T m b i) (D' : Rep (offF s) s' T' m b' i') : Rep F s' T m b' i' :=
  ⟨D'.size, fun a o h => D'.keep a o rfl (D.get a o h), D'.toks, fun a o h1 h2 => D'.keep a o rfl (D.keep a o h1 h2), fun a o h => let ⟨o', h'⟩ := D.there a o h; ⟨o', D'.keep a o' rfl h'⟩, D.low,
    D'.life.trans D.life, D'.gens.trans D.gens, D'.drawn.trans D.drawn, D'.os.trans D.os⟩
theorem Rep.rebase {F : Frame} {s : Shared} {T : OT} {m b i b' i' : Nat} (D : Rep F s T m b i) (h : b + i = b' + i') : Rep F s T m b' i' :=
  ⟨D.size, D.get, D.toks.trans h, D.keep, D.there, D.low, D.life, D.gens, D.drawn, D.os⟩
theorem PinOk.off {F : Frame} {P : Pin} (H : PinOk F P) {s : Shared} {T : OT} {m b i : Nat} (D : Rep F s T m b i) : PinOk (offF s) P :=
  ⟨rfl, H.list D, H.fit, H.ins, H.neg, H.res, H.dfl, H.bit⟩

/-- the one promises what the other does -/
noncomputable def Le {α : Type} (x y : R α) : Prop := ∀ (F : Frame) (Q : α → Pos → Shared → Prop) (E : Value → Pos → Shared → Prop) p T m b i, Pays F Q E (x p T m b i) → Pays F Q E (y p T m b i)
theorem Le.refl {α : Type} (x : R α) : Le x x := fun _ _ _ _ _ _ _ _ h => h
theorem Le.bd {α β : Type} (x : R α) {f g : α → R β} (h : ∀ a, Le (f a) (g a)) : Le (bd x f) (bd x g) := by
  intro F Q E p T m b i hp
  unfold Mine.bd at hp ⊢
  cases z : x p T m b i with
  | ok a p' T' m' b' i' => rw [z] at hp; exact h a F Q E p' T' m' b' i' hp
  | err e p' T' m' b' i' => rw [z] at hp; exact hp
  | stuck n => rw [z] at hp; exact hp
theorem bd_assoc {α β γ : Type} (x : R α) (f : α → R β) (g : β → R γ) : bd (bd x f) g = bd x fun a => bd (f a) g := by
  funext p T m b i
  unfold bd
  cases x p T m b i <;> rfl
theorem bd_pu {α β : Type} (a : α) (g : α → R β) : bd (pu a) g = g a := rfl
theorem snd_le {α : Type} {M : Model} {F : Frame} {A : Ar} {c₀ : Code} {t : Sem α} {x y : R α} (h : Snd M F A c₀ t y) (l : Le x y) : Snd M F A c₀ t x :=
  fun p T m b i q s K D Γ hΓ Q E hp => h p T m b i q s K D Γ hΓ Q E (l F Q E p T m b i hp)
theorem le_no {α : Type} (n : Nat) (x : R α) : Le (no n) x := fun _ _ _ _ _ _ _ _ h => h.elim

/-- a value, the tokens d ahead -/
noncomputable def det {α : Type} (v : Nat → Nat → α) (d : Nat) : R α := fun _ T m b i => .ok (v b i) none T m (Nat.add b d) i

section
variable {pg : Program} {w : World} {F : Frame} {go : Ar → Code → Run} {A : Ar} {c₀ : Code} {α β : Type} {P : Pin}
theorem of_det {t : Sem α} {v : Nat → Nat → α} {d : Nat} {p : PP} {T : OT} {m b i : Nat} {s : Shared} {q : Pos} (D : Rep F s T m b i) {Γ : PySem.Ctx} {Q : α → Pos → Shared → Prop} {E : Value → Pos → Shared → Prop}
    (hp : Pays F Q E (det v d p T m b i)) (h : ∀ Q' : α → Shared → Prop, Q' (v b i) { s with toks := s.toks + d } → wpAny (model pg w) (around Γ) t Q' (fun _ _ => False) s) : Sem.wp (model pg w) Γ t Q E q s := by
  refine of_any (h (fun a s' => ∀ q', Q a q' s') fun q' => hp q' _ (posOk_none q') ?_) fun _ _ x => x
  exact ⟨D.size, D.get, by show s.toks + d = Nat.add b d + i; rw [D.toks]; show b + i + d = b + d + i; omega, D.keep, D.there, D.low, D.life, D.gens, D.drawn, D.os⟩

noncomputable def absR (g v : Value) : R Value := match g, v with
  | .builtin id, .int x t => bif id == "abs" then det (fun b i => .int (absI x) (bif decide (x < 0) then Nat.add b i else t)) (bif decide (x < 0) then 1 else 0) else no 130
  | _, _ => no 131
theorem snd_absR (g v : Value) : Snd (model pg w) F A c₀ (call g [v] []) (absR g v) := by
  unfold absR
  split
  · rename_i id x t
    cases hid : (id == "abs") with
    | false => exact snd_no _ _
    | true =>
      have := eq_of_beq hid
      subst this
      intro p T m b i q s K D Γ hΓ Q E hp
      have hp : Pays F Q E (det (fun b i => .int (absI x) (bif decide (x < 0) then Nat.add b i else t)) (bif decide (x < 0) then 1 else 0) p T m b i) := hp
      refine of_det D hp fun Q' hq => ?_
      refine call_function_entry kind_abs plain_abs entry_abs (args_abs _) ?_
      unfold Builtin.«abs»
      refine wpAny_bind (m := oneArg "abs" _) (wpAny_pure ?_)
      refine wpAny_bind (m := callSpecial? (.int x t) (Str.ofString "__abs__")) (wpAny_callSpecial?_slot (name := Str.ofString "__abs__") (typeIs_int s x t) slot_int_abs
        (wpAny_call_entry slot_int_abs (typeIs_int s x t) entry_int_abs ?_ (args_int_abs _)))
      show wpAny _ _ (if x < 0 then _ else _) _ _ s
      unfold absI at hq
      by_cases hn : x < 0
      · rw [if_pos hn] at hq ⊢
        rw [decide_eq_true hn] at hq
        refine wpAny_ret_mkInt (wpAny_pure ⟨_, rfl, ?_⟩)
        rw [D.toks]
        rw [D.toks] at hq
        exact hq
      · rw [if_neg hn] at hq ⊢
        rw [decide_eq_false hn] at hq
        exact wpAny_pure ⟨_, rfl, wpAny_pure ⟨_, rfl, hq⟩⟩
  · exact snd_no _ _
noncomputable def lenR (P : Pin) (g v : Value) : R Value := match g, v with
  | .builtin id, .ref a => bif id == "len" && Nat.beq a P.L then det (fun b i => .int (Int.ofNat P.k) (Nat.add (Nat.add b i) 1)) 2 else no 132
  | _, _ => no 133
theorem snd_lenR (H : PinOk F P) (g v : Value) : Snd (model pg w) F A c₀ (call g [v] []) (lenR P g v) := by
  unfold lenR
  split
  · rename_i id a
    cases hid : (id == "len" && Nat.beq a P.L) with
    | false => exact snd_no _ _
    | true =>
      rw [Bool.and_eq_true] at hid
      have h1 := eq_of_beq hid.1
      have h2 := Nat.eq_of_beq_eq_true hid.2
      subst h1 h2
      intro p T m b i q s K D Γ hΓ Q E hp
      have hp : Pays F Q E (det (fun b i => .int (Int.ofNat P.k) (Nat.add (Nat.add b i) 1)) (2) p T m b i) := hp
      refine of_det D hp fun Q' hq => ?_
      obtain ⟨xs, hk, hl, _⟩ := H.list D
      refine Calls.call_len_list hl (by rw [hk]; exact H.fit) ?_
      rw [hk]
      rw [D.toks]
      rw [D.toks] at hq
      exact hq
  · exact snd_no _ _
noncomputable def itemR (P : Pin) (j₀ : Nat) (o i : Value) : R Value := match o, i with
  | .ref a, .int (.ofNat j) _ => bif Nat.beq a P.L && (Nat.beq j j₀ && Nat.blt j 4) then det (fun _ _ => .int (P.X j₀) (P.tk j₀)) 0 else no 134
  | _, _ => no 135
theorem snd_unassoc {γ : Type} {t : Sem α} {g : α → Sem β} {h : β → Sem γ} {x : R γ} (H : Snd (model pg w) F A c₀ ((t >>= g) >>= h) x) : Snd (model pg w) F A c₀ (t >>= fun a => g a >>= h) x := by
  intro p T m b i q s K D Γ hΓ Q E hh
  have this : Sem.wp (model pg w) Γ ((t.bind g).bind h) Q E q s := H p T m b i q s K D Γ hΓ Q E hh
  rw [Sem.wp_bind, Sem.wp_bind] at this
  show Sem.wp (model pg w) Γ (t.bind fun a => (g a).bind h) Q E q s
  rw [Sem.wp_bind]
  refine Sem.wp_mono _ _ _ (fun a p s h' => ?_) (fun e p s h' => h') _ _ this
  rw [Sem.wp_bind]
  exact h'
theorem snd_itemR (H : PinOk F P) {j₀ : Nat} (hj : j₀ < P.k) (l0 r0 : PySem.Expr) (op : Operator) (p2 : Pos) (o i : Value) :
    Snd (model pg w) F A c₀ (getitemInPython o >>= fun p => subscripted (.BinOp l0 op r0 p2) p o i) (itemR P j₀ o i) := by
  unfold itemR
  split
  · rename_i a j t
    cases hid : (Nat.beq a P.L && (Nat.beq j j₀ && Nat.blt j 4)) with
    | false => exact snd_no _ _
    | true =>
      rw [Bool.and_eq_true, Bool.and_eq_true] at hid
      have h1 := Nat.eq_of_beq_eq_true hid.1
      have h2 := Nat.eq_of_beq_eq_true hid.2.1
      subst h1 h2
      intro p T m b i q s K D Γ hΓ Q E hp
      have hp : Pays F Q E (det (fun _ _ => .int (P.X j) (P.tk j)) (0) p T m b i) := hp
      refine of_det D hp fun Q' hq => ?_
      obtain ⟨xs, hk, hl, hx⟩ := H.list D
      have hf := H.fit
      have : wpAny (model pg w) (around Γ) (subscriptTail (.Name Str.empty p2) (.BinOp l0 op r0 p2) (.ref P.L) (.int (Int.ofNat j) t)) Q' (fun _ _ => False) s := item_list hl (Int.natCast_nonneg j) (by show (j : Int) < _; omega) (hx j hj) hq
      intro Γ' q' hΓ'
      have h1 : Sem.wp (model pg w) Γ' ((getitemInPython (.ref P.L)).bind fun p => (subscripted (.BinOp l0 op r0 p2) p (.ref P.L) (.int (Int.ofNat j) t)).bind fun r => Sem.pure r) _ _ q' s := this Γ' q' hΓ'
      show Sem.wp (model pg w) Γ' ((getitemInPython (.ref P.L)).bind fun p => subscripted (.BinOp l0 op r0 p2) p (.ref P.L) (.int (Int.ofNat j) t)) _ _ q' s
      rw [Sem.wp_bind] at h1 ⊢
      refine Sem.wp_mono _ _ _ (fun a p s h' => ?_) (fun e p s h' => h') _ _ h1
      rw [Sem.wp_bind] at h'
      exact h'
  · exact snd_no _ _

/-! a call of a built-in with one argument -/
theorem snd_call1 {id : String} {cR : Value → R Value} {x : R Value} {env : Env} {e : PySem.Expr} (pos : Pos) (he : notStar e = true) (hx : Snd (model pg w) F A c₀ (eval e env) x) (hc : ∀ v, Snd (model pg w) F A c₀ (call (.builtin id) [v] []) (cR v)) :
    Snd (model pg w) F A c₀ (callWith pos (.builtin id) [] (starEach [e] env) []) (bd x fun v => bd (stand pos) fun _ => bd (cR v) fun r => pu r) := by
  have ha : [e].all notStar = true := by simpa using he
  unfold callWith
  rw [any_star env [e] ha, len_star env [e] ha]
  refine snd_map (h := fun v => Args.mk [v] []) (snd_hold _ ?_) fun v => ?_
  · rw [starEach_cons _ _ _ he]
    have h1 : Snd (model pg w) F A c₀ (spliced ((false, eval e env) :: starEach [] env)) (bd x fun v => bd (pu ([] : List Value)) fun r => pu (v :: r)) := snd_bd' hx fun v => snd_pureB _ (snd_bd' (snd_hold _ (snd_pure' ([] : List Value))) fun r => snd_pure' _)
    have h2 : Snd (model pg w) F A c₀ (evalArgs (.builtin id) true ((false, eval e env) :: starEach [] env) []) (bd (bd x fun v => bd (pu ([] : List Value)) fun r => pu (v :: r)) fun r => pu (Args.mk r [])) :=
      snd_bd' (t := spliced ((false, eval e env) :: starEach [] env)) h1 fun r => snd_hold (r ++ []) (snd_pure' (Args.mk r []))
    rw [bd_assoc] at h2
    exact h2
  · refine snd_bd' (snd_stand _) fun _ => snd_pureB _ ?_
    exact snd_bd' (hc v) snd_done
end
theorem le_det {α β : Type} {d d' : Nat} {u : Nat → Nat → Unit} {v : Nat → Nat → α} {K : Unit → R β} {K' : α → R β} (hd : d = d') (h : ∀ b i, Le (K ()) (K' (v b i))) : Le (bd (det u d) K) (bd (det v d') K') := by
  subst hd
  intro F Q E p T m b i hp
  exact h b i F Q E none T m (Nat.add b d) i hp

section
variable (al : Nat → Bool) (set : Setting) (go : Ar → Code → Run) (A : Ar) (c₀ : Code) (P : Pin) (f : Fn) (env : Env)
/-- abs(ox[l0 - r0]) % my -/
noncomputable def exSub (j₀ : Nat) (ox ix : PySem.Expr) (spos : Pos) : R Value :=
  bd (f.E env ox) fun o => bd (f.E env ix) fun i => bd (stand spos) fun _ => bd (itemR P j₀ o i) fun r => bd (leaf al set go A c₀ (letTemporaryGo ox o r)) fun _ => pu r
noncomputable def exCall (j₀ : Nat) (fn ox ix : PySem.Expr) (spos cpos : Pos) : R Value := bd (f.E env fn) fun fv => match fv with
  | .builtin id => bd (exSub al set go A c₀ P f env j₀ ox ix spos) fun v => bd (stand cpos) fun _ => bd (absR (.builtin id) v) fun r => pu r
  | _ => no 140
noncomputable def exE (j₀ : Nat) (fn ox ix my : PySem.Expr) (spos cpos bpos : Pos) : R Value :=
  bd (exCall al set go A c₀ P f env j₀ fn ox ix spos cpos) fun a => bd (f.E env my) fun b => bd (stand bpos) fun _ => bd (binR al set go A c₀ .Mod a b) fun r => pu r
noncomputable def mkT : R Nat := fun _ T m b i => fzA (Nat.succ i) fun i' => .ok (Nat.add b i) none T m b i'
noncomputable def liMod (bpos : Pos) (b : Value) : R Nat := match b with
  | .int (.ofNat n) _ => bif Nat.beq n 4 then bd (stand bpos) fun _ => mkT else no 141
  | _ => no 142
noncomputable def liTail (j₀ : Nat) (id : String) (ox my : PySem.Expr) (cpos bpos : Pos) (o i : Value) : R Nat := match o, i with
  | .ref a, .int (.ofNat j) _ => bif Nat.beq a P.L && (Nat.beq j j₀ && Nat.blt j 4) && id == "abs" then bd (det (fun _ _ => ()) 0) fun _ => bd (leaf al set go A c₀ (letTemporaryGo ox o (.int (P.X j₀) (P.tk j₀)))) fun _ => bd (stand cpos) fun _ =>
      bd (det (fun _ _ => ()) (bif P.neg j₀ then 1 else 0)) fun _ => bd (f.E env my) fun b => liMod bpos b else no 143
  | _, _ => no 144
noncomputable def liE (j₀ : Nat) (fn ox ix my : PySem.Expr) (spos cpos bpos : Pos) : R Nat := bd (f.E env fn) fun fv => match fv with
  | .builtin id => bd (f.E env ox) fun o => bd (f.E env ix) fun i => bd (stand spos) fun _ => liTail al set go A c₀ P f env j₀ id ox my cpos bpos o i
  | _ => no 140
end
section
variable {pg : Program} {w : World} {F : Frame} {go : Ar → Code → Run} {A : Ar} {c₀ : Code} {α β : Type} {P : Pin} {f : Fn}
theorem absR_int (x : Int) (t : Tok) : absR (.builtin "abs") (.int x t) = det (fun b i => .int (absI x) (bif decide (x < 0) then Nat.add b i else t)) (bif decide (x < 0) then 1 else 0) := rfl
theorem le_liE (H : PinOk F P) {j₀ : Nat} (hj : j₀ < P.k) (al : Nat → Bool) (set : Setting) (env : Env) (fn ox ix my : PySem.Expr) (spos cpos bpos : Pos) :
    Le (bd (liE al set go A c₀ P f env j₀ fn ox ix my spos cpos bpos) fun t => pu (.int (P.res j₀) t)) (exE al set go A c₀ P f env j₀ fn ox ix my spos cpos bpos) := by
  unfold liE exE exCall
  rw [bd_assoc, bd_assoc]
  refine Le.bd _ fun fv => ?_
  cases fv with
  | builtin id =>
    dsimp only
    unfold exSub
    simp only [bd_assoc, bd_pu]
    refine Le.bd _ fun o => Le.bd _ fun i => Le.bd _ fun _ => ?_
    unfold liTail
    split
    · rename_i a j t
      cases hid : (Nat.beq a P.L && (Nat.beq j j₀ && Nat.blt j 4) && id == "abs") with
      | false => exact le_no _ _
      | true =>
        rw [Bool.and_eq_true] at hid
        have hi := eq_of_beq hid.2
        subst hi
        unfold itemR
        dsimp only
        rw [hid.1]
        simp only [cond_true, bd_assoc]
        refine le_det rfl fun _ _ => ?_
        refine Le.bd _ fun _ => Le.bd _ fun _ => ?_
        have h4 : j₀ < 4 := by
          have := hid.1
          rw [Bool.and_eq_true, Bool.and_eq_true] at this
          have h2 := Nat.eq_of_beq_eq_true this.2.1
          subst h2
          have h3 := this.2.2
          rw [blt_of] at h3
          exact of_decide_eq_true h3
        rw [absR_int]
        refine le_det (by rw [H.neg]) fun b i => ?_
        refine Le.bd _ fun mv => ?_
        unfold liMod
        split
        · rename_i n u
          cases hn : Nat.beq n 4 with
          | false => exact le_no _ _
          | true =>
            have := Nat.eq_of_beq_eq_true hn
            subst this
            rw [cond_true, bd_assoc]
            refine Le.bd _ fun _ => ?_
            have hr := H.res j₀ hj h4
            intro F' Q E p T m b' i' hp
            rw [← hr] at hp
            unfold Mine.bd mkT at hp
            rw [fzA_eq] at hp
            show Pays F' Q E (Mine.bd (mkI _) (fun r => pu r) p T m b' i')
            unfold Mine.bd mkI
            rw [fzA_eq]
            exact hp
        · exact le_no _ _
    · exact le_no _ _
  | _ => exact le_no _ _
theorem snd_exE (H : PinOk F P) {j₀ : Nat} (hj : j₀ < P.k) (G : Sound (model pg w) F go) (Hf : FnOk (model pg w) F A c₀ f) (env : Env) (nm : Str) (np : Pos) (ox l0 r0 my : PySem.Expr) (op : Operator) (p2 spos cpos bpos : Pos) :
    Snd (model pg w) F A c₀ (eval (.BinOp (.Call (.Name nm np) [.Subscript ox (.BinOp l0 op r0 p2) spos] [] cpos) .Mod my bpos) env)
      (exE F.al ⟨pg, w.params⟩ go A c₀ P f env j₀ (.Name nm np) ox (.BinOp l0 op r0 p2) my spos cpos bpos) := by
  refine snd_bd' (t := eval (.Call (.Name nm np) [.Subscript ox (.BinOp l0 op r0 p2) spos] [] cpos) env) ?_ fun a => snd_bd' (snd_hold _ (Hf.E env _)) fun b => snd_bd' (snd_stand _) fun _ => snd_operate (snd_binR G _ _ _)
  refine snd_bd' (Hf.E env _) fun fv => ?_
  cases fv with
  | builtin id =>
    show Snd (model pg w) F A c₀ (callWith cpos (.builtin id) [] (backTo cpos (starEach [.Subscript ox (.BinOp l0 op r0 p2) spos] env)) []) _
    rw [backTo_plain cpos _ (starEach_false env _ rfl)]
    refine snd_call1 cpos rfl ?_ (snd_absR _)
    exact snd_bd' (Hf.E env _) fun o => snd_bd' (snd_hold _ (Hf.E env _)) fun i => snd_bd' (snd_stand _) fun _ => snd_unassoc (snd_bd' (snd_itemR H hj l0 r0 op p2 o i) fun r => snd_bd' (snd_leaf G _) fun _ => snd_pure' _)
  | _ => exact snd_no _ _
end

section
variable (al : Nat → Bool) (set : Setting) (go : Ar → Code → Run) (A : Ar) (c₀ : Code) (P : Pin) (f : Fn) (env : Env)
/-- cl <= len(lox) -/
noncomputable def exT (cl nm lox : PySem.Expr) (lpos tpos : Pos) : R Bool :=
  bd (f.E env cl) fun a => bd (bd (f.E env nm) fun fv => match fv with
    | .builtin id => bd (f.E env lox) fun v => bd (stand lpos) fun _ => bd (lenR P (.builtin id) v) fun r => pu r
    | _ => no 145) fun b => bd (stand tpos) fun _ => bd (cmpR al set go A c₀ .LtE a b) fun c => leaf al set go A c₀ (truthy c)
noncomputable def liT' (tpos : Pos) (id : String) (a v : Value) : R Nat := match a, v with
  | .int (.ofNat n) _, .ref l => bif Nat.beq l P.L && id == "len" && Nat.blt 0 n then bd (det (fun _ _ => ()) 2) fun _ => bd (stand tpos) fun _ => bd (says ()) fun _ => pu (Nat.sub n 1) else no 146
  | _, _ => no 147
noncomputable def liT (cl nm lox : PySem.Expr) (lpos tpos : Pos) : R Nat :=
  bd (f.E env cl) fun a => bd (f.E env nm) fun fv => match fv with
    | .builtin id => bd (f.E env lox) fun v => bd (stand lpos) fun _ => liT' P tpos id a v
    | _ => no 145
noncomputable def mergeV (P : Pin) (j : Nat) (T : OT) (m : Nat) (t1 m1 b1 i1 : Nat) (v2 : Value) (m2 b2 i2 : Nat) : Ans Nat := match v2 with
  | .int z2 t2 => bif z2 == P.dfl j && (Nat.blt j 4 && (Nat.beq m1 m && Nat.beq m2 m)) then .ok (bif P.ins j then t1 else t2) none T m (bif P.ins j then Nat.add b1 i1 else Nat.add b2 i2) 0 else .stuck 148
  | _ => .stuck 149
noncomputable def mergeR (P : Pin) (j : Nat) (x : R Nat) (y : R Value) : R Nat := fun p T m b i =>
  Ans.rec (motive := fun _ => Ans Nat) (fun t1 _ _ m1 b1 i1 =>
    Ans.rec (motive := fun _ => Ans Nat) (fun v2 _ _ m2 b2 i2 => mergeV P j T m t1 m1 b1 i1 v2 m2 b2 i2) (fun _ _ _ _ _ _ => .stuck 150) (fun n => .stuck n) (y p T m b i))
    (fun _ _ _ _ _ _ => .stuck 152) (fun n => .stuck n) (x p T m b i)
end
section
variable {pg : Program} {w : World} {F : Frame} {go : Ar → Code → Run} {A : Ar} {c₀ : Code} {α β : Type} {P : Pin} {f : Fn}
theorem lenR_ref (P : Pin) (l : Nat) (h : Nat.beq l P.L = true) : lenR P (.builtin "len") (.ref l) = det (fun b i => .int (Int.ofNat P.k) (Nat.add (Nat.add b i) 1)) 2 := by
  unfold lenR
  dsimp only
  rw [h]
  rfl
theorem le_liT (H : PinOk F P) (al : Nat → Bool) (set : Setting) (env : Env) (cl nm lox : PySem.Expr) (lpos tpos : Pos) :
    Le (bd (liT P f env cl nm lox lpos tpos) fun j => pu (P.ins j)) (exT al set go A c₀ P f env cl nm lox lpos tpos) := by
  unfold liT exT
  simp only [bd_assoc]
  refine Le.bd _ fun a => Le.bd _ fun fv => ?_
  cases fv with
  | builtin id =>
    dsimp only
    simp only [bd_assoc, bd_pu]
    refine Le.bd _ fun v => Le.bd _ fun _ => ?_
    unfold liT'
    split
    · rename_i n t l
      cases hid : (Nat.beq l P.L && id == "len" && Nat.blt 0 n) with
      | false => exact le_no _ _
      | true =>
        rw [Bool.and_eq_true, Bool.and_eq_true] at hid
        have hi := eq_of_beq hid.1.2
        subst hi
        rw [lenR_ref P l hid.1.1]
        simp only [cond_true, bd_assoc]
        refine le_det rfl fun b i => ?_
        refine Le.bd _ fun _ => ?_
        have hn : 0 < n := by
          have := hid.2
          rw [blt_of] at this
          exact of_decide_eq_true this
        have e : P.ins (Nat.sub n 1) = decide ((Int.ofNat n) ≤ (Int.ofNat P.k)) := by
          rw [H.ins]
          refine decide_eq_decide.mpr ?_
          show n - 1 < P.k ↔ (n : Int) ≤ (P.k : Int)
          omega
        intro F' Q E p T m b' i' hp
        have hp : Pays F' Q E (.ok (P.ins (Nat.sub n 1)) none T m b' i' : Ans Bool) := hp
        rw [e] at hp
        exact hp
    · exact le_no _ _
  | _ => exact le_no _ _
theorem snd_exT (H : PinOk F P) (G : Sound (model pg w) F go) (Hf : FnOk (model pg w) F A c₀ f) (env : Env) (cl lox : PySem.Expr) (nm : Str) (np lpos tpos : Pos) (hl : notStar lox = true) :
    Snd (model pg w) F A c₀ (isTrue (.Compare cl [.LtE] [.Call (.Name nm np) [lox] [] lpos] tpos) env (eval (.Compare cl [.LtE] [.Call (.Name nm np) [lox] [] lpos] tpos) env))
      (exT F.al ⟨pg, w.params⟩ go A c₀ P f env cl (.Name nm np) lox lpos tpos) := by
  refine snd_bd' (Hf.E env _) fun a => ?_
  show Snd (model pg w) F A c₀ (testChain tpos a [.LtE] (markedEach [.LtE] [.Call (.Name nm np) [lox] [] lpos] [eval (.Call (.Name nm np) [lox] [] lpos) env])) _
  rw [marked_one _ _ _ rfl]
  refine snd_bd' (snd_hold _ ?_) fun b => snd_bd' (snd_stand _) fun _ => snd_map (h := fun r => r) (snd_operate (snd_cmpR G _ _ _)) fun c => snd_hold _ (snd_leaf G _)
  refine snd_bd' (Hf.E env _) fun fv => ?_
  cases fv with
  | builtin id =>
    show Snd (model pg w) F A c₀ (callWith lpos (.builtin id) [] (backTo lpos (starEach [lox] env)) []) _
    rw [backTo_plain lpos _ (starEach_false env _ (by simpa using hl))]
    exact snd_call1 lpos hl (Hf.E env _) (snd_lenR H _)
  | _ => exact snd_no _ _
theorem snd_merge (H : PinOk F P) {t : Sem Bool} {g : Bool → Sem β} {tj : R Nat} {x : Nat → R Nat} {y : Nat → R Value} {h : Value → β} (ht : Snd (model pg w) F A c₀ t (bd tj fun j => pu (P.ins j)))
    (h1 : ∀ j s, j < P.k → PinOk (offF s) P → Snd (model pg w) (offF s) A c₀ (g true) (bd (x j) fun t => pu (h (.int (P.res j) t)))) (h0 : ∀ j s, Snd (model pg w) (offF s) A c₀ (g false) (bd (y j) fun v => pu (h v))) :
    Snd (model pg w) F A c₀ (t >>= g) (bd tj fun j => bd (mergeR P j (x j) (y j)) fun t => pu (h (.int (P.res j) t))) := by
  intro p T m b i q s K D Γ hΓ Q E hp
  show Sem.wp (model pg w) Γ (t.bind g) Q E q s
  rw [Sem.wp_bind]
  refine ht p T m b i q s K D Γ hΓ _ _ ?_
  unfold bd at hp ⊢
  cases z : tj p T m b i with
  | err e p' T' m' b' i' => rw [z] at hp; exact hp
  | stuck n => rw [z] at hp; exact hp
  | ok j p T m b i =>
    rw [z] at hp
    intro q s K D
    have hp : Pays F Q E (Ans.rec (motive := fun _ => Ans β) (fun t p T m b i => pu (h (.int (P.res j) t)) p T m b i) (fun e p T m b i => .err e p T m b i) (fun n => .stuck n) (mergeR P j (x j) (y j) p T m b i)) := hp
    show Sem.wp (model pg w) Γ (g (P.ins j)) Q E q s
    unfold mergeR at hp
    cases zx : x j p T m b i with
    | err e p' T' m' b' i' => rw [zx] at hp; exact hp.elim
    | stuck n => rw [zx] at hp; exact hp.elim
    | ok t1 p1 T1 m1 b1 i1 =>
      rw [zx] at hp
      dsimp only at hp
      cases zy : y j p T m b i with
      | err e p' T' m' b' i' => rw [zy] at hp; exact hp.elim
      | stuck n => rw [zy] at hp; exact hp.elim
      | ok v2 p2 T2 m2 b2 i2 =>
        rw [zy] at hp
        dsimp only at hp
        unfold mergeV at hp
        split at hp
        · rename_i z2 t2
          cases hc : (z2 == P.dfl j && (Nat.blt j 4 && (Nat.beq m1 m && Nat.beq m2 m))) with
          | false => rw [hc] at hp; exact hp.elim
          | true =>
            rw [hc] at hp
            rw [Bool.and_eq_true, Bool.and_eq_true, Bool.and_eq_true] at hc
            have e1 := eq_of_beq hc.1
            have h4 : j < 4 := by
              have := hc.2.1
              rw [blt_of] at this
              exact of_decide_eq_true this
            have e2 := Nat.eq_of_beq_eq_true hc.2.2.1
            have e3 := Nat.eq_of_beq_eq_true hc.2.2.2
            subst e1 e2
            have hp : ∀ q s, PosOk none q → Rep F s T _ (bif P.ins j then Nat.add b1 i1 else Nat.add b2 i2) 0 → Q (h (.int (P.res j) (bif P.ins j then t1 else t2))) q s := hp
            cases hins : P.ins j with
            | true =>
              rw [hins] at hp
              have hj : j < P.k := by rw [H.ins] at hins; exact of_decide_eq_true hins
              refine h1 j s hj (H.off D) p T _ b i q s K D.off Γ hΓ Q E ?_
              unfold bd
              rw [zx]
              exact fun q' s' K' D' => hp q' s' (posOk_none q') ((D.on D').rebase rfl)
            | false =>
              rw [hins] at hp
              have hj : ¬ j < P.k := by rw [H.ins] at hins; exact of_decide_eq_false hins
              rw [← H.dfl j hj h4] at hp
              refine h0 j s p T _ b i q s K D.off Γ hΓ Q E ?_
              unfold bd
              rw [zy]
              exact fun q' s' K' D' => by
                have D'' : Rep (offF s) s' T2 m1 b2 i2 := e3 ▸ D'
                exact hp q' s' (posOk_none q') ((D.on D'').rebase rfl)
        · exact hp.elim
end

/-! the body of the function that reads the script -/
section
variable (set : Setting) (go : Ar → Code → Run) (A : Ar) (c₀ : Code) (P : Pin) (f f₀ : Fn) (go₀ : Ar → Code → Run)
noncomputable def takeTail (env : Env) (cl lox ox ix my d : PySem.Expr) (nm nm2 : PySem.Expr) (lpos tpos spos cpos bpos rp dp ip : Pos) : R (Nat × Nat) :=
  bd (stand ip) fun _ => bd (liT P f env cl nm lox lpos tpos) fun j => bd (mergeR P j (bd (stand rp) fun _ => liE (fun _ => false) set go₀ A c₀ P f₀ env j nm2 ox ix my spos cpos bpos) (bd (stand dp) fun _ => f₀.E env d)) fun t => pu (j, t)
noncomputable def takeR (s1 : Stmt) (env : Env) (cl lox ox ix my d : PySem.Expr) (nm nm2 : PySem.Expr) (lpos tpos spos cpos bpos rp dp ip : Pos) : R (Nat × Nat) :=
  calm (bd (f.S env s1) fun fl => Flow.rec (motive := fun _ => R (Nat × Nat)) (takeTail set A c₀ P f f₀ go₀ env cl lox ox ix my d nm nm2 lpos tpos spos cpos bpos rp dp ip) (no 155) (no 155) (fun _ => no 155) fl)
end
section
variable {pg : Program} {w : World} {F : Frame} {go go₀ : Ar → Code → Run} {A : Ar} {c₀ : Code} {α β : Type} {P : Pin} {f f₀ : Fn}
theorem snd_takeTail (H : PinOk F P) (G : Sound (model pg w) F go) (Hf : FnOk (model pg w) F A c₀ f) (G₀ : ∀ s, Sound (model pg w) (offF s) go₀) (Hf₀ : ∀ s, FnOk (model pg w) (offF s) A c₀ f₀) (env : Env) (cl lox ox l0 r0 my d : PySem.Expr) (op : Operator) (nm nm2 : Str) (np np2 p2 lpos tpos spos cpos bpos rp dp ip : Pos) (hl : notStar lox = true) :
    Snd (model pg w) F A c₀ (execs [.If (.Compare cl [.LtE] [.Call (.Name nm np) [lox] [] lpos] tpos) [.Return (some (.BinOp (.Call (.Name nm2 np2) [.Subscript ox (.BinOp l0 op r0 p2) spos] [] cpos) .Mod my bpos)) rp] [] ip, .Return (some d) dp] env)
      (bd (takeTail ⟨pg, w.params⟩ A c₀ P f f₀ go₀ env cl lox ox (.BinOp l0 op r0 p2) my d (.Name nm np) (.Name nm2 np2) lpos tpos spos cpos bpos rp dp ip) fun jt => pu (Flow.ret (.int (P.res jt.1) jt.2))) := by
  unfold takeTail
  simp only [bd_assoc, bd_pu]
  refine snd_assoc (snd_bd' (snd_stand _) fun _ => snd_assoc ?_)
  refine snd_merge (F := F) (P := P) (h := Flow.ret) H (snd_le (snd_exT H G Hf env cl lox nm np lpos tpos hl) (le_liT H _ _ env _ _ _ _ _)) (fun j s hj Hp => ?_) fun j s => ?_
  · have h1 : Snd (model pg w) (offF s) A c₀ (execs [.Return (some (.BinOp (.Call (.Name nm2 np2) [.Subscript ox (.BinOp l0 op r0 p2) spos] [] cpos) .Mod my bpos)) rp] env)
        (bd (bd (stand rp) fun _ => bd (bd (liE (fun _ => false) ⟨pg, w.params⟩ go₀ A c₀ P f₀ env j (.Name nm2 np2) ox (.BinOp l0 op r0 p2) my spos cpos bpos) fun t => pu (Value.int (P.res j) t)) fun v => pu (Flow.ret v)) fun fl => Flow.rec (motive := fun _ => R Flow) (pu .next) (pu .brk) (pu .cont) (fun v => pu (.ret v)) fl) := by
      refine snd_bd' (snd_bd' (snd_stand _) fun _ => snd_bd' (snd_le (snd_exE Hp hj (G₀ s) (Hf₀ s) env nm2 np2 ox l0 r0 my op p2 spos cpos bpos) (le_liE Hp hj _ _ env _ _ _ _ _ _ _)) fun v => snd_pure' _) fun fl => ?_
      cases fl <;> exact snd_pure' _
    have h2 : Snd (model pg w) (offF s) A c₀ (execs [.Return (some (.BinOp (.Call (.Name nm2 np2) [.Subscript ox (.BinOp l0 op r0 p2) spos] [] cpos) .Mod my bpos)) rp] env >>= fun fl => match fl with
        | .next => execs [.Return (some d) dp] env
        | fl => pure fl)
        (bd (bd (bd (stand rp) fun _ => bd (bd (liE (fun _ => false) ⟨pg, w.params⟩ go₀ A c₀ P f₀ env j (.Name nm2 np2) ox (.BinOp l0 op r0 p2) my spos cpos bpos) fun t => pu (Value.int (P.res j) t)) fun v => pu (Flow.ret v)) fun fl => Flow.rec (motive := fun _ => R Flow) (pu .next) (pu .brk) (pu .cont) (fun v => pu (.ret v)) fl)
          fun fl => Flow.rec (motive := fun _ => R Flow) (no 153) (pu .brk) (pu .cont) (fun v => pu (.ret v)) fl) := by
      refine snd_bd' h1 fun fl => ?_
      cases fl with
      | next => exact snd_no _ _
      | _ => exact snd_pure' _
    simp only [bd_assoc, bd_pu] at h2
    simp only [bd_assoc]
    exact h2
  · have h1 : Snd (model pg w) (offF s) A c₀ (execs [.Return (some d) dp] env) (bd (bd (stand dp) fun _ => bd (f₀.E env d) fun v => pu (Flow.ret v)) fun fl => Flow.rec (motive := fun _ => R Flow) (pu .next) (pu .brk) (pu .cont) (fun v => pu (.ret v)) fl) := by
      refine snd_bd' (snd_bd' (snd_stand _) fun _ => snd_bd' ((Hf₀ s).E env d) fun v => snd_pure' _) fun fl => ?_
      cases fl <;> exact snd_pure' _
    simp only [bd_assoc, bd_pu] at h1
    simp only [bd_assoc]
    exact h1
end

noncomputable def go0 (set : Setting) : Ar → Code → Run := evR mac1 (fun _ => false) set 1000000
noncomputable def takeParts (al : Nat → Bool) (set : Setting) (P : Pin) (go : Ar → Code → Run) (A : Ar) (c : Code) (env : Env) (x : TakeParts) : Option (R (Nat × Nat)) :=
  Bool.rec (motive := fun _ => Option (R (Nat × Nat))) none (some (takeR set A c P (fns al set go A c 10000) (fns (fun _ => false) set (go0 set) A c 10000) (go0 set) x.s1 env x.cl x.lox x.ox (.BinOp x.l0 x.op x.r0 x.p2) x.my x.dd (.Name x.nm x.np) (.Name x.nm2 x.np2) x.lpos x.tpos x.spos x.cpos x.bpos x.rp x.dp x.ip)) (notStar x.lox)
noncomputable def takeFunc (al : Nat → Bool) (set : Setting) (P : Pin) (go : Ar → Code → Run) (A : Ar) (c : Code) (body : List Stmt) (env : Env) : Option (R (Nat × Nat)) :=
  Option.rec (motive := fun _ => Option (R (Nat × Nat))) none (takeParts al set P go A c env) (viewTake body)
/-- the reader's body goes by the rule above: the place read, and the token of the answer -/
noncomputable def takeOf (al : Nat → Bool) (set : Setting) (P : Pin) (go : Ar → Code → Run) (A : Ar) (c : Code) : Option (R (Nat × Nat)) :=
  Code.rec (motive := fun _ => Option (R (Nat × Nat))) (fun _ _ => none) (fun _ _ => none) (fun _ _ => none) (fun _ _ => none) (fun _ _ _ => none) (fun _ _ _ _ _ => none) (takeFunc al set P go A c) (fun _ _ => none) (fun _ _ _ _ => none) (fun _ _ _ _ _ => none) (fun _ _ _ _ _ => none) (fun _ _ _ _ _ => none) (fun _ _ _ _ _ => none) c
noncomputable def macT (al : Nat → Bool) (set : Setting) (P : Pin) (go : Ar → Code → Run) (A : Ar) (c : Code) (d : Run) : Run :=
  Option.rec (motive := fun _ => Run) d (fun x => finR go A (bd x fun jt => pu (.done (.ret (.int (P.res jt.1) jt.2))))) (takeOf al set P go A c)
theorem calm_bd {α β : Type} (x : R α) (g : α → β) : calm (bd x fun a => pu (g a)) = bd (calm x) fun a => pu (g a) := by
  funext p T m b i
  unfold calm bd
  dsimp only
  cases x p T m b i <;> rfl
section
variable {pg : Program} {w : World} {F : Frame} {go : Ar → Code → Run} {A : Ar} {c₀ : Code} {α β : Type} {P : Pin} {f f₀ : Fn}
theorem snd_takeOf (H : PinOk F P) (G : Sound (model pg w) F go) (c : Code) {x : R (Nat × Nat)} (hx : takeOf F.al ⟨pg, w.params⟩ P go A c = some x) :
    Snd (model pg w) F A c (denote table c) (bd x fun jt => pu (.done (.ret (.int (P.res jt.1) jt.2)))) := by
  cases c with
  | func body env =>
    have hx : takeFunc F.al ⟨pg, w.params⟩ P go A (.func body env) body env = some x := hx
    unfold takeFunc at hx
    cases hv : viewTake body with
    | none => rw [hv] at hx; cases hx
    | some tp =>
    rw [hv] at hx
    have hb := viewTake_ok hv
    clear hv
    obtain ⟨s1, cl, nm, np, lox, lpos, tpos, nm2, np2, ox, l0, op, r0, p2, spos, cpos, my, bpos, rp, ip, dd, dp⟩ := tp
    dsimp only at hb
    subst hb
    dsimp only at hx
    unfold takeParts at hx
    dsimp only at hx
    cases hl : notStar lox with
    | false => rw [hl] at hx; cases hx
    | true =>
      rw [hl] at hx
      have hx := Option.some.inj hx
      subst hx
      unfold takeR
      have h1 := snd_takeTail (go₀ := go0 ⟨pg, w.params⟩) (f₀ := fns (fun _ => false) ⟨pg, w.params⟩ (go0 ⟨pg, w.params⟩) A (.func [s1, .If (.Compare cl [.LtE] [.Call (.Name nm np) [lox] [] lpos] tpos) [.Return (some (.BinOp (.Call (.Name nm2 np2) [.Subscript ox (.BinOp l0 op r0 p2) spos] [] cpos) .Mod my bpos)) rp] [] ip, .Return (some dd) dp] env) 10000) H G (fns_ok (A := A) (c₀ := .func [s1, .If (.Compare cl [.LtE] [.Call (.Name nm np) [lox] [] lpos] tpos) [.Return (some (.BinOp (.Call (.Name nm2 np2) [.Subscript ox (.BinOp l0 op r0 p2) spos] [] cpos) .Mod my bpos)) rp] [] ip, .Return (some dd) dp] env) G 10000) (fun s => evR_sound (F := offF s) (mac1_ok _ _) 1000000) (fun s => fns_ok (F := offF s) (evR_sound (F := offF s) (mac1_ok _ _) 1000000) 10000) env cl lox ox l0 r0 my dd op nm nm2 np np2 p2 lpos tpos spos cpos bpos rp dp ip hl
      refine snd_skip snd_point ?_
      have h2 := snd_bd' ((fns_ok (A := A) (c₀ := .func [s1, .If (.Compare cl [.LtE] [.Call (.Name nm np) [lox] [] lpos] tpos) [.Return (some (.BinOp (.Call (.Name nm2 np2) [.Subscript ox (.BinOp l0 op r0 p2) spos] [] cpos) .Mod my bpos)) rp] [] ip, .Return (some dd) dp] env) G 10000).S env s1) (fun fl => (by
          cases fl with
          | next => exact h1
          | brk => exact snd_no _ 155
          | cont => exact snd_no _ 155
          | ret v => exact snd_no _ 155 : Snd (model pg w) F A _ (match fl with
            | .next => execs [.If (.Compare cl [.LtE] [.Call (.Name nm np) [lox] [] lpos] tpos) [.Return (some (.BinOp (.Call (.Name nm2 np2) [.Subscript ox (.BinOp l0 op r0 p2) spos] [] cpos) .Mod my bpos)) rp] [] ip, .Return (some dd) dp] env
            | fl => pure fl) (bd (Flow.rec (motive := fun _ => R (Nat × Nat)) (takeTail ⟨pg, w.params⟩ A _ P _ _ (go0 ⟨pg, w.params⟩) env cl lox ox (.BinOp l0 op r0 p2) my dd (.Name nm np) (.Name nm2 np2) lpos tpos spos cpos bpos rp dp ip) (no 155) (no 155) (fun _ => no 155) fl) fun jt => pu (Flow.ret (.int (P.res jt.1) jt.2)))))
      have h3 := snd_bd' (snd_calm (leaving env) h2) (f := fun fl => match fl with
        | .ret v => ret v
        | _ => ret .none) (g := fun fl => pu (.done (.ret (backOf fl)))) fun fl => by cases fl <;> exact snd_pure' _
      rw [← bd_assoc, calm_bd, bd_assoc] at h3
      exact h3
  | _ => cases hx
theorem macT_ok (H : PinOk F P) : MacOk (model pg w) F (macT F.al ⟨pg, w.params⟩ P) := by
  intro go A c d G hd
  unfold macT
  cases hx : takeOf F.al ⟨pg, w.params⟩ P go A c with
  | none => exact hd
  | some x => exact soundAt_fin G (snd_takeOf H G c hx)
end
end Mine
open PySem PySem.W PySem.Spec PySem.Calls PyProof.Rows PySem.SeqAt
set_option Elab.async false
namespace Mine
set_option genInjectivity false
set_option genSizeOf false
set_option maxHeartbeats 1000000
set_option linter.unusedVariables false

section
variable (al : Nat → Bool) (set : Setting) (go : Ar → Code → Run) (A : Ar) (c₀ : Code) (P : Pin)
/-- a call of the reader: the place read, and the token of the answer -/
noncomputable def callJ (fv : Value) (vs : List Value) : R (Nat × Nat) := fun p T m b i =>
  Ans.rec (motive := fun _ => Ans (Nat × Nat)) (fun fin p1 T1 m1 b1 i1 => PySem.Fin.rec (motive := fun _ => Ans (Nat × Nat)) (fun _ => .stuck 170) (fun c2 =>
    Bool.rec (motive := fun _ => Ans (Nat × Nat)) (.stuck 171) (Option.rec (motive := fun _ => Ans (Nat × Nat)) (.stuck 172) (fun x => Ans.rec (motive := fun _ => Ans (Nat × Nat)) (fun jt _ T2 m2 b2 i2 => .ok jt p T2 m2 b2 i2) (fun _ _ _ _ _ _ => .stuck 174) (fun n => .stuck n) (x p1 T1 m1 b1 i1))
      (takeOf al set P go ⟨A.handled, (c₀, p) :: A.st⟩ c2)) c2.quiet) fin) (fun _ _ _ _ _ _ => .stuck 173) (fun n => .stuck n)
    (leaf al set go ⟨A.handled, (c₀, p) :: A.st⟩ (.call fv ⟨vs, []⟩) (denote treeTable (.call fv ⟨vs, []⟩)) p T m b i)
noncomputable def goJ : Ar → Code → Run := fun A c => macT al set P go A c (go A c)
noncomputable def goK : Ar → Code → Run := fun A c => match c with
  | .call fv args => finR (goJ al set go P) A (leaf al set go A (.call fv args) (denote treeTable (.call fv args)))
  | c => go A c
noncomputable def retV (r : Result) : R Value := match r with
  | .ok (.ret v) => pu v
  | _ => no 175
end
section
variable {pg : Program} {w : World} {F : Frame} {go : Ar → Code → Run} {A : Ar} {c₀ : Code} {α β : Type} {P : Pin} {f : Fn}
theorem goJ_sound (H : PinOk F P) (G : Sound (model pg w) F go) : Sound (model pg w) F (goJ F.al ⟨pg, w.params⟩ go P) := fun A c => macT_ok H go A c _ G (G A c)
theorem goK_sound (H : PinOk F P) (G : Sound (model pg w) F go) : Sound (model pg w) F (goK F.al ⟨pg, w.params⟩ go P) := by
  refine sound_iff.mpr fun A c => ?_
  unfold goK
  split
  · rename_i fv args
    have h : Snd (model pg w) F A (.call fv args) (denote table (.call fv args)) (leaf F.al ⟨pg, w.params⟩ go A (.call fv args) (denote treeTable (.call fv args))) := by
      rw [table_eq_tree]
      exact snd_leaf G _
    exact soundAt_fin (goJ_sound H G) h
  · exact G A _
theorem le_callJ (al : Nat → Bool) (set : Setting) (fv : Value) (vs : List Value) :
    Le (bd (callJ al set go A c₀ P fv vs) fun jt => pu (Value.int (P.res jt.1) jt.2)) (bd (callR (goK al set go P) A c₀ (.call fv ⟨vs, []⟩) none) retV) := by
  intro F Q E p T m b i hp
  unfold bd callJ at hp
  unfold bd callR
  have hg : goK al set go P ⟨(none : Option Value).or A.handled, (c₀, p) :: A.st⟩ (.call fv ⟨vs, []⟩) p T m b i = finR (goJ al set go P) ⟨A.handled, (c₀, p) :: A.st⟩ (leaf al set go ⟨A.handled, (c₀, p) :: A.st⟩ (.call fv ⟨vs, []⟩) (denote treeTable (.call fv ⟨vs, []⟩))) p T m b i := rfl
  rw [hg]
  show Pays F Q E (Ans.rec (motive := fun _ => Ans Value) (fun a p T m b i => retV a p T m b i) (fun e p T m b i => .err e p T m b i) (fun n => .stuck n) (Out.rec (motive := fun _ => Ans Result) (fun r T' m' b' i' => .ok r p T' m' b' i') (fun w => .stuck w) (finR (goJ al set go P) ⟨A.handled, (c₀, p) :: A.st⟩ (leaf al set go ⟨A.handled, (c₀, p) :: A.st⟩ (.call fv ⟨vs, []⟩) (denote treeTable (.call fv ⟨vs, []⟩))) p T m b i)))
  unfold finR
  cases z : leaf al set go ⟨A.handled, (c₀, p) :: A.st⟩ (.call fv ⟨vs, []⟩) (denote treeTable (.call fv ⟨vs, []⟩)) p T m b i with
  | err e p1 T1 m1 b1 i1 => rw [z] at hp; exact hp.elim
  | stuck n => rw [z] at hp; exact hp.elim
  | ok fin p1 T1 m1 b1 i1 =>
    rw [z] at hp
    cases fin with
    | done _ => exact hp.elim
    | again c2 =>
      dsimp only at hp ⊢
      cases hq : c2.quiet with
      | false => rw [hq] at hp; exact hp.elim
      | true =>
        rw [hq] at hp
        dsimp only at hp ⊢
        cases hx : takeOf al set P go ⟨A.handled, (c₀, p) :: A.st⟩ c2 with
        | none => rw [hx] at hp; exact hp.elim
        | some x =>
          rw [hx] at hp
          dsimp only at hp
          unfold goJ macT
          rw [hx]
          dsimp only
          unfold finR bd
          cases hy : x p1 T1 m1 b1 i1 with
          | err e p2 T2 m2 b2 i2 => rw [hy] at hp; exact hp.elim
          | stuck n => rw [hy] at hp; exact hp.elim
          | ok jt p2 T2 m2 b2 i2 => rw [hy] at hp; exact hp
theorem snd_callJ (H : PinOk F P) (G : Sound (model pg w) F go) (fv : Value) (vs : List Value) :
    Snd (model pg w) F A c₀ (call fv vs []) (bd (callJ F.al ⟨pg, w.params⟩ go A c₀ P fv vs) fun jt => pu (Value.int (P.res jt.1) jt.2)) := by
  refine snd_le ?_ (le_callJ _ _ fv vs)
  refine snd_call (goK_sound H G) (.call fv ⟨vs, []⟩) none false [] fun r => ?_
  cases r with
  | error e => exact snd_no _ _
  | ok fl => cases fl with
    | ret v => exact snd_pure v
    | _ => exact snd_no _ _
end

/-! the reader's answer, compared -/
section
variable (al : Nat → Bool) (set : Setting) (go : Ar → Code → Run) (A : Ar) (c₀ : Code) (P : Pin) (f : Fn) (env : Env)
noncomputable def exK (nm : PySem.Expr) (args : List PySem.Expr) (cpos : Pos) : R Value :=
  bd (f.E env nm) fun fv => bd (es f env args) fun a => bd (stand cpos) fun _ => bd (leaf al set go A c₀ (keeperOf fv)) fun k => match k with
    | .frame => bd (bd (callJ al set go A c₀ P fv ([] ++ a)) fun jt => pu (Value.int (P.res jt.1) jt.2)) fun r => pu r
    | _ => no 180
noncomputable def exC (nm : PySem.Expr) (args : List PySem.Expr) (op : CmpOp) (kx : PySem.Expr) (cpos pos : Pos) : R Value :=
  bd (exK al set go A c₀ P f env nm args cpos) fun a => bd (f.E env kx) fun b => bd (stand pos) fun _ => bd (cmpR al set go A c₀ op a b) fun r => pu r
noncomputable def liCmp (op : CmpOp) (pos : Pos) (j : Nat) (b : Value) : R Value := match b with
  | .int y _ => bif decide (op = P.op j) && (y == P.y j && Nat.blt j 3) then bd (stand pos) fun _ => says (.bool (P.bit j)) else no 181
  | _ => no 182
noncomputable def liC (nm : PySem.Expr) (args : List PySem.Expr) (op : CmpOp) (kx : PySem.Expr) (cpos pos : Pos) : R Value :=
  bd (f.E env nm) fun fv => bd (es f env args) fun a => bd (stand cpos) fun _ => bd (leaf al set go A c₀ (keeperOf fv)) fun k => match k with
    | .frame => bd (callJ al set go A c₀ P fv ([] ++ a)) fun jt => bd (f.E env kx) fun b => liCmp P op pos jt.1 b
    | _ => no 180
noncomputable def hookP (x : R Value) (v : HookParts) : R Value :=
  bif v.args.all notStar && (!(behindInMarks v.op v.kx) && !(Nat.blt 30 v.args.length)) then liC al set go A c₀ P f env (.Name v.nm v.np) v.args v.op v.kx v.cpos v.pos else x
noncomputable def hookE (e : PySem.Expr) (x : R Value) : R Value := Option.rec (motive := fun _ => R Value) x (hookP al set go A c₀ P f env x) (viewHook e)
end
noncomputable def fnsH (al : Nat → Bool) (set : Setting) (go : Ar → Code → Run) (A : Ar) (c₀ : Code) (P : Pin) : Nat → Fn :=
  Nat.rec noFn (fun _ f => ⟨fun env e => hookE al set go A c₀ P f env e (stepEV al set go A c₀ f env e), stepBV al set go A c₀ f, stepSV al set go A c₀ f, stepAsV al set go A c₀ f⟩)
section
variable {pg : Program} {w : World} {F : Frame} {go : Ar → Code → Run} {A : Ar} {c₀ : Code} {α β : Type} {P : Pin} {f : Fn}
theorem le_liC (H : PinOk F P) (al : Nat → Bool) (set : Setting) (env : Env) (nm : PySem.Expr) (args : List PySem.Expr) (op : CmpOp) (kx : PySem.Expr) (cpos pos : Pos) :
    Le (liC al set go A c₀ P f env nm args op kx cpos pos) (exC al set go A c₀ P f env nm args op kx cpos pos) := by
  unfold liC exC exK
  simp only [bd_assoc]
  refine Le.bd _ fun fv => Le.bd _ fun a => Le.bd _ fun _ => Le.bd _ fun k => ?_
  cases k with
  | frame =>
    dsimp only
    simp only [bd_assoc, bd_pu]
    refine Le.bd _ fun jt => Le.bd _ fun b => ?_
    unfold liCmp
    split
    · rename_i y t
      cases hc : (decide (op = P.op jt.1) && (y == P.y jt.1 && Nat.blt jt.1 3)) with
      | false => exact le_no _ _
      | true =>
        rw [Bool.and_eq_true, Bool.and_eq_true] at hc
        have e1 := of_decide_eq_true hc.1
        have e2 := eq_of_beq hc.2.1
        have h3 : jt.1 < 3 := by
          have := hc.2.2
          rw [blt_of] at this
          exact of_decide_eq_true this
        have hb := H.bit jt.1 h3
        rw [← e1, ← e2] at hb
        rw [cond_true]
        refine Le.bd _ fun _ => ?_
        have e : cmpR al set go A c₀ op (.int (P.res jt.1) jt.2) (.int y t) = says (.bool (P.bit jt.1)) := by
          unfold cmpR
          dsimp only
          rw [hb]
        rw [e]
        exact Le.refl _
    · exact le_no _ _
  | _ => exact le_no _ _
theorem snd_exC (H : PinOk F P) (G : Sound (model pg w) F go) (Hf : FnOk (model pg w) F A c₀ f) (env : Env) (nm : Str) (np : Pos) (args : List PySem.Expr) (op : CmpOp) (kx : PySem.Expr) (cpos pos : Pos) (ha : args.all notStar = true) (hb : behindInMarks op kx = false) (h30 : Nat.blt 30 args.length = false) :
    Snd (model pg w) F A c₀ (eval (.Compare (.Call (.Name nm np) args [] cpos) [op] [kx] pos) env) (exC F.al ⟨pg, w.params⟩ go A c₀ P f env (.Name nm np) args op kx cpos pos) := by
  refine snd_bd' (t := eval (.Call (.Name nm np) args [] cpos) env) ?_ fun a => ?_
  · refine snd_bd' (Hf.E env _) fun fv => ?_
    show Snd (model pg w) F A c₀ (callWith cpos fv [] (backTo cpos (starEach args env)) []) _
    rw [backTo_plain cpos _ (starEach_false env args ha)]
    unfold callWith
    rw [any_star env args ha, len_star env args ha]
    refine snd_map (h := fun r => Args.mk r []) (snd_hold _ (snd_args Hf env fv args ha)) fun r => ?_
    refine snd_bd' (snd_stand _) fun _ => snd_bd' (snd_leaf G _) fun k => ?_
    cases k with
    | frame =>
      have h2 : ¬ (args.length + 2 * ([] : List (Option Str × Sem Value)).length > 30) := by
        rw [blt_of] at h30
        have := of_decide_eq_false h30
        simpa using this
      dsimp only
      rw [if_neg h2]
      exact snd_bd' (snd_keep _ (snd_callJ H G fv _)) snd_done
    | _ => exact snd_no _ _
  · show Snd (model pg w) F A c₀ (compareChain pos a [op] (markedEach [op] [kx] [eval kx env])) _
    rw [marked_one _ _ _ hb]
    exact snd_bd' (snd_hold _ (Hf.E env kx)) fun b => snd_bd' (snd_stand _) fun _ => snd_operate (snd_cmpR G _ _ _)
theorem snd_hookE (H : PinOk F P) (G : Sound (model pg w) F go) (Hf : FnOk (model pg w) F A c₀ f) (env : Env) (e : PySem.Expr) {x : R Value} (hx : Snd (model pg w) F A c₀ (eval e env) x) : Snd (model pg w) F A c₀ (eval e env) (hookE F.al ⟨pg, w.params⟩ go A c₀ P f env e x) := by
  unfold hookE
  cases hv : viewHook e with
  | none => exact hx
  | some v =>
    have he := viewHook_ok hv
    clear hv
    obtain ⟨nm, np, args, cpos, op, kx, pos⟩ := v
    dsimp only at he
    subst he
    show Snd (model pg w) F A c₀ _ (hookP F.al ⟨pg, w.params⟩ go A c₀ P f env x _)
    unfold hookP
    dsimp only
    cases hc : (args.all notStar && (!(behindInMarks op kx) && !(Nat.blt 30 args.length))) with
    | false => exact hx
    | true =>
      rw [Bool.and_eq_true, Bool.and_eq_true, Bool.not_eq_true', Bool.not_eq_true'] at hc
      exact snd_le (snd_exC H G Hf env nm np args op kx cpos pos hc.1 hc.2.1 hc.2.2) (le_liC H _ _ env _ _ _ _ _ _)
theorem fnsH_ok (H : PinOk F P) (G : Sound (model pg w) F go) : ∀ n, FnOk (model pg w) F A c₀ (fnsH F.al ⟨pg, w.params⟩ go A c₀ P n)
  | 0 => ⟨fun _ _ => snd_no _ _, fun _ _ => snd_no _ _, fun _ _ => snd_no _ _, fun _ _ _ => snd_no _ _⟩
  | n + 1 => ⟨fun env e => snd_hookE H G (fnsH_ok H G n) env e (snd_stepEV G (fnsH_ok H G n) env e), snd_stepBV G (fnsH_ok H G n), snd_stepSV G (fnsH_ok H G n), snd_stepAsV G (fnsH_ok H G n)⟩
end
end Mine
open PySem PySem.W PySem.Spec PySem.Calls PyProof.Rows PySem.SeqAt
set_option Elab.async false
namespace Mine
set_option genInjectivity false
set_option genSizeOf false
set_option maxHeartbeats 1000000
set_option linter.unusedVariables false

/-! what an answer promises, by any reading of a state -/
abbrev Reads := Shared → OT → Nat → Nat → Nat → Prop
noncomputable def PaysX (J : Reads) {α : Type} (Q : α → Pos → Shared → Prop) : Ans α → Prop
  | .ok a p T m b i => ∀ q s, PosOk p q → J s T m b i → Q a q s
  | .err _ _ _ _ _ _ => False
  | .stuck _ => False
noncomputable def SndG (M : Model) (A : Ar) (c₀ : Code) (I J : Reads) {α : Type} (t : Sem α) (x : R α) : Prop :=
  ∀ p T m b i q s, PosOk p q → I s T m b i → ∀ Γ : PySem.Ctx, At A c₀ Γ → ∀ (Q : α → Pos → Shared → Prop) (E : Value → Pos → Shared → Prop), PaysX J Q (x p T m b i) → Sem.wp M Γ t Q E q s
section
variable {M : Model} {A : Ar} {c₀ : Code} {α β γ : Type} {I J K : Reads}
theorem sndG_of {F : Frame} {t : Sem α} {x : R α} (h : Snd M F A c₀ t x) : SndG M A c₀ (Rep F) (Rep F) t x := by
  intro p T m b i q s Kq D Γ hΓ Q E hp
  refine h p T m b i q s Kq D Γ hΓ Q E ?_
  cases z : x p T m b i with
  | ok a p' T' m' b' i' => rw [z] at hp; exact hp
  | err e p' T' m' b' i' => rw [z] at hp; exact hp.elim
  | stuck n => rw [z] at hp; exact hp.elim
theorem sndG_ex {S : Frame → Prop} {t : Sem α} {x : R α} (h : ∀ F, S F → Snd M F A c₀ t x) : SndG M A c₀ (fun s T m b i => ∃ F, S F ∧ Rep F s T m b i) (fun s T m b i => ∃ F, S F ∧ Rep F s T m b i) t x := by
  intro p T m b i q s Kq ⟨F, hS, D⟩ Γ hΓ Q E hp
  refine h F hS p T m b i q s Kq D Γ hΓ Q E ?_
  cases z : x p T m b i with
  | ok a p' T' m' b' i' => rw [z] at hp; exact fun q' s' K' D' => hp q' s' K' ⟨F, hS, D'⟩
  | err e p' T' m' b' i' => rw [z] at hp; exact hp.elim
  | stuck n => rw [z] at hp; exact hp.elim
theorem sndG_bd {t : Sem α} {x : R α} {f : α → Sem β} {g : α → R β} (ht : SndG M A c₀ I J t x) (hf : ∀ a, SndG M A c₀ J K (f a) (g a)) : SndG M A c₀ I K (t >>= f) (bd x g) := by
  intro p T m b i q s Kq D Γ hΓ Q E h
  show Sem.wp M Γ (t.bind f) Q E q s
  rw [Sem.wp_bind]
  refine ht p T m b i q s Kq D Γ hΓ _ _ ?_
  unfold bd at h
  cases z : x p T m b i with
  | ok a p' T' m' b' i' => rw [z] at h; exact fun q' s' K' D' => hf a p' T' m' b' i' q' s' K' D' Γ hΓ Q E h
  | err e p' T' m' b' i' => rw [z] at h; exact h.elim
  | stuck n => rw [z] at h; exact h.elim
theorem sndG_no (t : Sem α) (n : Nat) : SndG M A c₀ I J t (no n) := fun _ _ _ _ _ _ _ _ _ _ _ _ _ h => h.elim
theorem sndG_hold {t : Sem α} {x : R α} (vs : List Value) (ht : SndG M A c₀ I J t x) : SndG M A c₀ I J (holding vs t) x := by
  intro p T m b i q s Kq D Γ hΓ Q E h
  rw [Sem.wp_holding]
  exact ht p T m b i q s Kq D Γ hΓ Q E h
theorem sndG_pure (a : α) : SndG M A c₀ I I (Pure.pure a : Sem α) (pu a) := fun _ _ _ _ _ q s Kq D _ _ _ _ h => h q s Kq D
theorem sndG_pureB (a : α) {g : α → Sem β} {x : R β} (h : SndG M A c₀ I J (g a) x) : SndG M A c₀ I J ((Pure.pure a : Sem α) >>= g) x := h
theorem sndG_stand (q : Pos) : SndG M A c₀ I I (standAt q) (stand q) := fun _ _ _ _ _ _ s _ D _ _ _ _ h => h q s (posOk_some q) D
theorem sndG_assoc {t : Sem α} {g : α → Sem β} {h : β → Sem γ} {x : R γ} (H : SndG M A c₀ I J (t >>= fun a => g a >>= h) x) : SndG M A c₀ I J ((t >>= g) >>= h) x := by
  intro p T m b i q s Kq D Γ hΓ Q E hh
  have this : Sem.wp M Γ (t.bind fun a => (g a).bind h) Q E q s := H p T m b i q s Kq D Γ hΓ Q E hh
  show Sem.wp M Γ ((t.bind g).bind h) Q E q s
  rw [Sem.wp_bind] at this
  rw [Sem.wp_bind, Sem.wp_bind]
  refine Sem.wp_mono _ _ _ (fun a p s h' => ?_) (fun e p s h' => h') _ _ this
  rw [Sem.wp_bind] at h'
  exact h'
theorem sndG_unassoc {t : Sem α} {g : α → Sem β} {h : β → Sem γ} {x : R γ} (H : SndG M A c₀ I J ((t >>= g) >>= h) x) : SndG M A c₀ I J (t >>= fun a => g a >>= h) x := by
  intro p T m b i q s Kq D Γ hΓ Q E hh
  have this : Sem.wp M Γ ((t.bind g).bind h) Q E q s := H p T m b i q s Kq D Γ hΓ Q E hh
  rw [Sem.wp_bind, Sem.wp_bind] at this
  show Sem.wp M Γ (t.bind fun a => (g a).bind h) Q E q s
  rw [Sem.wp_bind]
  refine Sem.wp_mono _ _ _ (fun a p s h' => ?_) (fun e p s h' => h') _ _ this
  rw [Sem.wp_bind]
  exact h'
theorem sndG_map {t : Sem α} {x : R β} {h : β → α} {k : α → Sem γ} {y : β → R γ} (ht : SndG M A c₀ I J t (bd x fun r => pu (h r))) (hk : ∀ r, SndG M A c₀ J K (k (h r)) (y r)) : SndG M A c₀ I K (t >>= k) (bd x y) := by
  intro p T m b i q s Kq D Γ hΓ Q E hh
  show Sem.wp M Γ (t.bind k) Q E q s
  rw [Sem.wp_bind]
  refine ht p T m b i q s Kq D Γ hΓ _ _ ?_
  unfold bd at hh ⊢
  cases z : x p T m b i with
  | ok a p' T' m' b' i' => rw [z] at hh; exact fun q' s' K' D' => hk a p' T' m' b' i' q' s' K' D' Γ hΓ Q E hh
  | err e p' T' m' b' i' => rw [z] at hh; exact hh.elim
  | stuck n => rw [z] at hh; exact hh.elim
theorem sndG_skip {t : Sem Unit} {k : Unit → Sem α} {y : R α} (ht : SndG M A c₀ I I t (pu ())) (hk : SndG M A c₀ I J (k ()) y) : SndG M A c₀ I J (t >>= k) y :=
  sndG_bd (x := pu ()) (g := fun _ => y) ht fun _ => hk
theorem sndG_point : SndG M A c₀ I I point (pu ()) := fun _ _ _ _ _ q s Kq D _ _ _ _ h => h q s Kq D
theorem sndG_done (r : Value) : SndG M A c₀ I I (holding [r] point >>= fun _ => (Pure.pure r : Sem Value)) (pu r) :=
  sndG_bd (x := pu ()) (g := fun _ => pu r) (sndG_hold _ sndG_point) fun _ => sndG_pure _
end

/-! a later frame -/
structure Later (F F' : Frame) : Prop where
  al : F'.al = F.al
  keep : ∀ a o, F.al a = false → F.h₀.get? a = some o → F'.h₀.get? a = some o
  there : ∀ a o, F.h₀.get? a = some o → ∃ o', F'.h₀.get? a = some o'
  low : F.h₀.objs.size ≤ F'.h₀.objs.size
  life : F'.h₀.life = F.h₀.life
  gens : F'.gens = F.gens
  drawn : F'.drawn = F.drawn
  os : F'.os = F.os
theorem Later.rep {F F' : Frame} (l : Later F F') {s : Shared} {T : OT} {m b i : Nat} (D : Rep F' s T m b i) : Rep F s T m b i :=
  ⟨D.size, D.get, D.toks, fun a o h1 h2 => D.keep a o (by rw [l.al]; exact h1) (l.keep a o h1 h2), fun a o h => let ⟨o', h'⟩ := l.there a o h; D.there a o' h', Nat.le_trans l.low D.low,
    D.life.trans l.life, D.gens.trans l.gens, D.drawn.trans l.drawn, D.os.trans l.os⟩
/-- the frame that holds a state as it is -/
noncomputable def nowF (F : Frame) (s : Shared) : Frame := { F with h₀ := s.heap }
theorem Rep.later {F : Frame} {s : Shared} {T : OT} {m b i : Nat} (D : Rep F s T m b i) : Later F (nowF F s) :=
  ⟨rfl, D.keep, D.there, by show _ ≤ s.heap.objs.size; rw [D.size]; exact D.low, D.life, rfl, rfl, rfl⟩
theorem Rep.now {F : Frame} {s : Shared} {T : OT} {m b i : Nat} (D : Rep F s T m b i) : Rep (nowF F s) s T m b i :=
  ⟨D.size, D.get, D.toks, fun _ _ _ h => h, fun a o h => ⟨o, h⟩, Nat.le_of_eq D.size, rfl, D.gens, D.drawn, D.os⟩
theorem Later.trans {F F' F'' : Frame} (l : Later F F') (l' : Later F' F'') : Later F F'' :=
  ⟨l'.al.trans l.al, fun a o h1 h2 => l'.keep a o (by rw [l.al]; exact h1) (l.keep a o h1 h2), fun a o h => let ⟨o', h'⟩ := l.there a o h; l'.there a o' h', Nat.le_trans l.low l'.low, l'.life.trans l.life, l'.gens.trans l.gens, l'.drawn.trans l.drawn, l'.os.trans l.os⟩
/-- a place that tells nothing -/
theorem Rep.blank {F : Frame} {s : Shared} {T : OT} {m b i : Nat} (D : Rep F s T m b i) (c : Nat) : Rep F s (T.put none c) m b i :=
  ⟨D.size, fun a o h => by
    rcases OT.get_put _ _ _ _ _ h with ⟨_, q⟩ | ⟨_, q⟩
    · cases q
    · exact D.get a o q, D.toks, D.keep, D.there, D.low, D.life, D.gens, D.drawn, D.os⟩
/-- one object more, whose contents no tree tells -/
theorem Rep.one {F : Frame} {s : Shared} {T : OT} {m b i : Nat} (D : Rep F s T m b i) {h' : Heap} (h1 : h'.objs.size = s.heap.objs.size + 1) (h2 : ∀ a o, s.heap.get? a = some o → h'.get? a = some o) (h3 : h'.life = s.heap.life) :
    Rep F { s with heap := h' } T (Nat.succ m) b i :=
  ⟨by show h'.objs.size = _; rw [h1, D.size], fun a o h => h2 a o (D.get a o h), D.toks, fun a o x y => h2 a o (D.keep a o x y), fun a o h => let ⟨o', h'⟩ := D.there a o h; ⟨o', h2 a o' h'⟩, Nat.le_succ_of_le D.low, h3.trans D.life, D.gens, D.drawn, D.os⟩

section
variable {pg : Program} {w : World} {A : Around} {E : Value → Shared → Prop} {s : Shared}
/-- list(it) makes one list -/
theorem call_list_one {Q : Value → Shared → Prop} (it : Addr) {items : Array Value} (hl : s.heap.IsList it items)
    (hQ : ∀ h' c', h'.objs.size = s.heap.objs.size + 1 → h'.life = s.heap.life → (∀ b o', s.heap.get? b = some o' → h'.get? b = some o') → h'.get? s.heap.objs.size = some { cls := .type "list", data := .seq items c' } → Q (.ref s.heap.objs.size) { s with heap := h' })
    (hsz : items.size ≤ sizeLine) : wpAny (model pg w) A (call (.type "list") [.ref it]) Q E s := by
  obtain ⟨o, ho, hc, n, hd⟩ := id hl
  have hne : it ≠ s.heap.objs.size := fun e => Nat.lt_irrefl _ (e ▸ Heap.lt_size ho)
  refine callType_codes (Q₁ := fun obj s₁ => obj = .ref s.heap.objs.size ∧ s₁ = { s with heap := s.heap.push { cls := .type "list", data := .seq #[] } }) PySem.F.called_list (PySem.F.typeCall_list_1 _) PySem.F.entry_list_init
    (code_list_new _ ⟨rfl, rfl⟩) fun obj s₁ h₁ => ?_
  obtain ⟨rfl, rfl⟩ := h₁
  have hS : (s.heap.push { cls := .type "list", data := .seq #[] }).get? s.heap.objs.size = some { cls := .type "list", data := .seq #[] } := Heap.get?_push_size _ rfl
  have hS₂ := Heap.get?_update_self (Obj.mapSeq (fun _ => (#[] : Array Value))) hS rfl
  have hS₃ := Heap.get?_update_self (Obj.mapSeq (· ++ items)) hS₂ rfl
  refine ⟨⟨_, hS, rfl⟩, PySem.F.args_list_init_2 _ _, wpAny_list_init_seq (hsz := hsz) _ it (.inl rfl) hne hS (Heap.get?_push_of_some _ ho) hc hd ⟨rfl, hQ _ _ ?_ ?_ (fun b o' e => ?_) (by simpa [Obj.mapSeq] using hS₃)⟩⟩
  · rw [(Heap.SameBut.update ..).1, (Heap.SameBut.update ..).1, Heap.size_push]
  · rfl
  · have hb : b ≠ s.heap.objs.size := fun e' => Nat.lt_irrefl _ (e' ▸ Heap.lt_size e)
    exact (Heap.get?_update_other _ _ (Ne.symm hb)).trans ((Heap.get?_update_other _ _ (Ne.symm hb)).trans (Heap.get?_push_of_some _ e))
end

/-! the script's slice, and the list of it -/
structure Scr where
  scr : Nat
  a1 : Nat
structure ScrOk (F : Frame) (c : Scr) (X : Array Value) : Prop where
  al : F.al c.scr = false
  obj : F.h₀.IsList c.scr X
  fit : X.size ≤ sizeLine
structure SliOk (F : Frame) (c : Scr) (X : Array Value) : Prop where
  obj : F.h₀.IsList c.a1 (slicePick X none (some 10) none)
noncomputable def partsOk (vs : List Value) : Bool := match vs with
  | [.none, .int (.ofNat n) _, .none] => Nat.beq n 10
  | _ => false
noncomputable def slOk (o : Obj) : Bool := match o.cls, o.data with
  | .type nm, .fields vs => nm == "slice" && partsOk vs.toList
  | _, _ => false
noncomputable def sliceOpR (c : Scr) (o i : Value) : R Value := match o, i with
  | .ref a, .ref sl => fun p T m b i => match T.get sl with
    | some so => bif slOk so && (Nat.beq a c.scr && Nat.beq m c.a1) then (fTA (T.put none m) fun T' => .ok (.ref m) none T' (Nat.succ m) b i) else .stuck 160
    | none => .stuck 161
  | _, _ => no 162
noncomputable def listOpR (c : Scr) (P : Pin) (g v : Value) : R Value := match g, v with
  | .type nm, .ref a => fun p T m b i => bif nm == "list" && (Nat.beq a c.a1 && Nat.beq m P.L) then (fTA (T.put none m) fun T' => .ok (.ref m) none T' (Nat.succ m) b i) else .stuck 163
  | _, _ => no 164
section
variable {pg : Program} {w : World} {F : Frame} {go : Ar → Code → Run} {A : Ar} {c₀ : Code} {α β : Type} {P : Pin} {f : Fn} {c : Scr} {X : Array Value}
theorem slOk_slice {o : Obj} (h : slOk o = true) : o.cls = .type "slice" ∧ ∃ t, o.data = .fields #[.none, .int 10 t, .none] := by
  unfold slOk at h
  split at h
  · rename_i nm vs hc hd
    rw [Bool.and_eq_true] at h
    have h1 := eq_of_beq h.1
    subst h1
    refine ⟨hc, ?_⟩
    have h2 := h.2
    unfold partsOk at h2
    split at h2
    · rename_i n t hv
      have := Nat.eq_of_beq_eq_true h2
      subst this
      refine ⟨t, ?_⟩
      rw [hd]
      congr 1
      exact Array.toList_inj.mp hv
    · cases h2
  · cases h
/-- the states in which the slice is laid -/
noncomputable def SliS (F : Frame) (c : Scr) (X : Array Value) (F' : Frame) : Prop := Later F F' ∧ SliOk F' c X
noncomputable def PinS (F : Frame) (P : Pin) (F' : Frame) : Prop := Later F F' ∧ PinOk F' P
abbrev RdP (F : Frame) (P : Pin) : Reads := fun s T m b i => ∃ F', PinS F P F' ∧ Rep F' s T m b i
abbrev RdS (F : Frame) (c : Scr) (X : Array Value) : Reads := fun s T m b i => ∃ F', SliS F c X F' ∧ Rep F' s T m b i
theorem sndG_sliceOp (H : ScrOk F c X) (up : PySem.Expr) (slp : Pos) (o i : Value) :
    SndG (model pg w) A c₀ (Rep F) (RdS F c X) (getitemInPython o >>= fun p => subscripted (.Slice none (some up) none slp) p o i) (sliceOpR c o i) := by
  intro p T m b i' q s K D Γ hΓ Q E hp
  unfold sliceOpR at hp
  split at hp
  · rename_i a sl
    split at hp
    · rename_i so hso
      cases hc : (slOk so && (Nat.beq a c.scr && Nat.beq m c.a1)) with
      | false => rw [hc] at hp; exact hp.elim
      | true =>
        rw [hc] at hp
        rw [Bool.and_eq_true, Bool.and_eq_true] at hc
        obtain ⟨hs, ha, hm⟩ := hc
        have ha := Nat.eq_of_beq_eq_true ha
        have hm := Nat.eq_of_beq_eq_true hm
        subst ha
        rw [cond_true, fTA_eq] at hp
        have hp : ∀ q s, PosOk none q → (∃ F', SliS F c X F' ∧ Rep F' s (T.put none m) (Nat.succ m) b i') → Q (.ref m) q s := hp
        obtain ⟨hcls, t, hdat⟩ := slOk_slice hs
        have hl : s.heap.IsList c.scr X := by
          obtain ⟨o, ho, h2⟩ := H.obj
          exact ⟨o, D.keep _ _ H.al ho, h2⟩
        have hsl : s.heap.IsSliceOf sl .none (.int 10 t) .none := ⟨so, D.get _ _ hso, hcls, hdat⟩
        have hq : ∀ q', Q (.ref s.heap.objs.size) q' { s with heap := s.heap.push { cls := .type "list", data := .seq (slicePick X none (some 10) none) } } := by
          intro q'
          rw [D.size]
          have D' := D.one (h' := s.heap.push { cls := .type "list", data := .seq (slicePick X none (some 10) none) }) (by rw [Heap.size_push]) (fun _ _ e => Heap.get?_push_of_some _ e) rfl
          refine hp q' _ (posOk_none q') ⟨_, ⟨D'.later, ⟨?_⟩⟩, D'.now.blank m⟩
          refine ⟨{ cls := .type "list", data := .seq (slicePick X none (some 10) none) }, ?_, rfl, _, rfl⟩
          show Heap.get? _ c.a1 = _
          rw [← hm, ← D.size]
          exact Heap.get?_push_size _ rfl
        have h1 : wpAny (model pg w) (around Γ) (subscriptTail (.Name Str.empty slp) (.Slice none (some up) none slp) (.ref c.scr) (.ref sl)) (fun v s' => ∀ q', Q v q' s') (fun _ _ => False) s :=
          subscriptTail_ops (ops := [.ref sl, .ref c.scr]) hl.typeIs list_getitem_lookup (wpAny_getItem_list_slice hl hsl .none (.int 10 t) .none (by simp) hq H.fit) (by with_unfolding_all rfl) (by intro _; with_unfolding_all rfl)
        have h2 : Sem.wp (model pg w) Γ ((getitemInPython (.ref c.scr)).bind fun p => (subscripted (.Slice none (some up) none slp) p (.ref c.scr) (.ref sl)).bind fun r => Sem.pure r) _ _ q s := h1 Γ q (in_around Γ)
        show Sem.wp (model pg w) Γ ((getitemInPython (.ref c.scr)).bind fun p => subscripted (.Slice none (some up) none slp) p (.ref c.scr) (.ref sl)) _ _ q s
        rw [Sem.wp_bind] at h2 ⊢
        refine Sem.wp_mono _ _ _ (fun a p s h' => ?_) (fun e p s h' => h'.elim) _ _ h2
        rw [Sem.wp_bind] at h'
        exact Sem.wp_mono _ _ _ (fun a p s h' => h' p) (fun e p s h' => h'.elim) _ _ h'
    · exact hp.elim
  · exact hp.elim
theorem sndG_listOp (hal : F.al c.a1 = false) (fit : (slicePick X none (some 10) none).size ≤ sizeLine) (hP : ∀ F', F'.al = F.al → F'.h₀.IsList P.L (slicePick X none (some 10) none) → PinOk F' P) (g v : Value) :
    SndG (model pg w) A c₀ (RdS F c X) (RdP F P) (call g [v] []) (listOpR c P g v) := by
  intro p T m b i' q s K ⟨F', ⟨hl, ho⟩, D⟩ Γ hΓ Q E hp
  unfold listOpR at hp
  split at hp
  · rename_i nm a
    cases hc : (nm == "list" && (Nat.beq a c.a1 && Nat.beq m P.L)) with
    | false => rw [hc] at hp; exact hp.elim
    | true =>
      rw [hc] at hp
      rw [Bool.and_eq_true, Bool.and_eq_true] at hc
      obtain ⟨hs, ha, hm⟩ := hc
      have hs := eq_of_beq hs
      have ha := Nat.eq_of_beq_eq_true ha
      have hm := Nat.eq_of_beq_eq_true hm
      subst hs ha
      rw [cond_true, fTA_eq] at hp
      have hp : ∀ q s, PosOk none q → (∃ F', PinS F P F' ∧ Rep F' s (T.put none m) (Nat.succ m) b i') → Q (.ref m) q s := hp
      have hli : s.heap.IsList c.a1 (slicePick X none (some 10) none) := by
        obtain ⟨o, ho, h2⟩ := ho.obj
        exact ⟨o, D.keep _ _ (by rw [hl.al]; exact hal) ho, h2⟩
      refine of_any (Q' := fun v s' => ∀ q', Q v q' s') (call_list_one c.a1 hli (fun h' c' e1 e2 e3 e4 q' => ?_) fit) fun _ _ x => x
      rw [D.size]
      have D' := D.one (h' := h') e1 e3 e2
      refine hp q' _ (posOk_none q') ⟨_, ⟨hl.trans D'.later, hP _ hl.al ?_⟩, D'.now.blank m⟩
      refine ⟨{ cls := .type "list", data := .seq (slicePick X none (some 10) none) c' }, ?_, rfl, _, rfl⟩
      show Heap.get? _ P.L = _
      rw [← hm, ← D.size]
      exact e4
  · exact hp.elim
end

section
variable (al : Nat → Bool) (set : Setting) (A : Ar) (c₀ : Code) (c : Scr) (P : Pin) (f : Fn) (env : Env)
noncomputable def go1 (al : Nat → Bool) (set : Setting) : Ar → Code → Run := evR mac1 al set 1000000
noncomputable def go2 (al : Nat → Bool) (set : Setting) (P : Pin) : Ar → Code → Run := evR (macT al set P) al set 1000000
noncomputable def f2 : Fn := fnsH al set (go2 al set P) A c₀ P 10000
noncomputable def subR (sn sl : PySem.Expr) (spos : Pos) : R Value :=
  bd (f.E env sn) fun o => bd (f.E env sl) fun i => bd (stand spos) fun _ => bd (sliceOpR c o i) fun r => bd (leaf al set (go1 al set) A c₀ (letTemporaryGo sn o r)) fun _ => pu r
noncomputable def lcallR (ln sn sl : PySem.Expr) (spos cpos : Pos) : R Value := bd (f.E env ln) fun fv => match fv with
  | .type nm => bd (subR al set A c₀ c f env sn sl spos) fun v => bd (stand cpos) fun _ => bd (listOpR c P (.type nm) v) fun r => pu r
  | _ => no 165
noncomputable def lvalR (ln sn sl c0 : PySem.Expr) (spos cpos lpos : Pos) : R Value :=
  bd (stand lpos) fun _ => bd (bd (lcallR al set A c₀ c P f env ln sn sl spos cpos) fun v => bd (es (f2 al set A c₀ P) env [c0]) fun r => pu (v :: r)) fun vs => leaf al set (go2 al set P) A c₀ (newList vs)
noncomputable def s1R (t ln sn sl c0 : PySem.Expr) (spos cpos lpos apos : Pos) : R Flow :=
  bd (stand apos) fun _ => bd (leaf al set (go1 al set) A c₀ (swapsWithSole [t] (.List [.Call ln [.Subscript sn sl spos] [] cpos, c0] lpos) apos.line env)) fun b => Bool.rec (motive := fun _ => R Flow)
    (bd (lvalR al set A c₀ c P f env ln sn sl c0 spos cpos lpos) fun v => bd (leaf al set (go2 al set P) A c₀ (swappedStores [t] (.List [.Call ln [.Subscript sn sl spos] [] cpos, c0] lpos) env)) fun sw =>
      Option.rec (motive := fun _ => R Flow) (bd ((f2 al set A c₀ P).As env t v) fun _ => pu .next) (fun _ => no 166) sw) (no 167) b
noncomputable def lawR (t ln sn sl c0 : PySem.Expr) (spos cpos lpos apos : Pos) (rest : List Stmt) : R PySem.Fin :=
  bd (calm (calm (bd (s1R al set A c₀ c P f env t ln sn sl c0 spos cpos lpos apos) fun fl => Flow.rec (motive := fun _ => R Flow) (ss (f2 al set A c₀ P) env rest) (pu .brk) (pu .cont) (fun v => pu (.ret v)) fl))) fun fl => pu (.done (.ret (backOf fl)))
noncomputable def macP (al : Nat → Bool) (set : Setting) (c : Scr) (P : Pin) (go : Ar → Code → Run) (A : Ar) (cd : Code) (d : Run) (env : Env) (x : LawParts) : Run :=
  Bool.rec (motive := fun _ => Run) d (finR go A (lawR al set A cd c P (fns al set go A cd 10000) env (.Name x.bx x.bp) (.Name x.ln x.lnp) (.Name x.sn x.snp) (.Slice none (some x.up) none x.slp) x.c0 x.spos x.cpos x.lpos x.apos x.rest)) (notStar x.c0)
noncomputable def macF (al : Nat → Bool) (set : Setting) (c : Scr) (P : Pin) (go : Ar → Code → Run) (A : Ar) (cd : Code) (d : Run) (body : List Stmt) (env : Env) : Run :=
  Option.rec (motive := fun _ => Run) d (macP al set c P go A cd d env) (viewLaw body)
noncomputable def macL (al : Nat → Bool) (set : Setting) (c : Scr) (P : Pin) (go : Ar → Code → Run) (A : Ar) (cd : Code) (d : Run) : Run :=
  Code.rec (motive := fun _ => Run) (fun _ _ => d) (fun _ _ => d) (fun _ _ => d) (fun _ _ => d) (fun _ _ _ => d) (fun _ _ _ _ _ => d) (macF al set c P go A cd d) (fun _ _ => d) (fun _ _ _ _ => d) (fun _ _ _ _ _ => d) (fun _ _ _ _ _ => d) (fun _ _ _ _ _ => d) (fun _ _ _ _ _ => d) cd
end
section
variable {pg : Program} {w : World} {F : Frame} {go : Ar → Code → Run} {A : Ar} {c₀ : Code} {α β : Type} {P : Pin} {f : Fn} {c : Scr} {X : Array Value}
theorem snd_of_sndG {J : Reads} {t : Sem α} {x : R α} (h : SndG (model pg w) A c₀ (Rep F) J t x) (hJ : ∀ s T m b i, J s T m b i → Rep F s T m b i) : Snd (model pg w) F A c₀ t (calm x) := by
  intro p T m b i q s K D Γ hΓ Q E hp
  refine h p T m b i q s K D Γ hΓ Q E ?_
  unfold calm at hp
  cases z : x p T m b i with
  | ok a p' T' m' b' i' => rw [z] at hp; exact fun q' s' K' D' => hp q' s' K' (hJ _ _ _ _ _ D')
  | err e p' T' m' b' i' => rw [z] at hp; exact hp.elim
  | stuck n => rw [z] at hp; exact hp.elim
theorem sndG_call1 {I J : Reads} {nm : String} {cR : Value → R Value} {x : R Value} {env : Env} {e : PySem.Expr} {I' : Reads} (pos : Pos) (he : notStar e = true) (hx : SndG (model pg w) A c₀ I I' (eval e env) x) (hc : ∀ v, SndG (model pg w) A c₀ I' J (call (.type nm) [v] []) (cR v)) :
    SndG (model pg w) A c₀ I J (callWith pos (.type nm) [] (starEach [e] env) []) (bd x fun v => bd (stand pos) fun _ => bd (cR v) fun r => pu r) := by
  have ha : [e].all notStar = true := by simpa using he
  unfold callWith
  rw [any_star env [e] ha, len_star env [e] ha]
  refine sndG_map (J := I') (h := fun v => Args.mk [v] []) (sndG_hold _ ?_) fun v => ?_
  · rw [starEach_cons _ _ _ he]
    have h1 : SndG (model pg w) A c₀ I I' (spliced ((false, eval e env) :: starEach [] env)) (bd x fun v => bd (pu ([] : List Value)) fun r => pu (v :: r)) := sndG_bd hx fun v => sndG_pureB _ (sndG_bd (sndG_hold _ (sndG_pure ([] : List Value))) fun r => sndG_pure _)
    have h2 : SndG (model pg w) A c₀ I I' (evalArgs (.type nm) true ((false, eval e env) :: starEach [] env) []) (bd (bd x fun v => bd (pu ([] : List Value)) fun r => pu (v :: r)) fun r => pu (Args.mk r [])) :=
      sndG_bd (t := spliced ((false, eval e env) :: starEach [] env)) h1 fun r => sndG_hold (r ++ []) (sndG_pure (Args.mk r []))
    rw [bd_assoc] at h2
    exact h2
  · refine sndG_bd (sndG_stand _) fun _ => sndG_pureB _ ?_
    exact sndG_bd (hc v) sndG_done
theorem sndG_lcall (H : ScrOk F c X) (hal : F.al c.a1 = false) (fit : (slicePick X none (some 10) none).size ≤ sizeLine) (hP : ∀ F', F'.al = F.al → F'.h₀.IsList P.L (slicePick X none (some 10) none) → PinOk F' P)
    (Hf : FnOk (model pg w) F A c₀ f) (env : Env) (ln sn : Str) (lnp snp slp spos cpos : Pos) (up : PySem.Expr) :
    SndG (model pg w) A c₀ (Rep F) (RdP F P) (eval (.Call (.Name ln lnp) [.Subscript (.Name sn snp) (.Slice none (some up) none slp) spos] [] cpos) env)
      (lcallR F.al ⟨pg, w.params⟩ A c₀ c P f env (.Name ln lnp) (.Name sn snp) (.Slice none (some up) none slp) spos cpos) := by
  refine sndG_bd (sndG_of (Hf.E env _)) fun fv => ?_
  cases fv with
  | type nm =>
    show SndG (model pg w) A c₀ _ _ (callWith cpos (.type nm) [] (backTo cpos (starEach [.Subscript (.Name sn snp) (.Slice none (some up) none slp) spos] env)) []) _
    rw [backTo_plain cpos _ (starEach_false env _ rfl)]
    refine sndG_call1 (I' := RdS F c X) cpos rfl ?_ (fun v => sndG_listOp hal fit hP _ v)
    refine sndG_bd (sndG_of (Hf.E env _)) fun o => sndG_bd (sndG_hold _ (sndG_of (Hf.E env _))) fun i => sndG_bd (sndG_stand _) fun _ => sndG_unassoc (sndG_bd (sndG_sliceOp H up slp o i) fun r => ?_)
    exact sndG_bd (sndG_ex fun F' hF' => by
      have := snd_leaf (M := (model pg w)) (F := F') (A := A) (c₀ := c₀) (evR_sound (F := F') (mac1_ok _ _) 1000000) (letTemporaryGo (.Name sn snp) o r)
      rw [hF'.1.al] at this
      exact this) fun _ => sndG_pure _
  | _ => exact sndG_no _ _
theorem sndG_law (H : ScrOk F c X) (hal : F.al c.a1 = false) (fit : (slicePick X none (some 10) none).size ≤ sizeLine) (hP : ∀ F', F'.al = F.al → F'.h₀.IsList P.L (slicePick X none (some 10) none) → PinOk F' P)
    (Hf : FnOk (model pg w) F A c₀ f) (env : Env) (bx ln sn : Str) (bp lnp snp slp spos cpos lpos apos : Pos) (up c0 : PySem.Expr) (h0 : notStar c0 = true) (rest : List Stmt) :
    SndG (model pg w) A c₀ (Rep F) (RdP F P)
      (execs (.Assign [.Name bx bp] (.List [.Call (.Name ln lnp) [.Subscript (.Name sn snp) (.Slice none (some up) none slp) spos] [] cpos, c0] lpos) apos :: rest) env)
      (bd (s1R F.al ⟨pg, w.params⟩ A c₀ c P f env (.Name bx bp) (.Name ln lnp) (.Name sn snp) (.Slice none (some up) none slp) c0 spos cpos lpos apos) fun fl =>
        Flow.rec (motive := fun _ => R Flow) (ss (f2 F.al ⟨pg, w.params⟩ A c₀ P) env rest) (pu .brk) (pu .cont) (fun v => pu (.ret v)) fl) := by
  have G2 : ∀ F', PinS F P F' → Sound (model pg w) F' (go2 F.al ⟨pg, w.params⟩ P) := by
    intro F' hF'
    have := evR_sound (F := F') (macT_ok (pg := pg) (w := w) hF'.2) 1000000
    rw [hF'.1.al] at this
    exact this
  have G2f : ∀ F', PinS F P F' → FnOk (model pg w) F' A c₀ (f2 F.al ⟨pg, w.params⟩ A c₀ P) := by
    intro F' hF'
    have G3 := G2 F' hF'
    rw [← hF'.1.al] at G3
    have := fnsH_ok (A := A) (c₀ := c₀) hF'.2 G3 10000
    rw [hF'.1.al] at this
    exact this
  have G2l : ∀ {γ : Type} (t : Sem γ), SndG (model pg w) A c₀ (RdP F P) (RdP F P) t (leaf F.al ⟨pg, w.params⟩ (go2 F.al ⟨pg, w.params⟩ P) A c₀ t) := by
    intro γ t
    refine sndG_ex fun F' hF' => ?_
    have := snd_leaf (A := A) (c₀ := c₀) (G2 F' hF') t
    rw [hF'.1.al] at this
    exact this
  refine sndG_bd (J := RdP F P) ?_ fun fl => ?_
  · refine sndG_bd (sndG_stand _) fun _ => sndG_bd (sndG_of (snd_leaf (evR_sound (F := F) (mac1_ok _ _) 1000000) _)) fun b => ?_
    cases b with
    | true => exact sndG_no _ _
    | false =>
      refine sndG_bd (J := RdP F P) ?_ fun v => sndG_bd (J := RdP F P) (G2l _) fun sw => ?_
      · show SndG (model pg w) A c₀ _ _ (standAt lpos >>= fun _ => spliced (backTo lpos (starEach [.Call (.Name ln lnp) [.Subscript (.Name sn snp) (.Slice none (some up) none slp) spos] [] cpos, c0] env)) >>= fun vs => newList vs) _
        rw [backTo_plain lpos _ (starEach_false env _ (by simpa using ⟨rfl, h0⟩))]
        refine sndG_bd (sndG_stand _) fun _ => sndG_bd (J := RdP F P) ?_ fun vs => G2l _
        rw [starEach_cons _ _ _ rfl]
        refine sndG_bd (sndG_lcall H hal fit hP Hf env ln sn lnp snp slp spos cpos up) fun v => sndG_pureB _ (sndG_bd (J := RdP F P) (sndG_hold _ ?_) fun r => sndG_pure _)
        exact sndG_ex fun F' hF' => snd_es (G2f F' hF') env [c0] (by simpa using h0)
      · cases sw with
        | some names => exact sndG_no _ _
        | none =>
          rw [assignEach_cons (.Name bx bp) [] env rfl]
          exact sndG_bd (sndG_ex fun F' hF' => (G2f F' hF').As env _ v) fun _ => sndG_pure _
  · cases fl with
    | next => exact sndG_ex fun F' hF' => snd_ss (G2f F' hF') env rest
    | _ => exact sndG_pure _
theorem macL_ok (H : ScrOk F c X) (hal : F.al c.a1 = false) (fit : (slicePick X none (some 10) none).size ≤ sizeLine) (hP : ∀ F', F'.al = F.al → F'.h₀.IsList P.L (slicePick X none (some 10) none) → PinOk F' P) :
    MacOk (model pg w) F (macL F.al ⟨pg, w.params⟩ c P) := by
  intro go A cd d G hd
  cases cd with
  | func body env =>
    show SoundAt (model pg w) F A _ (macF F.al ⟨pg, w.params⟩ c P go A (.func body env) d body env)
    unfold macF
    cases hv : viewLaw body with
    | none => exact hd
    | some x =>
      have hb := viewLaw_ok hv
      clear hv
      obtain ⟨bx, bp, ln, lnp, sn, snp, up, slp, spos, cpos, c0, lpos, apos, rest⟩ := x
      dsimp only at hb
      subst hb
      show SoundAt (model pg w) F A _ (macP F.al ⟨pg, w.params⟩ c P go A _ d env _)
      unfold macP
      dsimp only
      cases h0 : notStar c0 with
      | false => exact hd
      | true =>
        refine soundAt_fin G ?_
        unfold lawR
        refine snd_skip snd_point (snd_bd' (snd_calm _ (snd_of_sndG (sndG_law H hal fit hP (fns_ok G 10000) env bx ln sn bp lnp snp slp spos cpos lpos apos up c0 h0 rest) fun s T m b i ⟨F', hF', D⟩ => hF'.1.rep D)) fun fl => ?_)
        cases fl <;> exact snd_pure' _
  | _ => exact hd
end
end Mine
open PySem PySem.W PySem.Spec PySem.Calls PyProof.Rows PySem.SeqAt
set_option Elab.async false
set_option maxRecDepth 100000
namespace Mine
set_option genInjectivity false
set_option genSizeOf false
set_option maxHeartbeats 1000000
set_option linter.unusedVariables false

/-- a closed element at which a test says all that it says anywhere -/
theorem worst {α : Type} (x₀ : α) (p : α → Bool) : Nonempty { x : α // p x = true → ∀ y, p y = true } := by
  by_cases h : ∀ y, p y = true
  · exact ⟨⟨x₀, fun _ => h⟩⟩
  · obtain ⟨y, hy⟩ := Classical.not_forall.mp h
    exact ⟨⟨y, fun e => absurd e hy⟩⟩

noncomputable def putAll : List Obj → Nat → OT → OT :=
  List.rec (motive := fun _ => Nat → OT → OT) (fun _ T => T) (fun o _ ih i T => ih (Nat.succ i) (T.put (some o) i))
theorem putAll_get (P : Nat → Obj → Prop) : ∀ (l : List Obj) (i : Nat) (T : OT), (∀ a o, T.get a = some o → P a o) → (∀ k o, l[k]? = some o → P (i + k) o) → ∀ a o, (putAll l i T).get a = some o → P a o
  | [], i, T, h, _, a, o, e => h a o e
  | x :: l, i, T, h, hl, a, o, e => by
    refine putAll_get P l (Nat.succ i) (T.put (some x) i) (fun a' o' e' => ?_) (fun k o' e' => ?_) a o e
    · rcases OT.get_put _ _ _ _ _ e' with ⟨rfl, q⟩ | ⟨_, q⟩
      · have := hl 0 o' (by simpa using q)
        simpa using this
      · exact h a' o' q
    · have := hl (k + 1) o' (by simpa using e')
      rw [show Nat.succ i + k = i + (k + 1) by omega]
      exact this
abbrev prog : Program := PySem.Challenge.pw_pf0281_01
noncomputable def bootT (w : World) : OT := putAll (boot_heap w.params).objs.toList 0 .nil
theorem boot_size (w : World) : (boot_heap w.params).objs.size = 11 := rfl
theorem boot_alive (w : World) : (boot_heap w.params).objs.toList.all (fun o => !o.isFreed) = true := rfl
theorem get_of_alive {h : Heap} {a : Nat} {o : Obj} (e : h.objs[a]? = some o) (hf : o.isFreed = false) : h.get? a = some o := by
  unfold Heap.get?
  rw [e]
  obtain ⟨c, d, da, sl⟩ := o
  cases da <;> first | rfl | cases hf
theorem bootT_get (w : World) (a : Nat) (o : Obj) (e : (bootT w).get a = some o) : (boot_heap w.params).get? a = some o := by
  have := putAll_get (fun a o => (boot_heap w.params).objs.toList[a]? = some o) _ 0 .nil (fun a o h => by rw [OT.get_nil] at h; cases h) (fun k o h => by simpa using h) a o e
  have hm : o ∈ (boot_heap w.params).objs.toList := List.mem_of_getElem? this
  have hal := List.all_eq_true.mp (boot_alive w) o hm
  refine get_of_alive ?_ (by simpa using hal)
  rw [← Array.getElem?_toList]
  exact this
noncomputable def callerC : Code := .builtin "claim.caller" {}
noncomputable def ar0 : Ar := ⟨none, []⟩
noncomputable abbrev ctx0 : PySem.Ctx := ⟨callerC, none, none, [], none⟩
theorem at0 : At ar0 callerC ctx0 := ⟨rfl, rfl, trivial⟩
noncomputable def topAl (a : Nat) : Bool := Nat.ble 11 a || (Nat.beq a 3 || Nat.beq a 2)
noncomputable def topAns (w : World) : Ans PySem.Fin :=
  leaf topAl ⟨prog, w.params⟩ (evR mac1 topAl ⟨prog, w.params⟩ 1000000000) ar0 callerC (topStub prog).cur (some default) (bootT w) 11 boot_toks 0
noncomputable def topF (os : OsState) (h : Heap) : Frame := ⟨topAl, h, #[], boot_drawn, os⟩
noncomputable def isDone : PySem.Fin → Bool
  | .done _ => true
  | _ => false

/-- runs that end are seen by the scheduler -/
theorem runs_to {w : World} {t : Sem PySem.Fin} {s : Shared} {R : Result → Shared → Prop} (hz : s.asleep)
    (h : Sem.wp (model prog w) ctx0 t (fun fin _ s' => ∃ f, fin = .done f ∧ R (.ok f) s' ∧ s'.gens = #[]) (fun _ _ _ => False) default s) :
    ∃ n t' s', schedN (denote table) prog w n (.single s ⟨t, callerC, default, []⟩) = .running (.single s' t') ∧ through t' = true ∧ ∃ f, R (.ok f) s' := by
  have hh : Sem.wp (model prog w) ctx0 t (Sem.finPost (model prog w) ctx0 fun r s' => (R r s') ∧ leftWithCleanup s'.gens = false) (fun e _ s' => R (.error e) s' ∧ leftWithCleanup s'.gens = false) default s := by
    refine Sem.wp_mono _ _ _ (fun fin p s' x => ?_) (fun _ _ _ x => x.elim) _ _ h
    obtain ⟨f, rfl, hr, hg⟩ := x
    exact ⟨hr, by rw [hg]; simp [leftWithCleanup]⟩
  obtain ⟨n₁, r, s₁, hn₁, _⟩ := (wp_iff_halts t R default s).mp hh
  have ho := outcomeOf_ends r
  obtain ⟨s₂, hr₂, _, hc⟩ := runNI_real _ _ _ hn₁ ho
  have hr₂ : runN (denote table) prog w n₁ s ⟨t, callerC, default, []⟩ = .halted (outcomeOf r) s₂ := hr₂
  have hne : ∀ k s₃, runN (denote table) prog w k s ⟨t, callerC, default, []⟩ ≠ .halted (.unsupported "lifetime:generator-with-cleanup-left-suspended") s₃ := by
    intro k s₃ hk
    have a := runN_mono _ _ _ n₁ k s _ _ s₂ hr₂
    have b := runN_mono _ _ _ k n₁ s _ _ s₃ hk
    rw [Nat.add_comm, b] at a
    injection a with a1 _
    rw [← a1] at ho
    exact absurd ho (by simp [Outcome.ends])
  obtain ⟨n, s', σ, p', lf, hr, hf, hl, _⟩ := wp_reaches_first (M := model prog w) (c := callerC) h
  rcases hl with ⟨a, rfl, f, rfl, hR, hg⟩ | ⟨e, _, q⟩
  · obtain rfl := Shared.eq_of_forget_eq hf hg
    refine ⟨n, _, σ, (schedN_eq_runN _ _ _ s _ hz ⟨hc, hne⟩ n).trans (congrArg Run.lift hr), rfl, f, hR⟩
  · exact q.elim

/-! what the first eleven places say -/
noncomputable def noObj : Obj := { cls := .none, data := .freed }
noncomputable def mini (T : OT) : Heap := { objs := ((List.range 11).map fun a => (T.get a).getD noObj).toArray }
theorem alive_of_get {h : Heap} {a : Nat} {o : Obj} (e : h.get? a = some o) : o.isFreed = false := by
  unfold Heap.get? at e
  split at e
  · cases e
  · rename_i x hx
    obtain ⟨c, d, da, sl⟩ := o
    cases da <;> first | rfl | exact absurd e (by intro q; exact hx _ _ _ (by rw [q]))
theorem mini_same {F : Frame} {s : Shared} {T : OT} {m b i : Nat} (D : Rep F s T m b i) {a : Nat} (ha : a < 11) (hk : (T.get a).isSome = true) : s.heap.get? a = (mini T).get? a := by
  obtain ⟨o, e⟩ := Option.isSome_iff_exists.mp hk
  have h1 := D.get a o e
  rw [h1]
  refine (get_of_alive ?_ (alive_of_get h1)).symm
  unfold mini
  simp [ha, e]
noncomputable def lawName : Str := Str.ofString "law"
noncomputable def bmOk (T : OT) : Bool := match globalOf (mini T) "__builtins__" with
  | some (.ref bm) => match T.get bm with
    | some o => decide (o.cls = .type "module") && decide (o.dict = some builtinsNs)
    | none => false
  | _ => false
noncomputable def defOk (T : OT) : Bool := match globalOf (mini T) lawName with
  | some (.ref a) => Nat.beq a 1050
  | _ => false
noncomputable def codeOk (o : Obj) : Bool := decide (o.cls = .type "code") && match o.data with
  | .fields vs => decide (vs[11]? = some (.ref 1033))
  | _ => false
noncomputable def tabIs (T : OT) : Bool := (List.range 1051).any fun c => match T.get c with
  | some o => codeOk o
  | none => false
noncomputable def headOk (w : World) (T : OT) : Bool :=
  ((T.get 0).isSome && ((T.get 2).isSome && (T.get 3).isSome)) && (((mini T).accountedOkI [] && staticsOk [] (boot_heap w.params) (mini T)) && (((mini T).isNs mainGlobals && (mini T).isNs builtinsNs) &&
    ((decide ((mini T).bltView = bltViewBooted) && namesBound prog (mini T)) && ((laidKept (boot_heap w.params) (mini T) && bmOk T) && (defOk T && tabIs T)))))
noncomputable def topOk (w : World) : Bool := Ans.rec (motive := fun _ => Bool) (fun fin _ T m _ _ => isDone fin && (Nat.beq m 1051 && headOk w T)) (fun _ _ _ _ _ _ => false) (fun _ => false) (topAns w)
theorem mods_nil : importedModules prog.main.body = [] := rfl
theorem isDone_ok {fin : PySem.Fin} (h : isDone fin = true) : ∃ f, fin = .done f := by
  cases fin with
  | done f => exact ⟨f, rfl⟩
  | again c => cases h
theorem head {w : World} (h : topOk w = true) {s₀ : Shared} (e1 : s₀.heap = boot_heap w.params) (e2 : s₀.gens = #[]) (e3 : s₀.drawn = boot_drawn) (e4 : s₀.toks = boot_toks) (hz : s₀.asleep) :
    ∃ s₁ fin p T b i, topAns w = .ok fin p T 1051 b i ∧ TopRan prog w s₀ s₁ ∧ Rep (topF s₀.os s₀.heap) s₁ T 1051 b i ∧ globalOf s₁.heap lawName = some (.ref 1050) ∧ isCodeTable s₁.heap 1033 ∧ s₁.asleep := by
  unfold topOk at h
  cases z : topAns w with
  | err e p T m b i => rw [z] at h; cases h
  | stuck n => rw [z] at h; cases h
  | ok fin p T m b i =>
    rw [z] at h
    dsimp only at h
    rw [Bool.and_eq_true, Bool.and_eq_true] at h
    obtain ⟨hd, hm, hh⟩ := h
    obtain ⟨f, rfl⟩ := isDone_ok hd
    have hm := Nat.eq_of_beq_eq_true hm
    subst hm
    have D0 : Rep (topF s₀.os s₀.heap) s₀ (bootT w) 11 boot_toks 0 :=
      ⟨by rw [e1]; rfl, fun a o e => by rw [e1]; exact bootT_get w a o e, e4, fun _ _ _ e => e, fun a o e => ⟨o, e⟩, by show s₀.heap.objs.size ≤ 11; rw [e1]; exact Nat.le_refl _, rfl, e2, e3, rfl⟩
    have S := snd_leaf (M := model prog w) (F := topF s₀.os s₀.heap) (A := ar0) (c₀ := callerC) (evR_sound (F := topF s₀.os s₀.heap) (mac1_ok _ _) 1000000000) (topStub prog).cur
    have hw := S (some default) (bootT w) 11 boot_toks 0 default s₀ (posOk_some _) D0 ctx0 at0 (fun fin _ s' => ∃ f, fin = .done f ∧ Rep (topF s₀.os s₀.heap) s' T 1051 b i ∧ s'.gens = #[]) (fun _ _ _ => False) (by
      show Pays _ _ _ (topAns w)
      rw [z]
      exact fun q s _ D => ⟨f, rfl, D, D.gens⟩)
    obtain ⟨n, t', s₁, hs, ht, _, D⟩ := runs_to (R := fun _ s' => Rep (topF s₀.os s₀.heap) s' T 1051 b i) hz hw
    unfold headOk at hh
    simp only [Bool.and_eq_true] at hh
    obtain ⟨⟨k0, k2, k3⟩, ⟨ka, ks⟩, ⟨kg, kb⟩, ⟨kv, kn⟩, ⟨kl, km⟩, kd, kt⟩ := hh
    have g0 : s₁.heap.get? builtinsNs = (mini T).get? builtinsNs := mini_same D (by decide) k0
    have g2 : s₁.heap.get? cStatics = (mini T).get? cStatics := mini_same D (by decide) k2
    have g3 : s₁.heap.get? mainNs = (mini T).get? mainNs := mini_same D (by decide) k3
    have hst : ∀ key, staticOf s₁.heap key = staticOf (mini T) key := fun key => by unfold staticOf; rw [g2]
    have hgl : ∀ key, globalOf s₁.heap key = globalOf (mini T) key := fun key => by unfold globalOf; rw [g3]
    have hg : s₁.heap.isNs mainGlobals = true := by
      rw [← kg]
      show Heap.isNs _ mainNs = Heap.isNs _ mainNs
      unfold Heap.isNs
      rw [g3]
    have hb : s₁.heap.isNs builtinsNs = true := by
      rw [← kb]
      unfold Heap.isNs
      rw [g0]
    have hv : s₁.heap.bltView = bltViewBooted := by
      rw [← of_decide_eq_true kv]
      unfold Heap.bltView Heap.nsPairs
      rw [g0]
    have hdef : globalOf s₁.heap lawName = some (.ref 1050) := by
      unfold defOk at kd
      rw [hgl]
      cases hx : globalOf (mini T) lawName with
      | none => rw [hx] at kd; cases kd
      | some v =>
        rw [hx] at kd
        cases v with
        | ref a => rw [Nat.eq_of_beq_eq_true kd]
        | _ => cases kd
    have hcode : isCodeTable s₁.heap 1033 := by
      unfold tabIs at kt
      obtain ⟨c, _, hc⟩ := List.any_eq_true.mp kt
      split at hc
      · rename_i o ho
        unfold codeOk at hc
        rw [Bool.and_eq_true] at hc
        obtain ⟨c1, c2⟩ := hc
        split at c2
        · rename_i vs hvs
          exact ⟨c, o, vs, D.get _ _ ho, of_decide_eq_true c1, hvs, of_decide_eq_true c2⟩
        · cases c2
      · cases hc
    have hlife : s₁.heap.life = s₀.heap.life := D.life
    refine ⟨s₁, _, p, T, b, i, rfl, ⟨⟨n, t', hs, ht⟩, hlife, Shared.rest_eq D.os, fun a o ha hn => ?_, ?_, ?_, Pin.keysAreStrs_of hg, fun x hx => (Pin.builtinOf_eq hb x).trans (Heap.of_bltView hb hv x hx), ?_, fun g hg' => ?_, fun x v hx => ?_, fun x hx => ?_⟩, D, hdef, hcode, Shared.asleep_of_life hlife hz⟩
    · cases hal : topAl a with
      | false => exact D.keep a o hal ha
      | true =>
        exfalso
        have hlt : a < 11 := by have := Heap.lt_size ha; rw [e1] at this; exact this
        unfold topAl at hal
        simp only [Bool.or_eq_true] at hal
        rcases hal with q | q | q
        · exact absurd (Nat.le_of_ble_eq_true q) (Nat.not_le.mpr hlt)
        · have := Nat.eq_of_beq_eq_true q; subst this; exact hn (.inl rfl)
        · have := Nat.eq_of_beq_eq_true q; subst this; exact hn (.inr (.inl rfl))
    · rw [mods_nil]
      have := Heap.accountedI_of_ok ka
      unfold staticsAccountedI at this ⊢
      simp only [hst]
      exact this
    · rw [mods_nil]
      have := statics_of_ok ks
      unfold staticsBehindTheTop at this ⊢
      simp only [hst]
      rw [e1]
      exact this
    · unfold bmOk at km
      split at km
      · rename_i bm hbm
        split at km
        · rename_i o ho
          rw [Bool.and_eq_true] at km
          exact ⟨bm, o, (hgl _).trans hbm, D.get _ _ ho, of_decide_eq_true km.1, of_decide_eq_true km.2⟩
        · cases km
      · cases km
    · rw [show s₁.gens = #[] from D.gens] at hg'
      simp at hg'
    · rw [hgl] at hx
      exact names_of_bound kn x v hx
    · rw [hgl, e1]
      exact laid_of_kept kl x hx
end Mine
open PySem PySem.W PySem.Spec PySem.Calls PyProof.Rows
set_option Elab.async false
set_option maxRecDepth 100000
namespace Mine
set_option genInjectivity false
set_option genSizeOf false
set_option maxHeartbeats 1000000
set_option linter.unusedVariables false
/-! the objects of the top that the call of the law looks at (printed by a program of mine from a run of the top); the texts of the defs are named by their place -/
noncomputable def stAt (l : List Stmt) (i : Nat) : Stmt := l.getD i (.Pass default)
noncomputable def clsBody : Stmt → List Stmt
  | .ClassDef _ _ _ b .. => b
  | _ => []
noncomputable def dArgs : Stmt → Arguments
  | .FunctionDef _ a .. => a
  | _ => default
noncomputable def dBody : Stmt → List Stmt
  | .FunctionDef _ _ b .. => b
  | _ => []
noncomputable def dScope : Stmt → Scope
  | .FunctionDef _ _ _ _ _ _ s .. => s
  | _ => default
noncomputable def tp (i : Nat) : Stmt := stAt prog.main.body i
noncomputable def mt (i j : Nat) : Stmt := stAt (clsBody (tp i)) j
noncomputable def fo (c : Value) (dd : Option Addr) (sl : Array (Option Value)) (nm qn : Str) (st : Stmt) (gl : Addr) (cl : List (Str × Addr)) (df kd doc pm : Value) (an : Option Addr) (cd ct : Value) (bi : Addr) : Obj :=
  ⟨c, dd, .func ⟨nm, qn, dArgs st, .stmts (dBody st), dScope st, gl, cl, df, kd, doc, pm, an, cd, ct, bi⟩, sl⟩
noncomputable def o0 (P : Params) : Obj := boot_o_0 P
noncomputable def o2 (P : Params) : Obj := (@Obj.mk Value.none none (@Data.dict (Array.mk [⟨(@PySem.PyData.keyHash P (Str.mk (Array.mk [nat_lit 116, nat_lit 121, nat_lit 112, nat_lit 101, nat_lit 46, nat_lit 95, nat_lit 95, nat_lit 115, nat_lit 117, nat_lit 98, nat_lit 99, nat_lit 108, nat_lit 97, nat_lit 115, nat_lit 115, nat_lit 101, nat_lit 115, nat_lit 95, nat_lit 95, nat_lit 46, nat_lit 69, nat_lit 120, nat_lit 99, nat_lit 101, nat_lit 112, nat_lit 116, nat_lit 105, nat_lit 111, nat_lit 110, nat_lit 46, nat_lit 48]))), .str (Str.mk (Array.mk [nat_lit 116, nat_lit 121, nat_lit 112, nat_lit 101, nat_lit 46, nat_lit 95, nat_lit 95, nat_lit 115, nat_lit 117, nat_lit 98, nat_lit 99, nat_lit 108, nat_lit 97, nat_lit 115, nat_lit 115, nat_lit 101, nat_lit 115, nat_lit 95, nat_lit 95, nat_lit 46, nat_lit 69, nat_lit 120, nat_lit 99, nat_lit 101, nat_lit 112, nat_lit 116, nat_lit 105, nat_lit 111, nat_lit 110, nat_lit 46, nat_lit 48])) 604, (@Value.int 306 0)⟩, ⟨(@PySem.PyData.keyHash P (Str.mk (Array.mk [nat_lit 116, nat_lit 121, nat_lit 112, nat_lit 101, nat_lit 46, nat_lit 95, nat_lit 95, nat_lit 115, nat_lit 117, nat_lit 98, nat_lit 99, nat_lit 108, nat_lit 97, nat_lit 115, nat_lit 115, nat_lit 101, nat_lit 115, nat_lit 95, nat_lit 95, nat_lit 46, nat_lit 69, nat_lit 120, nat_lit 99, nat_lit 101, nat_lit 112, nat_lit 116, nat_lit 105, nat_lit 111, nat_lit 110, nat_lit 46, nat_lit 110]))), .str (Str.mk (Array.mk [nat_lit 116, nat_lit 121, nat_lit 112, nat_lit 101, nat_lit 46, nat_lit 95, nat_lit 95, nat_lit 115, nat_lit 117, nat_lit 98, nat_lit 99, nat_lit 108, nat_lit 97, nat_lit 115, nat_lit 115, nat_lit 101, nat_lit 115, nat_lit 95, nat_lit 95, nat_lit 46, nat_lit 69, nat_lit 120, nat_lit 99, nat_lit 101, nat_lit 112, nat_lit 116, nat_lit 105, nat_lit 111, nat_lit 110, nat_lit 46, nat_lit 110])) 605, (@Value.int 2 0)⟩, ⟨(@PySem.PyData.keyHash P (Str.mk (Array.mk [nat_lit 116, nat_lit 121, nat_lit 112, nat_lit 101, nat_lit 46, nat_lit 95, nat_lit 95, nat_lit 115, nat_lit 117, nat_lit 98, nat_lit 99, nat_lit 108, nat_lit 97, nat_lit 115, nat_lit 115, nat_lit 101, nat_lit 115, nat_lit 95, nat_lit 95, nat_lit 46, nat_lit 69, nat_lit 120, nat_lit 99, nat_lit 101, nat_lit 112, nat_lit 116, nat_lit 105, nat_lit 111, nat_lit 110, nat_lit 46, nat_lit 49]))), .str (Str.mk (Array.mk [nat_lit 116, nat_lit 121, nat_lit 112, nat_lit 101, nat_lit 46, nat_lit 95, nat_lit 95, nat_lit 115, nat_lit 117, nat_lit 98, nat_lit 99, nat_lit 108, nat_lit 97, nat_lit 115, nat_lit 115, nat_lit 101, nat_lit 115, nat_lit 95, nat_lit 95, nat_lit 46, nat_lit 69, nat_lit 120, nat_lit 99, nat_lit 101, nat_lit 112, nat_lit 116, nat_lit 105, nat_lit 111, nat_lit 110, nat_lit 46, nat_lit 49])) 633, (@Value.int 326 0)⟩]) 3) (Array.mk []))
noncomputable def o3 (P : Params) : Obj := (@Obj.mk (@Value.type PySem.W.SL.s14018661285674007319x4) none (@Data.dict (Array.mk [⟨(@PySem.PyData.keyHash P (Str.mk (Array.mk [nat_lit 95, nat_lit 95, nat_lit 110, nat_lit 97, nat_lit 109, nat_lit 101, nat_lit 95, nat_lit 95]))), .str (Str.mk (Array.mk [nat_lit 95, nat_lit 95, nat_lit 110, nat_lit 97, nat_lit 109, nat_lit 101, nat_lit 95, nat_lit 95])) 165, (.str (Str.mk (Array.mk [nat_lit 108, nat_lit 97, nat_lit 119, nat_lit 95, nat_lit 112, nat_lit 102, nat_lit 48, nat_lit 50, nat_lit 56, nat_lit 49, nat_lit 95, nat_lit 48, nat_lit 49])) 1749)⟩, ⟨(@PySem.PyData.keyHash P (Str.mk (Array.mk [nat_lit 95, nat_lit 95, nat_lit 100, nat_lit 111, nat_lit 99, nat_lit 95, nat_lit 95]))), .str (Str.mk (Array.mk [nat_lit 95, nat_lit 95, nat_lit 100, nat_lit 111, nat_lit 99, nat_lit 95, nat_lit 95])) 166, Value.none⟩, ⟨(@PySem.PyData.keyHash P (Str.mk (Array.mk [nat_lit 95, nat_lit 95, nat_lit 112, nat_lit 97, nat_lit 99, nat_lit 107, nat_lit 97, nat_lit 103, nat_lit 101, nat_lit 95, nat_lit 95]))), .str (Str.mk (Array.mk [nat_lit 95, nat_lit 95, nat_lit 112, nat_lit 97, nat_lit 99, nat_lit 107, nat_lit 97, nat_lit 103, nat_lit 101, nat_lit 95, nat_lit 95])) 167, Value.none⟩, ⟨(@PySem.PyData.keyHash P (Str.mk (Array.mk [nat_lit 95, nat_lit 95, nat_lit 108, nat_lit 111, nat_lit 97, nat_lit 100, nat_lit 101, nat_lit 114, nat_lit 95, nat_lit 95]))), .str (Str.mk (Array.mk [nat_lit 95, nat_lit 95, nat_lit 108, nat_lit 111, nat_lit 97, nat_lit 100, nat_lit 101, nat_lit 114, nat_lit 95, nat_lit 95])) 168, (@Value.builtin PySem.W.SL.s7097527257260152453x26)⟩, ⟨(@PySem.PyData.keyHash P (Str.mk (Array.mk [nat_lit 95, nat_lit 95, nat_lit 115, nat_lit 112, nat_lit 101, nat_lit 99, nat_lit 95, nat_lit 95]))), .str (Str.mk (Array.mk [nat_lit 95, nat_lit 95, nat_lit 115, nat_lit 112, nat_lit 101, nat_lit 99, nat_lit 95, nat_lit 95])) 169, Value.none⟩, ⟨(@PySem.PyData.keyHash P (Str.mk (Array.mk [nat_lit 95, nat_lit 95, nat_lit 97, nat_lit 110, nat_lit 110, nat_lit 111, nat_lit 116, nat_lit 97, nat_lit 116, nat_lit 105, nat_lit 111, nat_lit 110, nat_lit 115, nat_lit 95, nat_lit 95]))), .str (Str.mk (Array.mk [nat_lit 95, nat_lit 95, nat_lit 97, nat_lit 110, nat_lit 110, nat_lit 111, nat_lit 116, nat_lit 97, nat_lit 116, nat_lit 105, nat_lit 111, nat_lit 110, nat_lit 115, nat_lit 95, nat_lit 95])) 170, (.ref 6)⟩, ⟨(@PySem.PyData.keyHash P (Str.mk (Array.mk [nat_lit 95, nat_lit 95, nat_lit 98, nat_lit 117, nat_lit 105, nat_lit 108, nat_lit 116, nat_lit 105, nat_lit 110, nat_lit 115, nat_lit 95, nat_lit 95]))), .str (Str.mk (Array.mk [nat_lit 95, nat_lit 95, nat_lit 98, nat_lit 117, nat_lit 105, nat_lit 108, nat_lit 116, nat_lit 105, nat_lit 110, nat_lit 115, nat_lit 95, nat_lit 95])) 171, (.ref 4)⟩, ⟨(@PySem.PyData.keyHash P (Str.mk (Array.mk [nat_lit 95, nat_lit 95, nat_lit 102, nat_lit 105, nat_lit 108, nat_lit 101, nat_lit 95, nat_lit 95]))), .str (Str.mk (Array.mk [nat_lit 95, nat_lit 95, nat_lit 102, nat_lit 105, nat_lit 108, nat_lit 101, nat_lit 95, nat_lit 95])) 173, (.str (Str.mk (Array.mk [nat_lit 47, nat_lit 99, nat_lit 108, nat_lit 97, nat_lit 105, nat_lit 109, nat_lit 47, nat_lit 99, nat_lit 117, nat_lit 116, nat_lit 46, nat_lit 112, nat_lit 121])) 172)⟩, ⟨(@PySem.PyData.keyHash P (Str.mk (Array.mk [nat_lit 95, nat_lit 95, nat_lit 99, nat_lit 97, nat_lit 99, nat_lit 104, nat_lit 101, nat_lit 100, nat_lit 95, nat_lit 95]))), .str (Str.mk (Array.mk [nat_lit 95, nat_lit 95, nat_lit 99, nat_lit 97, nat_lit 99, nat_lit 104, nat_lit 101, nat_lit 100, nat_lit 95, nat_lit 95])) 174, Value.none⟩, ⟨(@PySem.PyData.keyHash P (Str.mk (Array.mk [nat_lit 95, nat_lit 119, nat_lit 97, nat_lit 108, nat_lit 108]))), .str (Str.mk (Array.mk [nat_lit 95, nat_lit 119, nat_lit 97, nat_lit 108, nat_lit 108])) 193, (.ref 21)⟩, ⟨(@PySem.PyData.keyHash P (Str.mk (Array.mk [nat_lit 73, nat_lit 78, nat_lit 73, nat_lit 84, nat_lit 73, nat_lit 65, nat_lit 76, nat_lit 95, nat_lit 80, nat_lit 65, nat_lit 67, nat_lit 75, nat_lit 69, nat_lit 84, nat_lit 83]))), .str (Str.mk (Array.mk [nat_lit 73, nat_lit 78, nat_lit 73, nat_lit 84, nat_lit 73, nat_lit 65, nat_lit 76, nat_lit 95, nat_lit 80, nat_lit 65, nat_lit 67, nat_lit 75, nat_lit 69, nat_lit 84, nat_lit 83])) 197, (@Value.int 10 196)⟩, ⟨(@PySem.PyData.keyHash P (Str.mk (Array.mk [nat_lit 73, nat_lit 78, nat_lit 73, nat_lit 84, nat_lit 73, nat_lit 65, nat_lit 76, nat_lit 95, nat_lit 79, nat_lit 67, nat_lit 84, nat_lit 69, nat_lit 84, nat_lit 83]))), .str (Str.mk (Array.mk [nat_lit 73, nat_lit 78, nat_lit 73, nat_lit 84, nat_lit 73, nat_lit 65, nat_lit 76, nat_lit 95, nat_lit 79, nat_lit 67, nat_lit 84, nat_lit 69, nat_lit 84, nat_lit 83])) 199, (@Value.int 14720 198)⟩, ⟨(@PySem.PyData.keyHash P (Str.mk (Array.mk [nat_lit 76, nat_lit 69, nat_lit 65, nat_lit 83, nat_lit 84, nat_lit 95, nat_lit 80, nat_lit 65, nat_lit 67, nat_lit 75, nat_lit 69, nat_lit 84, nat_lit 83]))), .str (Str.mk (Array.mk [nat_lit 76, nat_lit 69, nat_lit 65, nat_lit 83, nat_lit 84, nat_lit 95, nat_lit 80, nat_lit 65, nat_lit 67, nat_lit 75, nat_lit 69, nat_lit 84, nat_lit 83])) 201, (@Value.int 2 200)⟩, ⟨(@PySem.PyData.keyHash P (Str.mk (Array.mk [nat_lit 105, nat_lit 110, nat_lit 105, nat_lit 116, nat_lit 105, nat_lit 97, nat_lit 108, nat_lit 95, nat_lit 119, nat_lit 105, nat_lit 110, nat_lit 100, nat_lit 111, nat_lit 119]))), .str (Str.mk (Array.mk [nat_lit 105, nat_lit 110, nat_lit 105, nat_lit 116, nat_lit 105, nat_lit 97, nat_lit 108, nat_lit 95, nat_lit 119, nat_lit 105, nat_lit 110, nat_lit 100, nat_lit 111, nat_lit 119])) 208, (.ref 28)⟩, ⟨(@PySem.PyData.keyHash P (Str.mk (Array.mk [nat_lit 78, nat_lit 101, nat_lit 119, nat_lit 82, nat_lit 101, nat_lit 110, nat_lit 111]))), .str (Str.mk (Array.mk [nat_lit 78, nat_lit 101, nat_lit 119, nat_lit 82, nat_lit 101, nat_lit 110, nat_lit 111])) 327, (.ref 115)⟩, ⟨(@PySem.PyData.keyHash P (Str.mk (Array.mk [nat_lit 83, nat_lit 80, nat_lit 65, nat_lit 67, nat_lit 69, nat_lit 95, nat_lit 79, nat_lit 82, nat_lit 68, nat_lit 69, nat_lit 82]))), .str (Str.mk (Array.mk [nat_lit 83, nat_lit 80, nat_lit 65, nat_lit 67, nat_lit 69, nat_lit 95, nat_lit 79, nat_lit 82, nat_lit 68, nat_lit 69, nat_lit 82])) 333, (.ref 120)⟩, ⟨(@PySem.PyData.keyHash P (Str.mk (Array.mk [nat_lit 112, nat_lit 114, nat_lit 111, nat_lit 98, nat_lit 101, nat_lit 95, nat_lit 112, nat_lit 101, nat_lit 114, nat_lit 105, nat_lit 111, nat_lit 100]))), .str (Str.mk (Array.mk [nat_lit 112, nat_lit 114, nat_lit 111, nat_lit 98, nat_lit 101, nat_lit 95, nat_lit 112, nat_lit 101, nat_lit 114, nat_lit 105, nat_lit 111, nat_lit 100])) 342, (.ref 127)⟩, ⟨(@PySem.PyData.keyHash P (Str.mk (Array.mk [nat_lit 101, nat_lit 97, nat_lit 114, nat_lit 108, nat_lit 105, nat_lit 101, nat_lit 115, nat_lit 116, nat_lit 95, nat_lit 111, nat_lit 102]))), .str (Str.mk (Array.mk [nat_lit 101, nat_lit 97, nat_lit 114, nat_lit 108, nat_lit 105, nat_lit 101, nat_lit 115, nat_lit 116, nat_lit 95, nat_lit 111, nat_lit 102])) 352, (.ref 134)⟩, ⟨(@PySem.PyData.keyHash P (Str.mk (Array.mk [nat_lit 112, nat_lit 114, nat_lit 111, nat_lit 98, nat_lit 101, nat_lit 95, nat_lit 116, nat_lit 105, nat_lit 109, nat_lit 101, nat_lit 115]))), .str (Str.mk (Array.mk [nat_lit 112, nat_lit 114, nat_lit 111, nat_lit 98, nat_lit 101, nat_lit 95, nat_lit 116, nat_lit 105, nat_lit 109, nat_lit 101, nat_lit 115])) 367, (.ref 141)⟩, ⟨(@PySem.PyData.keyHash P (Str.mk (Array.mk [nat_lit 105, nat_lit 115, nat_lit 95, nat_lit 97, nat_lit 110, nat_lit 121, nat_lit 116, nat_lit 104, nat_lit 105, nat_lit 110, nat_lit 103, nat_lit 95, nat_lit 97, nat_lit 115, nat_lit 107, nat_lit 101, nat_lit 100]))), .str (Str.mk (Array.mk [nat_lit 105, nat_lit 115, nat_lit 95, nat_lit 97, nat_lit 110, nat_lit 121, nat_lit 116, nat_lit 104, nat_lit 105, nat_lit 110, nat_lit 103, nat_lit 95, nat_lit 97, nat_lit 115, nat_lit 107, nat_lit 101, nat_lit 100])) 373, (.ref 146)⟩, ⟨(@PySem.PyData.keyHash P (Str.mk (Array.mk [nat_lit 112, nat_lit 114, nat_lit 111, nat_lit 98, nat_lit 101, nat_lit 95, nat_lit 100, nat_lit 117, nat_lit 101]))), .str (Str.mk (Array.mk [nat_lit 112, nat_lit 114, nat_lit 111, nat_lit 98, nat_lit 101, nat_lit 95, nat_lit 100, nat_lit 117, nat_lit 101])) 387, (.ref 153)⟩, ⟨(@PySem.PyData.keyHash P (Str.mk (Array.mk [nat_lit 110, nat_lit 101, nat_lit 120, nat_lit 116, nat_lit 95, nat_lit 116, nat_lit 105, nat_lit 109, nat_lit 101, nat_lit 114]))), .str (Str.mk (Array.mk [nat_lit 110, nat_lit 101, nat_lit 120, nat_lit 116, nat_lit 95, nat_lit 116, nat_lit 105, nat_lit 109, nat_lit 101, nat_lit 114])) 397, (.ref 160)⟩, ⟨(@PySem.PyData.keyHash P (Str.mk (Array.mk [nat_lit 73, nat_lit 78, nat_lit 73, nat_lit 84, nat_lit 73, nat_lit 65, nat_lit 76, nat_lit 95, nat_lit 82, nat_lit 84, nat_lit 84]))), .str (Str.mk (Array.mk [nat_lit 73, nat_lit 78, nat_lit 73, nat_lit 84, nat_lit 73, nat_lit 65, nat_lit 76, nat_lit 95, nat_lit 82, nat_lit 84, nat_lit 84])) 401, (@Value.int 333000 400)⟩, ⟨(@PySem.PyData.keyHash P (Str.mk (Array.mk [nat_lit 71, nat_lit 82, nat_lit 65, nat_lit 78, nat_lit 85, nat_lit 76, nat_lit 65, nat_lit 82, nat_lit 73, nat_lit 84, nat_lit 89]))), .str (Str.mk (Array.mk [nat_lit 71, nat_lit 82, nat_lit 65, nat_lit 78, nat_lit 85, nat_lit 76, nat_lit 65, nat_lit 82, nat_lit 73, nat_lit 84, nat_lit 89])) 403, (@Value.int 1000 402)⟩, ⟨(@PySem.PyData.keyHash P (Str.mk (Array.mk [nat_lit 119, nat_lit 105, nat_lit 116, nat_lit 104, nat_lit 111, nat_lit 117, nat_lit 116, nat_lit 95, nat_lit 100, nat_lit 101, nat_lit 108, nat_lit 97, nat_lit 121]))), .str (Str.mk (Array.mk [nat_lit 119, nat_lit 105, nat_lit 116, nat_lit 104, nat_lit 111, nat_lit 117, nat_lit 116, nat_lit 95, nat_lit 100, nat_lit 101, nat_lit 108, nat_lit 97, nat_lit 121])) 412, (.ref 167)⟩, ⟨(@PySem.PyData.keyHash P (Str.mk (Array.mk [nat_lit 82, nat_lit 116, nat_lit 116]))), .str (Str.mk (Array.mk [nat_lit 82, nat_lit 116, nat_lit 116])) 487, (.ref 220)⟩, ⟨(@PySem.PyData.keyHash P (Str.mk (Array.mk [nat_lit 98, nat_lit 101, nat_lit 103, nat_lit 105, nat_lit 110, nat_lit 95, nat_lit 97, nat_lit 110, nat_lit 101, nat_lit 119]))), .str (Str.mk (Array.mk [nat_lit 98, nat_lit 101, nat_lit 103, nat_lit 105, nat_lit 110, nat_lit 95, nat_lit 97, nat_lit 110, nat_lit 101, nat_lit 119])) 498, (.ref 231)⟩, ⟨(@PySem.PyData.keyHash P (Str.mk (Array.mk [nat_lit 114, nat_lit 101, nat_lit 110, nat_lit 101, nat_lit 119, nat_lit 95, nat_lit 119, nat_lit 97, nat_lit 121]))), .str (Str.mk (Array.mk [nat_lit 114, nat_lit 101, nat_lit 110, nat_lit 101, nat_lit 119, nat_lit 95, nat_lit 119, nat_lit 97, nat_lit 121])) 507, (.ref 238)⟩, ⟨(@PySem.PyData.keyHash P (Str.mk (Array.mk [nat_lit 108, nat_lit 97, nat_lit 115, nat_lit 116, nat_lit 95, nat_lit 97, nat_lit 115, nat_lit 107, nat_lit 101, nat_lit 100]))), .str (Str.mk (Array.mk [nat_lit 108, nat_lit 97, nat_lit 115, nat_lit 116, nat_lit 95, nat_lit 97, nat_lit 115, nat_lit 107, nat_lit 101, nat_lit 100])) 517, (.ref 245)⟩, ⟨(@PySem.PyData.keyHash P (Str.mk (Array.mk [nat_lit 105, nat_lit 115, nat_lit 95, nat_lit 118, nat_lit 97, nat_lit 108, nat_lit 105, nat_lit 100, nat_lit 97, nat_lit 116, nat_lit 101, nat_lit 100]))), .str (Str.mk (Array.mk [nat_lit 105, nat_lit 115, nat_lit 95, nat_lit 118, nat_lit 97, nat_lit 108, nat_lit 105, nat_lit 100, nat_lit 97, nat_lit 116, nat_lit 101, nat_lit 100])) 524, (.ref 252)⟩, ⟨(@PySem.PyData.keyHash P (Str.mk (Array.mk [nat_lit 105, nat_lit 115, nat_lit 95, nat_lit 115, nat_lit 97, nat_lit 109, nat_lit 101, nat_lit 95, nat_lit 112, nat_lit 114, nat_lit 111, nat_lit 98, nat_lit 101]))), .str (Str.mk (Array.mk [nat_lit 105, nat_lit 115, nat_lit 95, nat_lit 115, nat_lit 97, nat_lit 109, nat_lit 101, nat_lit 95, nat_lit 112, nat_lit 114, nat_lit 111, nat_lit 98, nat_lit 101])) 532, (.ref 259)⟩, ⟨(@PySem.PyData.keyHash P (Str.mk (Array.mk [nat_lit 115, nat_lit 101, nat_lit 116, nat_lit 95, nat_lit 116, nat_lit 105, nat_lit 109, nat_lit 101, nat_lit 114]))), .str (Str.mk (Array.mk [nat_lit 115, nat_lit 101, nat_lit 116, nat_lit 95, nat_lit 116, nat_lit 105, nat_lit 109, nat_lit 101, nat_lit 114])) 538, (.ref 264)⟩, ⟨(@PySem.PyData.keyHash P (Str.mk (Array.mk [nat_lit 78, nat_lit 79, nat_lit 84, nat_lit 95, nat_lit 69, nat_lit 76, nat_lit 73, nat_lit 67, nat_lit 73, nat_lit 84, nat_lit 73, nat_lit 78, nat_lit 71]))), .str (Str.mk (Array.mk [nat_lit 78, nat_lit 79, nat_lit 84, nat_lit 95, nat_lit 69, nat_lit 76, nat_lit 73, nat_lit 67, nat_lit 73, nat_lit 84, nat_lit 73, nat_lit 78, nat_lit 71])) 544, (.ref 265)⟩, ⟨(@PySem.PyData.keyHash P (Str.mk (Array.mk [nat_lit 105, nat_lit 115, nat_lit 95, nat_lit 101, nat_lit 108, nat_lit 105, nat_lit 99, nat_lit 105, nat_lit 116, nat_lit 105, nat_lit 110, nat_lit 103]))), .str (Str.mk (Array.mk [nat_lit 105, nat_lit 115, nat_lit 95, nat_lit 101, nat_lit 108, nat_lit 105, nat_lit 99, nat_lit 105, nat_lit 116, nat_lit 105, nat_lit 110, nat_lit 103])) 551, (.ref 272)⟩, ⟨(@PySem.PyData.keyHash P (Str.mk (Array.mk [nat_lit 99, nat_lit 111, nat_lit 117, nat_lit 110, nat_lit 116, nat_lit 115, nat_lit 95, nat_lit 105, nat_lit 110, nat_lit 95, nat_lit 102, nat_lit 108, nat_lit 105, nat_lit 103, nat_lit 104, nat_lit 116]))), .str (Str.mk (Array.mk [nat_lit 99, nat_lit 111, nat_lit 117, nat_lit 110, nat_lit 116, nat_lit 115, nat_lit 95, nat_lit 105, nat_lit 110, nat_lit 95, nat_lit 102, nat_lit 108, nat_lit 105, nat_lit 103, nat_lit 104, nat_lit 116])) 558, (.ref 279)⟩, ⟨(@PySem.PyData.keyHash P (Str.mk (Array.mk [nat_lit 97, nat_lit 110, nat_lit 121, nat_lit 95, nat_lit 101, nat_lit 108, nat_lit 105, nat_lit 99, nat_lit 105, nat_lit 116, nat_lit 105, nat_lit 110, nat_lit 103]))), .str (Str.mk (Array.mk [nat_lit 97, nat_lit 110, nat_lit 121, nat_lit 95, nat_lit 101, nat_lit 108, nat_lit 105, nat_lit 99, nat_lit 105, nat_lit 116, nat_lit 105, nat_lit 110, nat_lit 103])) 564, (.ref 284)⟩, ⟨(@PySem.PyData.keyHash P (Str.mk (Array.mk [nat_lit 97, nat_lit 110, nat_lit 121, nat_lit 95, nat_lit 105, nat_lit 110, nat_lit 95, nat_lit 102, nat_lit 108, nat_lit 105, nat_lit 103, nat_lit 104, nat_lit 116]))), .str (Str.mk (Array.mk [nat_lit 97, nat_lit 110, nat_lit 121, nat_lit 95, nat_lit 105, nat_lit 110, nat_lit 95, nat_lit 102, nat_lit 108, nat_lit 105, nat_lit 103, nat_lit 104, nat_lit 116])) 570, (.ref 289)⟩, ⟨(@PySem.PyData.keyHash P (Str.mk (Array.mk [nat_lit 73, nat_lit 78, nat_lit 84, nat_lit 69, nat_lit 82, nat_lit 78, nat_lit 65, nat_lit 76, nat_lit 95, nat_lit 69, nat_lit 82, nat_lit 82, nat_lit 79, nat_lit 82]))), .str (Str.mk (Array.mk [nat_lit 73, nat_lit 78, nat_lit 84, nat_lit 69, nat_lit 82, nat_lit 78, nat_lit 65, nat_lit 76, nat_lit 95, nat_lit 69, nat_lit 82, nat_lit 82, nat_lit 79, nat_lit 82])) 574, (@Value.int 1 573)⟩, ⟨(@PySem.PyData.keyHash P (Str.mk (Array.mk [nat_lit 81, nat_lit 117, nat_lit 105, nat_lit 99, nat_lit 69, nat_lit 114, nat_lit 114, nat_lit 111, nat_lit 114]))), .str (Str.mk (Array.mk [nat_lit 81, nat_lit 117, nat_lit 105, nat_lit 99, nat_lit 69, nat_lit 114, nat_lit 114, nat_lit 111, nat_lit 114])) 607, (.ref 306)⟩, ⟨(@PySem.PyData.keyHash P (Str.mk (Array.mk [nat_lit 80, nat_lit 97, nat_lit 99, nat_lit 107, nat_lit 101, nat_lit 116, nat_lit 82, nat_lit 101, nat_lit 102, nat_lit 117, nat_lit 115, nat_lit 101, nat_lit 100]))), .str (Str.mk (Array.mk [nat_lit 80, nat_lit 97, nat_lit 99, nat_lit 107, nat_lit 101, nat_lit 116, nat_lit 82, nat_lit 101, nat_lit 102, nat_lit 117, nat_lit 115, nat_lit 101, nat_lit 100])) 636, (.ref 326)⟩, ⟨(@PySem.PyData.keyHash P (Str.mk (Array.mk [nat_lit 80, nat_lit 73, nat_lit 78, nat_lit 71]))), .str (Str.mk (Array.mk [nat_lit 80, nat_lit 73, nat_lit 78, nat_lit 71])) 638, (@Value.int 1 637)⟩, ⟨(@PySem.PyData.keyHash P (Str.mk (Array.mk [nat_lit 65, nat_lit 67, nat_lit 75]))), .str (Str.mk (Array.mk [nat_lit 65, nat_lit 67, nat_lit 75])) 640, (@Value.int 2 639)⟩, ⟨(@PySem.PyData.keyHash P (Str.mk (Array.mk [nat_lit 65, nat_lit 67, nat_lit 75, nat_lit 95, nat_lit 69, nat_lit 67, nat_lit 78]))), .str (Str.mk (Array.mk [nat_lit 65, nat_lit 67, nat_lit 75, nat_lit 95, nat_lit 69, nat_lit 67, nat_lit 78])) 642, (@Value.int 3 641)⟩, ⟨(@PySem.PyData.keyHash P (Str.mk (Array.mk [nat_lit 82, nat_lit 69, nat_lit 83, nat_lit 69, nat_lit 84, nat_lit 95, nat_lit 83, nat_lit 84, nat_lit 82, nat_lit 69, nat_lit 65, nat_lit 77]))), .str (Str.mk (Array.mk [nat_lit 82, nat_lit 69, nat_lit 83, nat_lit 69, nat_lit 84, nat_lit 95, nat_lit 83, nat_lit 84, nat_lit 82, nat_lit 69, nat_lit 65, nat_lit 77])) 644, (@Value.int 4 643)⟩, ⟨(@PySem.PyData.keyHash P (Str.mk (Array.mk [nat_lit 83, nat_lit 84, nat_lit 79, nat_lit 80, nat_lit 95, nat_lit 83, nat_lit 69, nat_lit 78, nat_lit 68, nat_lit 73, nat_lit 78, nat_lit 71]))), .str (Str.mk (Array.mk [nat_lit 83, nat_lit 84, nat_lit 79, nat_lit 80, nat_lit 95, nat_lit 83, nat_lit 69, nat_lit 78, nat_lit 68, nat_lit 73, nat_lit 78, nat_lit 71])) 646, (@Value.int 5 645)⟩, ⟨(@PySem.PyData.keyHash P (Str.mk (Array.mk [nat_lit 67, nat_lit 82, nat_lit 89, nat_lit 80, nat_lit 84, nat_lit 79]))), .str (Str.mk (Array.mk [nat_lit 67, nat_lit 82, nat_lit 89, nat_lit 80, nat_lit 84, nat_lit 79])) 648, (@Value.int 6 647)⟩, ⟨(@PySem.PyData.keyHash P (Str.mk (Array.mk [nat_lit 78, nat_lit 69, nat_lit 87, nat_lit 95, nat_lit 84, nat_lit 79, nat_lit 75, nat_lit 69, nat_lit 78]))), .str (Str.mk (Array.mk [nat_lit 78, nat_lit 69, nat_lit 87, nat_lit 95, nat_lit 84, nat_lit 79, nat_lit 75, nat_lit 69, nat_lit 78])) 650, (@Value.int 7 649)⟩, ⟨(@PySem.PyData.keyHash P (Str.mk (Array.mk [nat_lit 83, nat_lit 84, nat_lit 82, nat_lit 69, nat_lit 65, nat_lit 77]))), .str (Str.mk (Array.mk [nat_lit 83, nat_lit 84, nat_lit 82, nat_lit 69, nat_lit 65, nat_lit 77])) 652, (@Value.int 8 651)⟩, ⟨(@PySem.PyData.keyHash P (Str.mk (Array.mk [nat_lit 77, nat_lit 65, nat_lit 88, nat_lit 95, nat_lit 68, nat_lit 65, nat_lit 84, nat_lit 65]))), .str (Str.mk (Array.mk [nat_lit 77, nat_lit 65, nat_lit 88, nat_lit 95, nat_lit 68, nat_lit 65, nat_lit 84, nat_lit 65])) 654, (@Value.int 16 653)⟩, ⟨(@PySem.PyData.keyHash P (Str.mk (Array.mk [nat_lit 77, nat_lit 65, nat_lit 88, nat_lit 95, nat_lit 83, nat_lit 84, nat_lit 82, nat_lit 69, nat_lit 65, nat_lit 77, nat_lit 95, nat_lit 68, nat_lit 65, nat_lit 84, nat_lit 65]))), .str (Str.mk (Array.mk [nat_lit 77, nat_lit 65, nat_lit 88, nat_lit 95, nat_lit 83, nat_lit 84, nat_lit 82, nat_lit 69, nat_lit 65, nat_lit 77, nat_lit 95, nat_lit 68, nat_lit 65, nat_lit 84, nat_lit 65])) 656, (@Value.int 17 655)⟩, ⟨(@PySem.PyData.keyHash P (Str.mk (Array.mk [nat_lit 77, nat_lit 65, nat_lit 88, nat_lit 95, nat_lit 83, nat_lit 84, nat_lit 82, nat_lit 69, nat_lit 65, nat_lit 77, nat_lit 83, nat_lit 95, nat_lit 66, nat_lit 73, nat_lit 68, nat_lit 73]))), .str (Str.mk (Array.mk [nat_lit 77, nat_lit 65, nat_lit 88, nat_lit 95, nat_lit 83, nat_lit 84, nat_lit 82, nat_lit 69, nat_lit 65, nat_lit 77, nat_lit 83, nat_lit 95, nat_lit 66, nat_lit 73, nat_lit 68, nat_lit 73])) 658, (@Value.int 18 657)⟩, ⟨(@PySem.PyData.keyHash P (Str.mk (Array.mk [nat_lit 77, nat_lit 65, nat_lit 88, nat_lit 95, nat_lit 83, nat_lit 84, nat_lit 82, nat_lit 69, nat_lit 65, nat_lit 77, nat_lit 83, nat_lit 95, nat_lit 85, nat_lit 78, nat_lit 73]))), .str (Str.mk (Array.mk [nat_lit 77, nat_lit 65, nat_lit 88, nat_lit 95, nat_lit 83, nat_lit 84, nat_lit 82, nat_lit 69, nat_lit 65, nat_lit 77, nat_lit 83, nat_lit 95, nat_lit 85, nat_lit 78, nat_lit 73])) 660, (@Value.int 19 659)⟩, ⟨(@PySem.PyData.keyHash P (Str.mk (Array.mk [nat_lit 68, nat_lit 65, nat_lit 84, nat_lit 65, nat_lit 95, nat_lit 66, nat_lit 76, nat_lit 79, nat_lit 67, nat_lit 75, nat_lit 69, nat_lit 68]))), .str (Str.mk (Array.mk [nat_lit 68, nat_lit 65, nat_lit 84, nat_lit 65, nat_lit 95, nat_lit 66, nat_lit 76, nat_lit 79, nat_lit 67, nat_lit 75, nat_lit 69, nat_lit 68])) 662, (@Value.int 20 661)⟩, ⟨(@PySem.PyData.keyHash P (Str.mk (Array.mk [nat_lit 83, nat_lit 84, nat_lit 82, nat_lit 69, nat_lit 65, nat_lit 77, nat_lit 95, nat_lit 68, nat_lit 65, nat_lit 84, nat_lit 65, nat_lit 95, nat_lit 66, nat_lit 76, nat_lit 79, nat_lit 67, nat_lit 75, nat_lit 69, nat_lit 68]))), .str (Str.mk (Array.mk [nat_lit 83, nat_lit 84, nat_lit 82, nat_lit 69, nat_lit 65, nat_lit 77, nat_lit 95, nat_lit 68, nat_lit 65, nat_lit 84, nat_lit 65, nat_lit 95, nat_lit 66, nat_lit 76, nat_lit 79, nat_lit 67, nat_lit 75, nat_lit 69, nat_lit 68])) 664, (@Value.int 21 663)⟩, ⟨(@PySem.PyData.keyHash P (Str.mk (Array.mk [nat_lit 83, nat_lit 84, nat_lit 82, nat_lit 69, nat_lit 65, nat_lit 77, nat_lit 83, nat_lit 95, nat_lit 66, nat_lit 76, nat_lit 79, nat_lit 67, nat_lit 75, nat_lit 69, nat_lit 68, nat_lit 95, nat_lit 66, nat_lit 73, nat_lit 68, nat_lit 73]))), .str (Str.mk (Array.mk [nat_lit 83, nat_lit 84, nat_lit 82, nat_lit 69, nat_lit 65, nat_lit 77, nat_lit 83, nat_lit 95, nat_lit 66, nat_lit 76, nat_lit 79, nat_lit 67, nat_lit 75, nat_lit 69, nat_lit 68, nat_lit 95, nat_lit 66, nat_lit 73, nat_lit 68, nat_lit 73])) 666, (@Value.int 22 665)⟩, ⟨(@PySem.PyData.keyHash P (Str.mk (Array.mk [nat_lit 83, nat_lit 84, nat_lit 82, nat_lit 69, nat_lit 65, nat_lit 77, nat_lit 83, nat_lit 95, nat_lit 66, nat_lit 76, nat_lit 79, nat_lit 67, nat_lit 75, nat_lit 69, nat_lit 68, nat_lit 95, nat_lit 85, nat_lit 78, nat_lit 73]))), .str (Str.mk (Array.mk [nat_lit 83, nat_lit 84, nat_lit 82, nat_lit 69, nat_lit 65, nat_lit 77, nat_lit 83, nat_lit 95, nat_lit 66, nat_lit 76, nat_lit 79, nat_lit 67, nat_lit 75, nat_lit 69, nat_lit 68, nat_lit 95, nat_lit 85, nat_lit 78, nat_lit 73])) 668, (@Value.int 23 667)⟩, ⟨(@PySem.PyData.keyHash P (Str.mk (Array.mk [nat_lit 78, nat_lit 69, nat_lit 87, nat_lit 95, nat_lit 67, nat_lit 79, nat_lit 78, nat_lit 78, nat_lit 69, nat_lit 67, nat_lit 84, nat_lit 73, nat_lit 79, nat_lit 78, nat_lit 95, nat_lit 73, nat_lit 68]))), .str (Str.mk (Array.mk [nat_lit 78, nat_lit 69, nat_lit 87, nat_lit 95, nat_lit 67, nat_lit 79, nat_lit 78, nat_lit 78, nat_lit 69, nat_lit 67, nat_lit 84, nat_lit 73, nat_lit 79, nat_lit 78, nat_lit 95, nat_lit 73, nat_lit 68])) 670, (@Value.int 24 669)⟩, ⟨(@PySem.PyData.keyHash P (Str.mk (Array.mk [nat_lit 82, nat_lit 69, nat_lit 84, nat_lit 73, nat_lit 82, nat_lit 69, nat_lit 95, nat_lit 67, nat_lit 79, nat_lit 78, nat_lit 78, nat_lit 69, nat_lit 67, nat_lit 84, nat_lit 73, nat_lit 79, nat_lit 78, nat_lit 95, nat_lit 73, nat_lit 68]))), .str (Str.mk (Array.mk [nat_lit 82, nat_lit 69, nat_lit 84, nat_lit 73, nat_lit 82, nat_lit 69, nat_lit 95, nat_lit 67, nat_lit 79, nat_lit 78, nat_lit 78, nat_lit 69, nat_lit 67, nat_lit 84, nat_lit 73, nat_lit 79, nat_lit 78, nat_lit 95, nat_lit 73, nat_lit 68])) 672, (@Value.int 25 671)⟩, ⟨(@PySem.PyData.keyHash P (Str.mk (Array.mk [nat_lit 80, nat_lit 65, nat_lit 84, nat_lit 72, nat_lit 95, nat_lit 67, nat_lit 72, nat_lit 65, nat_lit 76, nat_lit 76, nat_lit 69, nat_lit 78, nat_lit 71, nat_lit 69]))), .str (Str.mk (Array.mk [nat_lit 80, nat_lit 65, nat_lit 84, nat_lit 72, nat_lit 95, nat_lit 67, nat_lit 72, nat_lit 65, nat_lit 76, nat_lit 76, nat_lit 69, nat_lit 78, nat_lit 71, nat_lit 69])) 674, (@Value.int 26 673)⟩, ⟨(@PySem.PyData.keyHash P (Str.mk (Array.mk [nat_lit 80, nat_lit 65, nat_lit 84, nat_lit 72, nat_lit 95, nat_lit 82, nat_lit 69, nat_lit 83, nat_lit 80, nat_lit 79, nat_lit 78, nat_lit 83, nat_lit 69]))), .str (Str.mk (Array.mk [nat_lit 80, nat_lit 65, nat_lit 84, nat_lit 72, nat_lit 95, nat_lit 82, nat_lit 69, nat_lit 83, nat_lit 80, nat_lit 79, nat_lit 78, nat_lit 83, nat_lit 69])) 676, (@Value.int 27 675)⟩, ⟨(@PySem.PyData.keyHash P (Str.mk (Array.mk [nat_lit 67, nat_lit 76, nat_lit 79, nat_lit 83, nat_lit 69]))), .str (Str.mk (Array.mk [nat_lit 67, nat_lit 76, nat_lit 79, nat_lit 83, nat_lit 69])) 678, (@Value.int 28 677)⟩, ⟨(@PySem.PyData.keyHash P (Str.mk (Array.mk [nat_lit 67, nat_lit 76, nat_lit 79, nat_lit 83, nat_lit 69, nat_lit 95, nat_lit 65, nat_lit 80, nat_lit 80, nat_lit 76, nat_lit 73, nat_lit 67, nat_lit 65, nat_lit 84, nat_lit 73, nat_lit 79, nat_lit 78]))), .str (Str.mk (Array.mk [nat_lit 67, nat_lit 76, nat_lit 79, nat_lit 83, nat_lit 69, nat_lit 95, nat_lit 65, nat_lit 80, nat_lit 80, nat_lit 76, nat_lit 73, nat_lit 67, nat_lit 65, nat_lit 84, nat_lit 73, nat_lit 79, nat_lit 78])) 680, (@Value.int 29 679)⟩, ⟨(@PySem.PyData.keyHash P (Str.mk (Array.mk [nat_lit 72, nat_lit 65, nat_lit 78, nat_lit 68, nat_lit 83, nat_lit 72, nat_lit 65, nat_lit 75, nat_lit 69, nat_lit 95, nat_lit 68, nat_lit 79, nat_lit 78, nat_lit 69]))), .str (Str.mk (Array.mk [nat_lit 72, nat_lit 65, nat_lit 78, nat_lit 68, nat_lit 83, nat_lit 72, nat_lit 65, nat_lit 75, nat_lit 69, nat_lit 95, nat_lit 68, nat_lit 79, nat_lit 78, nat_lit 69])) 682, (@Value.int 30 681)⟩, ⟨(@PySem.PyData.keyHash P (Str.mk (Array.mk [nat_lit 66, nat_lit 73, nat_lit 84, nat_lit 95, nat_lit 70, nat_lit 73, nat_lit 78]))), .str (Str.mk (Array.mk [nat_lit 66, nat_lit 73, nat_lit 84, nat_lit 95, nat_lit 70, nat_lit 73, nat_lit 78])) 684, (@Value.int 1 683)⟩, ⟨(@PySem.PyData.keyHash P (Str.mk (Array.mk [nat_lit 66, nat_lit 73, nat_lit 84, nat_lit 95, nat_lit 76, nat_lit 69, nat_lit 78, nat_lit 71, nat_lit 84, nat_lit 72]))), .str (Str.mk (Array.mk [nat_lit 66, nat_lit 73, nat_lit 84, nat_lit 95, nat_lit 76, nat_lit 69, nat_lit 78, nat_lit 71, nat_lit 84, nat_lit 72])) 686, (@Value.int 2 685)⟩, ⟨(@PySem.PyData.keyHash P (Str.mk (Array.mk [nat_lit 66, nat_lit 73, nat_lit 84, nat_lit 95, nat_lit 79, nat_lit 70, nat_lit 70, nat_lit 83, nat_lit 69, nat_lit 84]))), .str (Str.mk (Array.mk [nat_lit 66, nat_lit 73, nat_lit 84, nat_lit 95, nat_lit 79, nat_lit 70, nat_lit 70, nat_lit 83, nat_lit 69, nat_lit 84])) 688, (@Value.int 4 687)⟩, ⟨(@PySem.PyData.keyHash P (Str.mk (Array.mk [nat_lit 86, nat_lit 65, nat_lit 82, nat_lit 73, nat_lit 78, nat_lit 84, nat_lit 95, nat_lit 83, nat_lit 73, nat_lit 90, nat_lit 69, nat_lit 83]))), .str (Str.mk (Array.mk [nat_lit 86, nat_lit 65, nat_lit 82, nat_lit 73, nat_lit 78, nat_lit 84, nat_lit 95, nat_lit 83, nat_lit 73, nat_lit 90, nat_lit 69, nat_lit 83])) 695, (.ref 330)⟩, ⟨(@PySem.PyData.keyHash P (Str.mk (Array.mk [nat_lit 112, nat_lit 117, nat_lit 116, nat_lit 95, nat_lit 119, nat_lit 104, nat_lit 111, nat_lit 108, nat_lit 101]))), .str (Str.mk (Array.mk [nat_lit 112, nat_lit 117, nat_lit 116, nat_lit 95, nat_lit 119, nat_lit 104, nat_lit 111, nat_lit 108, nat_lit 101])) 705, (.ref 337)⟩, ⟨(@PySem.PyData.keyHash P (Str.mk (Array.mk [nat_lit 118, nat_lit 97, nat_lit 114, nat_lit 105, nat_lit 110, nat_lit 116, nat_lit 95, nat_lit 115, nat_lit 105, nat_lit 122, nat_lit 101]))), .str (Str.mk (Array.mk [nat_lit 118, nat_lit 97, nat_lit 114, nat_lit 105, nat_lit 110, nat_lit 116, nat_lit 95, nat_lit 115, nat_lit 105, nat_lit 122, nat_lit 101])) 713, (.ref 344)⟩, ⟨(@PySem.PyData.keyHash P (Str.mk (Array.mk [nat_lit 112, nat_lit 117, nat_lit 116, nat_lit 95, nat_lit 118, nat_lit 97, nat_lit 114, nat_lit 105, nat_lit 110, nat_lit 116]))), .str (Str.mk (Array.mk [nat_lit 112, nat_lit 117, nat_lit 116, nat_lit 95, nat_lit 118, nat_lit 97, nat_lit 114, nat_lit 105, nat_lit 110, nat_lit 116])) 722, (.ref 351)⟩, ⟨(@PySem.PyData.keyHash P (Str.mk (Array.mk [nat_lit 78, nat_lit 85, nat_lit 77, nat_lit 66, nat_lit 69, nat_lit 82, nat_lit 95, nat_lit 70, nat_lit 82, nat_lit 65, nat_lit 77, nat_lit 69, nat_lit 83]))), .str (Str.mk (Array.mk [nat_lit 78, nat_lit 85, nat_lit 77, nat_lit 66, nat_lit 69, nat_lit 82, nat_lit 95, nat_lit 70, nat_lit 82, nat_lit 65, nat_lit 77, nat_lit 69, nat_lit 83])) 743, (.ref 352)⟩, ⟨(@PySem.PyData.keyHash P (Str.mk (Array.mk [nat_lit 112, nat_lit 117, nat_lit 116, nat_lit 95, nat_lit 110, nat_lit 117, nat_lit 109, nat_lit 98, nat_lit 101, nat_lit 114, nat_lit 115]))), .str (Str.mk (Array.mk [nat_lit 112, nat_lit 117, nat_lit 116, nat_lit 95, nat_lit 110, nat_lit 117, nat_lit 109, nat_lit 98, nat_lit 101, nat_lit 114, nat_lit 115])) 749, (.ref 357)⟩, ⟨(@PySem.PyData.keyHash P (Str.mk (Array.mk [nat_lit 112, nat_lit 117, nat_lit 116, nat_lit 95, nat_lit 99, nat_lit 111, nat_lit 117, nat_lit 110, nat_lit 116, nat_lit 101, nat_lit 100]))), .str (Str.mk (Array.mk [nat_lit 112, nat_lit 117, nat_lit 116, nat_lit 95, nat_lit 99, nat_lit 111, nat_lit 117, nat_lit 110, nat_lit 116, nat_lit 101, nat_lit 100])) 756, (.ref 364)⟩, ⟨(@PySem.PyData.keyHash P (Str.mk (Array.mk [nat_lit 97, nat_lit 99, nat_lit 107, nat_lit 95, nat_lit 110, nat_lit 117, nat_lit 109, nat_lit 98, nat_lit 101, nat_lit 114, nat_lit 115]))), .str (Str.mk (Array.mk [nat_lit 97, nat_lit 99, nat_lit 107, nat_lit 95, nat_lit 110, nat_lit 117, nat_lit 109, nat_lit 98, nat_lit 101, nat_lit 114, nat_lit 115])) 769, (.ref 371)⟩, ⟨(@PySem.PyData.keyHash P (Str.mk (Array.mk [nat_lit 112, nat_lit 117, nat_lit 116, nat_lit 95, nat_lit 97, nat_lit 99, nat_lit 107]))), .str (Str.mk (Array.mk [nat_lit 112, nat_lit 117, nat_lit 116, nat_lit 95, nat_lit 97, nat_lit 99, nat_lit 107])) 783, (.ref 378)⟩, ⟨(@PySem.PyData.keyHash P (Str.mk (Array.mk [nat_lit 112, nat_lit 117, nat_lit 116, nat_lit 95, nat_lit 115, nat_lit 116, nat_lit 114, nat_lit 101, nat_lit 97, nat_lit 109]))), .str (Str.mk (Array.mk [nat_lit 112, nat_lit 117, nat_lit 116, nat_lit 95, nat_lit 115, nat_lit 116, nat_lit 114, nat_lit 101, nat_lit 97, nat_lit 109])) 798, (.ref 385)⟩, ⟨(@PySem.PyData.keyHash P (Str.mk (Array.mk [nat_lit 112, nat_lit 117, nat_lit 116, nat_lit 95, nat_lit 110, nat_lit 101, nat_lit 119, nat_lit 95, nat_lit 99, nat_lit 105, nat_lit 100]))), .str (Str.mk (Array.mk [nat_lit 112, nat_lit 117, nat_lit 116, nat_lit 95, nat_lit 110, nat_lit 101, nat_lit 119, nat_lit 95, nat_lit 99, nat_lit 105, nat_lit 100])) 810, (.ref 392)⟩, ⟨(@PySem.PyData.keyHash P (Str.mk (Array.mk [nat_lit 112, nat_lit 117, nat_lit 116, nat_lit 95, nat_lit 99, nat_lit 108, nat_lit 111, nat_lit 115, nat_lit 101]))), .str (Str.mk (Array.mk [nat_lit 112, nat_lit 117, nat_lit 116, nat_lit 95, nat_lit 99, nat_lit 108, nat_lit 111, nat_lit 115, nat_lit 101])) 821, (.ref 399)⟩, ⟨(@PySem.PyData.keyHash P (Str.mk (Array.mk [nat_lit 112, nat_lit 117, nat_lit 116, nat_lit 95, nat_lit 111, nat_lit 99, nat_lit 116, nat_lit 101, nat_lit 116, nat_lit 115, nat_lit 95, nat_lit 102, nat_lit 114, nat_lit 97, nat_lit 109, nat_lit 101]))), .str (Str.mk (Array.mk [nat_lit 112, nat_lit 117, nat_lit 116, nat_lit 95, nat_lit 111, nat_lit 99, nat_lit 116, nat_lit 101, nat_lit 116, nat_lit 115, nat_lit 95, nat_lit 102, nat_lit 114, nat_lit 97, nat_lit 109, nat_lit 101])) 829, (.ref 406)⟩, ⟨(@PySem.PyData.keyHash P (Str.mk (Array.mk [nat_lit 112, nat_lit 117, nat_lit 116, nat_lit 95, nat_lit 102, nat_lit 114, nat_lit 97, nat_lit 109, nat_lit 101]))), .str (Str.mk (Array.mk [nat_lit 112, nat_lit 117, nat_lit 116, nat_lit 95, nat_lit 102, nat_lit 114, nat_lit 97, nat_lit 109, nat_lit 101])) 838, (.ref 413)⟩, ⟨(@PySem.PyData.keyHash P (Str.mk (Array.mk [nat_lit 112, nat_lit 117, nat_lit 116, nat_lit 95, nat_lit 102, nat_lit 114, nat_lit 97, nat_lit 109, nat_lit 101, nat_lit 115]))), .str (Str.mk (Array.mk [nat_lit 112, nat_lit 117, nat_lit 116, nat_lit 95, nat_lit 102, nat_lit 114, nat_lit 97, nat_lit 109, nat_lit 101, nat_lit 115])) 844, (.ref 418)⟩, ⟨(@PySem.PyData.keyHash P (Str.mk (Array.mk [nat_lit 76, nat_lit 79, nat_lit 78, nat_lit 71, nat_lit 95, nat_lit 75, nat_lit 73, nat_lit 78, nat_lit 68, nat_lit 83]))), .str (Str.mk (Array.mk [nat_lit 76, nat_lit 79, nat_lit 78, nat_lit 71, nat_lit 95, nat_lit 75, nat_lit 73, nat_lit 78, nat_lit 68, nat_lit 83])) 851, (.ref 419)⟩, ⟨(@PySem.PyData.keyHash P (Str.mk (Array.mk [nat_lit 112, nat_lit 117, nat_lit 116, nat_lit 95, nat_lit 105, nat_lit 100, nat_lit 115]))), .str (Str.mk (Array.mk [nat_lit 112, nat_lit 117, nat_lit 116, nat_lit 95, nat_lit 105, nat_lit 100, nat_lit 115])) 859, (.ref 426)⟩, ⟨(@PySem.PyData.keyHash P (Str.mk (Array.mk [nat_lit 108, nat_lit 111, nat_lit 110, nat_lit 103, nat_lit 95, nat_lit 102, nat_lit 105, nat_lit 114, nat_lit 115, nat_lit 116]))), .str (Str.mk (Array.mk [nat_lit 108, nat_lit 111, nat_lit 110, nat_lit 103, nat_lit 95, nat_lit 102, nat_lit 105, nat_lit 114, nat_lit 115, nat_lit 116])) 867, (.ref 433)⟩, ⟨(@PySem.PyData.keyHash P (Str.mk (Array.mk [nat_lit 108, nat_lit 111, nat_lit 110, nat_lit 103, nat_lit 95, nat_lit 104, nat_lit 101, nat_lit 97, nat_lit 100]))), .str (Str.mk (Array.mk [nat_lit 108, nat_lit 111, nat_lit 110, nat_lit 103, nat_lit 95, nat_lit 104, nat_lit 101, nat_lit 97, nat_lit 100])) 881, (.ref 440)⟩, ⟨(@PySem.PyData.keyHash P (Str.mk (Array.mk [nat_lit 77, nat_lit 79, nat_lit 83, nat_lit 84, nat_lit 95, nat_lit 79, nat_lit 67, nat_lit 84, nat_lit 69, nat_lit 84, nat_lit 83]))), .str (Str.mk (Array.mk [nat_lit 77, nat_lit 79, nat_lit 83, nat_lit 84, nat_lit 95, nat_lit 79, nat_lit 67, nat_lit 84, nat_lit 69, nat_lit 84, nat_lit 83])) 885, (@Value.int 4 884)⟩, ⟨(@PySem.PyData.keyHash P (Str.mk (Array.mk [nat_lit 110, nat_lit 117, nat_lit 109, nat_lit 98, nat_lit 101, nat_lit 114, nat_lit 95, nat_lit 115, nat_lit 105, nat_lit 122, nat_lit 101]))), .str (Str.mk (Array.mk [nat_lit 110, nat_lit 117, nat_lit 109, nat_lit 98, nat_lit 101, nat_lit 114, nat_lit 95, nat_lit 115, nat_lit 105, nat_lit 122, nat_lit 101])) 895, (.ref 447)⟩, ⟨(@PySem.PyData.keyHash P (Str.mk (Array.mk [nat_lit 99, nat_lit 117, nat_lit 116, nat_lit 95, nat_lit 110, nat_lit 117, nat_lit 109, nat_lit 98, nat_lit 101, nat_lit 114]))), .str (Str.mk (Array.mk [nat_lit 99, nat_lit 117, nat_lit 116, nat_lit 95, nat_lit 110, nat_lit 117, nat_lit 109, nat_lit 98, nat_lit 101, nat_lit 114])) 904, (.ref 454)⟩, ⟨(@PySem.PyData.keyHash P (Str.mk (Array.mk [nat_lit 84, nat_lit 65, nat_lit 71, nat_lit 95, nat_lit 83, nat_lit 73, nat_lit 90, nat_lit 69]))), .str (Str.mk (Array.mk [nat_lit 84, nat_lit 65, nat_lit 71, nat_lit 95, nat_lit 83, nat_lit 73, nat_lit 90, nat_lit 69])) 908, (@Value.int 16 907)⟩, ⟨(@PySem.PyData.keyHash P (Str.mk (Array.mk [nat_lit 83, nat_lit 65, nat_lit 77, nat_lit 80, nat_lit 76, nat_lit 69, nat_lit 95, nat_lit 83, nat_lit 73, nat_lit 90, nat_lit 69]))), .str (Str.mk (Array.mk [nat_lit 83, nat_lit 65, nat_lit 77, nat_lit 80, nat_lit 76, nat_lit 69, nat_lit 95, nat_lit 83, nat_lit 73, nat_lit 90, nat_lit 69])) 910, (@Value.int 16 909)⟩, ⟨(@PySem.PyData.keyHash P (Str.mk (Array.mk [nat_lit 77, nat_lit 65, nat_lit 83, nat_lit 75, nat_lit 95, nat_lit 83, nat_lit 73, nat_lit 90, nat_lit 69]))), .str (Str.mk (Array.mk [nat_lit 77, nat_lit 65, nat_lit 83, nat_lit 75, nat_lit 95, nat_lit 83, nat_lit 73, nat_lit 90, nat_lit 69])) 912, (@Value.int 5 911)⟩, ⟨(@PySem.PyData.keyHash P (Str.mk (Array.mk [nat_lit 77, nat_lit 79, nat_lit 68, nat_lit 85, nat_lit 76, nat_lit 85, nat_lit 83]))), .str (Str.mk (Array.mk [nat_lit 77, nat_lit 79, nat_lit 68, nat_lit 85, nat_lit 76, nat_lit 85, nat_lit 83])) 918, (@Value.int 170141183460469231731687303715884105727 917)⟩, ⟨(@PySem.PyData.keyHash P (Str.mk (Array.mk [nat_lit 70, nat_lit 65, nat_lit 67, nat_lit 84, nat_lit 79, nat_lit 82]))), .str (Str.mk (Array.mk [nat_lit 70, nat_lit 65, nat_lit 67, nat_lit 84, nat_lit 79, nat_lit 82])) 920, (@Value.int 6364136223846793005 919)⟩, ⟨(@PySem.PyData.keyHash P (Str.mk (Array.mk [nat_lit 109, nat_lit 105, nat_lit 120, nat_lit 101, nat_lit 100, nat_lit 95, nat_lit 111, nat_lit 99, nat_lit 116, nat_lit 101, nat_lit 116, nat_lit 115]))), .str (Str.mk (Array.mk [nat_lit 109, nat_lit 105, nat_lit 120, nat_lit 101, nat_lit 100, nat_lit 95, nat_lit 111, nat_lit 99, nat_lit 116, nat_lit 101, nat_lit 116, nat_lit 115])) 930, (.ref 461)⟩, ⟨(@PySem.PyData.keyHash P (Str.mk (Array.mk [nat_lit 116, nat_lit 117, nat_lit 114, nat_lit 110, nat_lit 101, nat_lit 100, nat_lit 95, nat_lit 111, nat_lit 99, nat_lit 116, nat_lit 101, nat_lit 116, nat_lit 115]))), .str (Str.mk (Array.mk [nat_lit 116, nat_lit 117, nat_lit 114, nat_lit 110, nat_lit 101, nat_lit 100, nat_lit 95, nat_lit 111, nat_lit 99, nat_lit 116, nat_lit 101, nat_lit 116, nat_lit 115])) 942, (.ref 468)⟩, ⟨(@PySem.PyData.keyHash P (Str.mk (Array.mk [nat_lit 116, nat_lit 97, nat_lit 103, nat_lit 95, nat_lit 111, nat_lit 102]))), .str (Str.mk (Array.mk [nat_lit 116, nat_lit 97, nat_lit 103, nat_lit 95, nat_lit 111, nat_lit 102])) 953, (.ref 475)⟩, ⟨(@PySem.PyData.keyHash P (Str.mk (Array.mk [nat_lit 115, nat_lit 101, nat_lit 97, nat_lit 108, nat_lit 95, nat_lit 112, nat_lit 97, nat_lit 121, nat_lit 108, nat_lit 111, nat_lit 97, nat_lit 100]))), .str (Str.mk (Array.mk [nat_lit 115, nat_lit 101, nat_lit 97, nat_lit 108, nat_lit 95, nat_lit 112, nat_lit 97, nat_lit 121, nat_lit 108, nat_lit 111, nat_lit 97, nat_lit 100])) 964, (.ref 482)⟩, ⟨(@PySem.PyData.keyHash P (Str.mk (Array.mk [nat_lit 104, nat_lit 101, nat_lit 97, nat_lit 100, nat_lit 95, nat_lit 109, nat_lit 97, nat_lit 115, nat_lit 107]))), .str (Str.mk (Array.mk [nat_lit 104, nat_lit 101, nat_lit 97, nat_lit 100, nat_lit 95, nat_lit 109, nat_lit 97, nat_lit 115, nat_lit 107])) 972, (.ref 489)⟩, ⟨(@PySem.PyData.keyHash P (Str.mk (Array.mk [nat_lit 116, nat_lit 117, nat_lit 114, nat_lit 110, nat_lit 101, nat_lit 100, nat_lit 95, nat_lit 102, nat_lit 105, nat_lit 114, nat_lit 115, nat_lit 116]))), .str (Str.mk (Array.mk [nat_lit 116, nat_lit 117, nat_lit 114, nat_lit 110, nat_lit 101, nat_lit 100, nat_lit 95, nat_lit 102, nat_lit 105, nat_lit 114, nat_lit 115, nat_lit 116])) 980, (.ref 496)⟩, ⟨(@PySem.PyData.keyHash P (Str.mk (Array.mk [nat_lit 116, nat_lit 117, nat_lit 114, nat_lit 110, nat_lit 101, nat_lit 100, nat_lit 95, nat_lit 110, nat_lit 117, nat_lit 109, nat_lit 98, nat_lit 101, nat_lit 114]))), .str (Str.mk (Array.mk [nat_lit 116, nat_lit 117, nat_lit 114, nat_lit 110, nat_lit 101, nat_lit 100, nat_lit 95, nat_lit 110, nat_lit 117, nat_lit 109, nat_lit 98, nat_lit 101, nat_lit 114])) 986, (.ref 501)⟩, ⟨(@PySem.PyData.keyHash P (Str.mk (Array.mk [nat_lit 115, nat_lit 97, nat_lit 109, nat_lit 112, nat_lit 108, nat_lit 101, nat_lit 95, nat_lit 97, nat_lit 116]))), .str (Str.mk (Array.mk [nat_lit 115, nat_lit 97, nat_lit 109, nat_lit 112, nat_lit 108, nat_lit 101, nat_lit 95, nat_lit 97, nat_lit 116])) 995, (.ref 508)⟩, ⟨(@PySem.PyData.keyHash P (Str.mk (Array.mk [nat_lit 112, nat_lit 97, nat_lit 100, nat_lit 100, nat_lit 101, nat_lit 100, nat_lit 95, nat_lit 112, nat_lit 97, nat_lit 121, nat_lit 108, nat_lit 111, nat_lit 97, nat_lit 100]))), .str (Str.mk (Array.mk [nat_lit 112, nat_lit 97, nat_lit 100, nat_lit 100, nat_lit 101, nat_lit 100, nat_lit 95, nat_lit 112, nat_lit 97, nat_lit 121, nat_lit 108, nat_lit 111, nat_lit 97, nat_lit 100])) 1004, (.ref 515)⟩, ⟨(@PySem.PyData.keyHash P (Str.mk (Array.mk [nat_lit 112, nat_lit 114, nat_lit 111, nat_lit 116, nat_lit 101, nat_lit 99, nat_lit 116, nat_lit 101, nat_lit 100, nat_lit 95, nat_lit 112, nat_lit 97, nat_lit 99, nat_lit 107, nat_lit 101, nat_lit 116]))), .str (Str.mk (Array.mk [nat_lit 112, nat_lit 114, nat_lit 111, nat_lit 116, nat_lit 101, nat_lit 99, nat_lit 116, nat_lit 101, nat_lit 100, nat_lit 95, nat_lit 112, nat_lit 97, nat_lit 99, nat_lit 107, nat_lit 101, nat_lit 116])) 1019, (.ref 522)⟩, ⟨(@PySem.PyData.keyHash P (Str.mk (Array.mk [nat_lit 115, nat_lit 104, nat_lit 111, nat_lit 114, nat_lit 116, nat_lit 95, nat_lit 104, nat_lit 101, nat_lit 97, nat_lit 100]))), .str (Str.mk (Array.mk [nat_lit 115, nat_lit 104, nat_lit 111, nat_lit 114, nat_lit 116, nat_lit 95, nat_lit 104, nat_lit 101, nat_lit 97, nat_lit 100])) 1031, (.ref 529)⟩, ⟨(@PySem.PyData.keyHash P (Str.mk (Array.mk [nat_lit 104, nat_lit 101, nat_lit 97, nat_lit 100, nat_lit 95, nat_lit 111, nat_lit 102]))), .str (Str.mk (Array.mk [nat_lit 104, nat_lit 101, nat_lit 97, nat_lit 100, nat_lit 95, nat_lit 111, nat_lit 102])) 1043, (.ref 536)⟩, ⟨(@PySem.PyData.keyHash P (Str.mk (Array.mk [nat_lit 110, nat_lit 117, nat_lit 109, nat_lit 98, nat_lit 101, nat_lit 114, nat_lit 95, nat_lit 105, nat_lit 110]))), .str (Str.mk (Array.mk [nat_lit 110, nat_lit 117, nat_lit 109, nat_lit 98, nat_lit 101, nat_lit 114, nat_lit 95, nat_lit 105, nat_lit 110])) 1050, (.ref 543)⟩, ⟨(@PySem.PyData.keyHash P (Str.mk (Array.mk [nat_lit 112, nat_lit 117, nat_lit 116, nat_lit 95, nat_lit 112, nat_lit 97, nat_lit 99, nat_lit 107, nat_lit 101, nat_lit 116]))), .str (Str.mk (Array.mk [nat_lit 112, nat_lit 117, nat_lit 116, nat_lit 95, nat_lit 112, nat_lit 97, nat_lit 99, nat_lit 107, nat_lit 101, nat_lit 116])) 1062, (.ref 550)⟩, ⟨(@PySem.PyData.keyHash P (Str.mk (Array.mk [nat_lit 112, nat_lit 97, nat_lit 99, nat_lit 107, nat_lit 101, nat_lit 116, nat_lit 95, nat_lit 115, nat_lit 105, nat_lit 122, nat_lit 101]))), .str (Str.mk (Array.mk [nat_lit 112, nat_lit 97, nat_lit 99, nat_lit 107, nat_lit 101, nat_lit 116, nat_lit 95, nat_lit 115, nat_lit 105, nat_lit 122, nat_lit 101])) 1072, (.ref 557)⟩, ⟨(@PySem.PyData.keyHash P (Str.mk (Array.mk [nat_lit 80, nat_lit 65, nat_lit 84, nat_lit 72, nat_lit 95, nat_lit 75, nat_lit 73, nat_lit 78, nat_lit 68, nat_lit 83]))), .str (Str.mk (Array.mk [nat_lit 80, nat_lit 65, nat_lit 84, nat_lit 72, nat_lit 95, nat_lit 75, nat_lit 73, nat_lit 78, nat_lit 68, nat_lit 83])) 1077, (.ref 558)⟩, ⟨(@PySem.PyData.keyHash P (Str.mk (Array.mk [nat_lit 112, nat_lit 97, nat_lit 99, nat_lit 107, nat_lit 101, nat_lit 116, nat_lit 95, nat_lit 119, nat_lit 105, nat_lit 116, nat_lit 104]))), .str (Str.mk (Array.mk [nat_lit 112, nat_lit 97, nat_lit 99, nat_lit 107, nat_lit 101, nat_lit 116, nat_lit 95, nat_lit 119, nat_lit 105, nat_lit 116, nat_lit 104])) 1089, (.ref 565)⟩, ⟨(@PySem.PyData.keyHash P (Str.mk (Array.mk [nat_lit 114, nat_lit 111, nat_lit 119, nat_lit 115, nat_lit 95, nat_lit 115, nat_lit 105, nat_lit 122, nat_lit 101]))), .str (Str.mk (Array.mk [nat_lit 114, nat_lit 111, nat_lit 119, nat_lit 115, nat_lit 95, nat_lit 115, nat_lit 105, nat_lit 122, nat_lit 101])) 1103, (.ref 572)⟩, ⟨(@PySem.PyData.keyHash P (Str.mk (Array.mk [nat_lit 109, nat_lit 117, nat_lit 115, nat_lit 116, nat_lit 95, nat_lit 102, nat_lit 105, nat_lit 108, nat_lit 108]))), .str (Str.mk (Array.mk [nat_lit 109, nat_lit 117, nat_lit 115, nat_lit 116, nat_lit 95, nat_lit 102, nat_lit 105, nat_lit 108, nat_lit 108])) 1109, (.ref 577)⟩, ⟨(@PySem.PyData.keyHash P (Str.mk (Array.mk [nat_lit 112, nat_lit 97, nat_lit 100, nat_lit 100, nat_lit 101, nat_lit 100, nat_lit 95, nat_lit 114, nat_lit 111, nat_lit 119, nat_lit 115]))), .str (Str.mk (Array.mk [nat_lit 112, nat_lit 97, nat_lit 100, nat_lit 100, nat_lit 101, nat_lit 100, nat_lit 95, nat_lit 114, nat_lit 111, nat_lit 119, nat_lit 115])) 1119, (.ref 584)⟩, ⟨(@PySem.PyData.keyHash P (Str.mk (Array.mk [nat_lit 102, nat_lit 117, nat_lit 108, nat_lit 108, nat_lit 95, nat_lit 114, nat_lit 111, nat_lit 119, nat_lit 115]))), .str (Str.mk (Array.mk [nat_lit 102, nat_lit 117, nat_lit 108, nat_lit 108, nat_lit 95, nat_lit 114, nat_lit 111, nat_lit 119, nat_lit 115])) 1133, (.ref 591)⟩, ⟨(@PySem.PyData.keyHash P (Str.mk (Array.mk [nat_lit 77, nat_lit 79, nat_lit 83, nat_lit 84, nat_lit 95, nat_lit 66, nat_lit 65, nat_lit 82, nat_lit 69]))), .str (Str.mk (Array.mk [nat_lit 77, nat_lit 79, nat_lit 83, nat_lit 84, nat_lit 95, nat_lit 66, nat_lit 65, nat_lit 82, nat_lit 69])) 1137, (@Value.int 8 1136)⟩, ⟨(@PySem.PyData.keyHash P (Str.mk (Array.mk [nat_lit 105, nat_lit 100, nat_lit 115, nat_lit 95, nat_lit 111, nat_lit 102]))), .str (Str.mk (Array.mk [nat_lit 105, nat_lit 100, nat_lit 115, nat_lit 95, nat_lit 111, nat_lit 102])) 1144, (.ref 598)⟩, ⟨(@PySem.PyData.keyHash P (Str.mk (Array.mk [nat_lit 112, nat_lit 108, nat_lit 97, nat_lit 99, nat_lit 101, nat_lit 115, nat_lit 95, nat_lit 111, nat_lit 102]))), .str (Str.mk (Array.mk [nat_lit 112, nat_lit 108, nat_lit 97, nat_lit 99, nat_lit 101, nat_lit 115, nat_lit 95, nat_lit 111, nat_lit 102])) 1150, (.ref 603)⟩, ⟨(@PySem.PyData.keyHash P (Str.mk (Array.mk [nat_lit 115, nat_lit 101, nat_lit 97, nat_lit 108, nat_lit 101, nat_lit 100]))), .str (Str.mk (Array.mk [nat_lit 115, nat_lit 101, nat_lit 97, nat_lit 108, nat_lit 101, nat_lit 100])) 1165, (.ref 610)⟩, ⟨(@PySem.PyData.keyHash P (Str.mk (Array.mk [nat_lit 119, nat_lit 105, nat_lit 116, nat_lit 104, nat_lit 95, nat_lit 112, nat_lit 97, nat_lit 100, nat_lit 100, nat_lit 105, nat_lit 110, nat_lit 103]))), .str (Str.mk (Array.mk [nat_lit 119, nat_lit 105, nat_lit 116, nat_lit 104, nat_lit 95, nat_lit 112, nat_lit 97, nat_lit 100, nat_lit 100, nat_lit 105, nat_lit 110, nat_lit 103])) 1171, (.ref 615)⟩, ⟨(@PySem.PyData.keyHash P (Str.mk (Array.mk [nat_lit 116, nat_lit 114, nat_lit 105, nat_lit 97, nat_lit 108, nat_lit 115, nat_lit 95, nat_lit 97, nat_lit 115, nat_lit 105, nat_lit 100, nat_lit 101]))), .str (Str.mk (Array.mk [nat_lit 116, nat_lit 114, nat_lit 105, nat_lit 97, nat_lit 108, nat_lit 115, nat_lit 95, nat_lit 97, nat_lit 115, nat_lit 105, nat_lit 100, nat_lit 101])) 1184, (.ref 622)⟩, ⟨(@PySem.PyData.keyHash P (Str.mk (Array.mk [nat_lit 111, nat_lit 116, nat_lit 104, nat_lit 101, nat_lit 114, nat_lit 95, nat_lit 97, nat_lit 110, nat_lit 115, nat_lit 119, nat_lit 101, nat_lit 114, nat_lit 115]))), .str (Str.mk (Array.mk [nat_lit 111, nat_lit 116, nat_lit 104, nat_lit 101, nat_lit 114, nat_lit 95, nat_lit 97, nat_lit 110, nat_lit 115, nat_lit 119, nat_lit 101, nat_lit 114, nat_lit 115])) 1190, (.ref 627)⟩, ⟨(@PySem.PyData.keyHash P (Str.mk (Array.mk [nat_lit 110, nat_lit 111, nat_lit 116, nat_lit 101, nat_lit 95, nat_lit 109, nat_lit 111, nat_lit 118, nat_lit 101]))), .str (Str.mk (Array.mk [nat_lit 110, nat_lit 111, nat_lit 116, nat_lit 101, nat_lit 95, nat_lit 109, nat_lit 111, nat_lit 118, nat_lit 101])) 1205, (.ref 634)⟩, ⟨(@PySem.PyData.keyHash P (Str.mk (Array.mk [nat_lit 84, nat_lit 73, nat_lit 77, nat_lit 69, nat_lit 83, nat_lit 95, nat_lit 82, nat_lit 69, nat_lit 67, nat_lit 69, nat_lit 73, nat_lit 86, nat_lit 69, nat_lit 68]))), .str (Str.mk (Array.mk [nat_lit 84, nat_lit 73, nat_lit 77, nat_lit 69, nat_lit 83, nat_lit 95, nat_lit 82, nat_lit 69, nat_lit 67, nat_lit 69, nat_lit 73, nat_lit 86, nat_lit 69, nat_lit 68])) 1209, (@Value.int 3 1208)⟩, ⟨(@PySem.PyData.keyHash P (Str.mk (Array.mk [nat_lit 80, nat_lit 65, nat_lit 84, nat_lit 72, nat_lit 95, nat_lit 85, nat_lit 78, nat_lit 80, nat_lit 82, nat_lit 79, nat_lit 86, nat_lit 69, nat_lit 78]))), .str (Str.mk (Array.mk [nat_lit 80, nat_lit 65, nat_lit 84, nat_lit 72, nat_lit 95, nat_lit 85, nat_lit 78, nat_lit 80, nat_lit 82, nat_lit 79, nat_lit 86, nat_lit 69, nat_lit 78])) 1211, (.str (Str.mk (Array.mk [nat_lit 117, nat_lit 110, nat_lit 112, nat_lit 114, nat_lit 111, nat_lit 118, nat_lit 101, nat_lit 110])) 1210)⟩, ⟨(@PySem.PyData.keyHash P (Str.mk (Array.mk [nat_lit 80, nat_lit 65, nat_lit 84, nat_lit 72, nat_lit 95, nat_lit 84, nat_lit 82, nat_lit 89, nat_lit 73, nat_lit 78, nat_lit 71]))), .str (Str.mk (Array.mk [nat_lit 80, nat_lit 65, nat_lit 84, nat_lit 72, nat_lit 95, nat_lit 84, nat_lit 82, nat_lit 89, nat_lit 73, nat_lit 78, nat_lit 71])) 1213, (.str (Str.mk (Array.mk [nat_lit 116, nat_lit 114, nat_lit 121, nat_lit 105, nat_lit 110, nat_lit 103])) 1212)⟩, ⟨(@PySem.PyData.keyHash P (Str.mk (Array.mk [nat_lit 80, nat_lit 65, nat_lit 84, nat_lit 72, nat_lit 95, nat_lit 80, nat_lit 82, nat_lit 79, nat_lit 86, nat_lit 69, nat_lit 78]))), .str (Str.mk (Array.mk [nat_lit 80, nat_lit 65, nat_lit 84, nat_lit 72, nat_lit 95, nat_lit 80, nat_lit 82, nat_lit 79, nat_lit 86, nat_lit 69, nat_lit 78])) 1215, (.str (Str.mk (Array.mk [nat_lit 112, nat_lit 114, nat_lit 111, nat_lit 118, nat_lit 101, nat_lit 110])) 1214)⟩, ⟨(@PySem.PyData.keyHash P (Str.mk (Array.mk [nat_lit 80, nat_lit 65, nat_lit 84, nat_lit 72, nat_lit 95, nat_lit 70, nat_lit 65, nat_lit 73, nat_lit 76, nat_lit 69, nat_lit 68]))), .str (Str.mk (Array.mk [nat_lit 80, nat_lit 65, nat_lit 84, nat_lit 72, nat_lit 95, nat_lit 70, nat_lit 65, nat_lit 73, nat_lit 76, nat_lit 69, nat_lit 68])) 1217, (.str (Str.mk (Array.mk [nat_lit 102, nat_lit 97, nat_lit 105, nat_lit 108, nat_lit 101, nat_lit 100])) 1216)⟩, ⟨(@PySem.PyData.keyHash P (Str.mk (Array.mk [nat_lit 80, nat_lit 97, nat_lit 116, nat_lit 104]))), .str (Str.mk (Array.mk [nat_lit 80, nat_lit 97, nat_lit 116, nat_lit 104])) 1324, (.ref 714)⟩, ⟨(@PySem.PyData.keyHash P (Str.mk (Array.mk [nat_lit 80, nat_lit 97, nat_lit 116, nat_lit 104, nat_lit 115]))), .str (Str.mk (Array.mk [nat_lit 80, nat_lit 97, nat_lit 116, nat_lit 104, nat_lit 115])) 1479, (.ref 831)⟩, ⟨(@PySem.PyData.keyHash P (Str.mk (Array.mk [nat_lit 97, nat_lit 100, nat_lit 100, nat_lit 95, nat_lit 110, nat_lit 117, nat_lit 109, nat_lit 98, nat_lit 101, nat_lit 114]))), .str (Str.mk (Array.mk [nat_lit 97, nat_lit 100, nat_lit 100, nat_lit 95, nat_lit 110, nat_lit 117, nat_lit 109, nat_lit 98, nat_lit 101, nat_lit 114])) 1489, (.ref 842)⟩, ⟨(@PySem.PyData.keyHash P (Str.mk (Array.mk [nat_lit 97, nat_lit 100, nat_lit 100, nat_lit 95, nat_lit 114, nat_lit 97, nat_lit 110, nat_lit 103, nat_lit 101]))), .str (Str.mk (Array.mk [nat_lit 97, nat_lit 100, nat_lit 100, nat_lit 95, nat_lit 114, nat_lit 97, nat_lit 110, nat_lit 103, nat_lit 101])) 1501, (.ref 849)⟩, ⟨(@PySem.PyData.keyHash P (Str.mk (Array.mk [nat_lit 112, nat_lit 114, nat_lit 117, nat_lit 110, nat_lit 101]))), .str (Str.mk (Array.mk [nat_lit 112, nat_lit 114, nat_lit 117, nat_lit 110, nat_lit 101])) 1507, (.ref 854)⟩, ⟨(@PySem.PyData.keyHash P (Str.mk (Array.mk [nat_lit 75, nat_lit 69, nat_lit 80, nat_lit 84, nat_lit 95, nat_lit 82, nat_lit 65, nat_lit 78, nat_lit 71, nat_lit 69, nat_lit 83]))), .str (Str.mk (Array.mk [nat_lit 75, nat_lit 69, nat_lit 80, nat_lit 84, nat_lit 95, nat_lit 82, nat_lit 65, nat_lit 78, nat_lit 71, nat_lit 69, nat_lit 83])) 1511, (@Value.int 64 1510)⟩, ⟨(@PySem.PyData.keyHash P (Str.mk (Array.mk [nat_lit 65, nat_lit 67, nat_lit 75, nat_lit 95, nat_lit 69, nat_lit 65, nat_lit 67, nat_lit 72]))), .str (Str.mk (Array.mk [nat_lit 65, nat_lit 67, nat_lit 75, nat_lit 95, nat_lit 69, nat_lit 65, nat_lit 67, nat_lit 72])) 1513, (@Value.int 2 1512)⟩, ⟨(@PySem.PyData.keyHash P (Str.mk (Array.mk [nat_lit 69, nat_lit 67, nat_lit 78, nat_lit 95, nat_lit 80, nat_lit 76, nat_lit 65, nat_lit 67, nat_lit 69, nat_lit 83]))), .str (Str.mk (Array.mk [nat_lit 69, nat_lit 67, nat_lit 78, nat_lit 95, nat_lit 80, nat_lit 76, nat_lit 65, nat_lit 67, nat_lit 69, nat_lit 83])) 1517, (.ref 855)⟩, ⟨(@PySem.PyData.keyHash P (Str.mk (Array.mk [nat_lit 83, nat_lit 101, nat_lit 110, nat_lit 116, nat_lit 80, nat_lit 97, nat_lit 99, nat_lit 107, nat_lit 101, nat_lit 116]))), .str (Str.mk (Array.mk [nat_lit 83, nat_lit 101, nat_lit 110, nat_lit 116, nat_lit 80, nat_lit 97, nat_lit 99, nat_lit 107, nat_lit 101, nat_lit 116])) 1554, (.ref 872)⟩, ⟨(@PySem.PyData.keyHash P (Str.mk (Array.mk [nat_lit 83, nat_lit 112, nat_lit 97, nat_lit 99, nat_lit 101]))), .str (Str.mk (Array.mk [nat_lit 83, nat_lit 112, nat_lit 97, nat_lit 99, nat_lit 101])) 1741, (.ref 1013)⟩, ⟨(@PySem.PyData.keyHash P (Str.mk (Array.mk [nat_lit 107, nat_lit 101, nat_lit 112, nat_lit 116, nat_lit 95, nat_lit 114, nat_lit 97, nat_lit 110, nat_lit 103, nat_lit 101, nat_lit 115]))), .str (Str.mk (Array.mk [nat_lit 107, nat_lit 101, nat_lit 112, nat_lit 116, nat_lit 95, nat_lit 114, nat_lit 97, nat_lit 110, nat_lit 103, nat_lit 101, nat_lit 115])) 1748, (.ref 1024)⟩, ⟨(@PySem.PyData.keyHash P (Str.mk (Array.mk [nat_lit 95, nat_lit 108, nat_lit 97, nat_lit 119, nat_lit 95, nat_lit 116, nat_lit 97, nat_lit 107, nat_lit 101]))), .str (Str.mk (Array.mk [nat_lit 95, nat_lit 108, nat_lit 97, nat_lit 119, nat_lit 95, nat_lit 116, nat_lit 97, nat_lit 107, nat_lit 101])) 1758, (.ref 1031)⟩, ⟨(@PySem.PyData.keyHash P (Str.mk (Array.mk [nat_lit 95, nat_lit 108, nat_lit 97, nat_lit 119, nat_lit 95, nat_lit 115, nat_lit 116, nat_lit 97, nat_lit 116, nat_lit 101]))), .str (Str.mk (Array.mk [nat_lit 95, nat_lit 108, nat_lit 97, nat_lit 119, nat_lit 95, nat_lit 115, nat_lit 116, nat_lit 97, nat_lit 116, nat_lit 101])) 1764, (.ref 1036)⟩, ⟨(@PySem.PyData.keyHash P (Str.mk (Array.mk [nat_lit 95, nat_lit 108, nat_lit 97, nat_lit 119, nat_lit 95, nat_lit 103, nat_lit 111, nat_lit 101, nat_lit 115, nat_lit 95, nat_lit 114, nat_lit 105, nat_lit 103, nat_lit 104, nat_lit 116]))), .str (Str.mk (Array.mk [nat_lit 95, nat_lit 108, nat_lit 97, nat_lit 119, nat_lit 95, nat_lit 103, nat_lit 111, nat_lit 101, nat_lit 115, nat_lit 95, nat_lit 114, nat_lit 105, nat_lit 103, nat_lit 104, nat_lit 116])) 1776, (.ref 1043)⟩, ⟨(@PySem.PyData.keyHash P (Str.mk (Array.mk [nat_lit 108, nat_lit 97, nat_lit 119]))), .str (Str.mk (Array.mk [nat_lit 108, nat_lit 97, nat_lit 119])) 1792, (.ref 1050)⟩]) 142) (Array.mk []))
noncomputable def o4 (P : Params) : Obj := (@Obj.mk (@Value.type PySem.W.SL.s6658869562736209489x6) (some 0) Data.plain (Array.mk []))
noncomputable def o27 (P : Params) : Obj := (@Obj.mk (@Value.type PySem.W.SL.s5856160107412720595x4) none (@Data.fields (Array.mk [(.str (Str.mk (Array.mk [nat_lit 105, nat_lit 110, nat_lit 105, nat_lit 116, nat_lit 105, nat_lit 97, nat_lit 108, nat_lit 95, nat_lit 119, nat_lit 105, nat_lit 110, nat_lit 100, nat_lit 111, nat_lit 119])) 202), (.str (Str.mk (Array.mk [nat_lit 105, nat_lit 110, nat_lit 105, nat_lit 116, nat_lit 105, nat_lit 97, nat_lit 108, nat_lit 95, nat_lit 119, nat_lit 105, nat_lit 110, nat_lit 100, nat_lit 111, nat_lit 119])) 203), (.str (Str.mk (Array.mk [nat_lit 47, nat_lit 99, nat_lit 108, nat_lit 97, nat_lit 105, nat_lit 109, nat_lit 47, nat_lit 99, nat_lit 117, nat_lit 116, nat_lit 46, nat_lit 112, nat_lit 121])) 204), (@Value.int 8 0), (@Value.int 1 0), (@Value.int 0 0), (@Value.int 0 0), (@Value.int 3 0), (.ref 22), (@Value.bool true), (@Value.int 181 0), (.ref 23), Value.none, (.ref 24), (.ref 25), (.ref 26), (@Value.int 206 0), (@Value.int 8 0), (.str (Str.mk (Array.mk [nat_lit 47, nat_lit 99, nat_lit 108, nat_lit 97, nat_lit 105, nat_lit 109, nat_lit 47, nat_lit 99, nat_lit 117, nat_lit 116, nat_lit 46, nat_lit 112, nat_lit 121])) 207)])) (Array.mk []))
noncomputable def o28 (P : Params) : Obj := (fo (@Value.type PySem.W.SL.s7174869446012820540x8) none (Array.mk []) (Str.mk (Array.mk [nat_lit 105, nat_lit 110, nat_lit 105, nat_lit 116, nat_lit 105, nat_lit 97, nat_lit 108, nat_lit 95, nat_lit 119, nat_lit 105, nat_lit 110, nat_lit 100, nat_lit 111, nat_lit 119])) (Str.mk (Array.mk [nat_lit 105, nat_lit 110, nat_lit 105, nat_lit 116, nat_lit 105, nat_lit 97, nat_lit 108, nat_lit 95, nat_lit 119, nat_lit 105, nat_lit 110, nat_lit 100, nat_lit 111, nat_lit 119])) (tp 5) 3 [] Value.none Value.none Value.none (.str (Str.mk (Array.mk [nat_lit 113, nat_lit 117, nat_lit 105, nat_lit 99, nat_lit 46, nat_lit 110, nat_lit 101, nat_lit 119, nat_lit 114, nat_lit 101, nat_lit 110, nat_lit 111])) 194) none (.ref 27) Value.none 0)
noncomputable def o41 (P : Params) : Obj := (@Obj.mk (@Value.type PySem.W.SL.s5856160107412720595x4) none (@Data.fields (Array.mk [(.str (Str.mk (Array.mk [nat_lit 95, nat_lit 95, nat_lit 105, nat_lit 110, nat_lit 105, nat_lit 116, nat_lit 95, nat_lit 95])) 221), (.str (Str.mk (Array.mk [nat_lit 78, nat_lit 101, nat_lit 119, nat_lit 82, nat_lit 101, nat_lit 110, nat_lit 111, nat_lit 46, nat_lit 95, nat_lit 95, nat_lit 105, nat_lit 110, nat_lit 105, nat_lit 116, nat_lit 95, nat_lit 95])) 222), (.str (Str.mk (Array.mk [nat_lit 47, nat_lit 99, nat_lit 108, nat_lit 97, nat_lit 105, nat_lit 109, nat_lit 47, nat_lit 99, nat_lit 117, nat_lit 116, nat_lit 46, nat_lit 112, nat_lit 121])) 223), (@Value.int 12 0), (@Value.int 2 0), (@Value.int 0 0), (@Value.int 0 0), (@Value.int 3 0), (.ref 36), (@Value.bool true), (@Value.int 181 0), (.ref 37), Value.none, (.ref 38), (.ref 39), (.ref 40), (@Value.int 226 0), (@Value.int 12 0), (.str (Str.mk (Array.mk [nat_lit 47, nat_lit 99, nat_lit 108, nat_lit 97, nat_lit 105, nat_lit 109, nat_lit 47, nat_lit 99, nat_lit 117, nat_lit 116, nat_lit 46, nat_lit 112, nat_lit 121])) 227)])) (Array.mk []))
noncomputable def o42 (P : Params) : Obj := (fo (@Value.type PySem.W.SL.s7174869446012820540x8) none (Array.mk []) (Str.mk (Array.mk [nat_lit 95, nat_lit 95, nat_lit 105, nat_lit 110, nat_lit 105, nat_lit 116, nat_lit 95, nat_lit 95])) (Str.mk (Array.mk [nat_lit 78, nat_lit 101, nat_lit 119, nat_lit 82, nat_lit 101, nat_lit 110, nat_lit 111, nat_lit 46, nat_lit 95, nat_lit 95, nat_lit 105, nat_lit 110, nat_lit 105, nat_lit 116, nat_lit 95, nat_lit 95])) (mt 6 0) 3 [] Value.none Value.none Value.none (.str (Str.mk (Array.mk [nat_lit 113, nat_lit 117, nat_lit 105, nat_lit 99, nat_lit 46, nat_lit 110, nat_lit 101, nat_lit 119, nat_lit 114, nat_lit 101, nat_lit 110, nat_lit 111])) 194) none (.ref 41) Value.none 0)
noncomputable def o69 (P : Params) : Obj := (@Obj.mk (@Value.type PySem.W.SL.s5856160107412720595x4) none (@Data.fields (Array.mk [(.str (Str.mk (Array.mk [nat_lit 111, nat_lit 110, nat_lit 95, nat_lit 115, nat_lit 101, nat_lit 110, nat_lit 116])) 252), (.str (Str.mk (Array.mk [nat_lit 78, nat_lit 101, nat_lit 119, nat_lit 82, nat_lit 101, nat_lit 110, nat_lit 111, nat_lit 46, nat_lit 111, nat_lit 110, nat_lit 95, nat_lit 115, nat_lit 101, nat_lit 110, nat_lit 116])) 253), (.str (Str.mk (Array.mk [nat_lit 47, nat_lit 99, nat_lit 108, nat_lit 97, nat_lit 105, nat_lit 109, nat_lit 47, nat_lit 99, nat_lit 117, nat_lit 116, nat_lit 46, nat_lit 112, nat_lit 121])) 254), (@Value.int 29 0), (@Value.int 2 0), (@Value.int 0 0), (@Value.int 0 0), (@Value.int 3 0), (.ref 64), (@Value.bool true), (@Value.int 181 0), (.ref 65), Value.none, (.ref 66), (.ref 67), (.ref 68), (@Value.int 257 0), (@Value.int 29 0), (.str (Str.mk (Array.mk [nat_lit 47, nat_lit 99, nat_lit 108, nat_lit 97, nat_lit 105, nat_lit 109, nat_lit 47, nat_lit 99, nat_lit 117, nat_lit 116, nat_lit 46, nat_lit 112, nat_lit 121])) 258)])) (Array.mk []))
noncomputable def o70 (P : Params) : Obj := (fo (@Value.type PySem.W.SL.s7174869446012820540x8) none (Array.mk []) (Str.mk (Array.mk [nat_lit 111, nat_lit 110, nat_lit 95, nat_lit 115, nat_lit 101, nat_lit 110, nat_lit 116])) (Str.mk (Array.mk [nat_lit 78, nat_lit 101, nat_lit 119, nat_lit 82, nat_lit 101, nat_lit 110, nat_lit 111, nat_lit 46, nat_lit 111, nat_lit 110, nat_lit 95, nat_lit 115, nat_lit 101, nat_lit 110, nat_lit 116])) (mt 6 4) 3 [] Value.none Value.none Value.none (.str (Str.mk (Array.mk [nat_lit 113, nat_lit 117, nat_lit 105, nat_lit 99, nat_lit 46, nat_lit 110, nat_lit 101, nat_lit 119, nat_lit 114, nat_lit 101, nat_lit 110, nat_lit 111])) 194) none (.ref 69) Value.none 0)
noncomputable def o114 (P : Params) : Obj := (@Obj.mk (@Value.type PySem.W.SL.s14018661285674007319x4) none (@Data.dict (Array.mk [⟨(@PySem.PyData.keyHash P (Str.mk (Array.mk [nat_lit 95, nat_lit 95, nat_lit 109, nat_lit 111, nat_lit 100, nat_lit 117, nat_lit 108, nat_lit 101, nat_lit 95, nat_lit 95]))), .str (Str.mk (Array.mk [nat_lit 95, nat_lit 95, nat_lit 109, nat_lit 111, nat_lit 100, nat_lit 117, nat_lit 108, nat_lit 101, nat_lit 95, nat_lit 95])) 216, (.str (Str.mk (Array.mk [nat_lit 113, nat_lit 117, nat_lit 105, nat_lit 99, nat_lit 46, nat_lit 110, nat_lit 101, nat_lit 119, nat_lit 114, nat_lit 101, nat_lit 110, nat_lit 111])) 194)⟩, ⟨(@PySem.PyData.keyHash P (Str.mk (Array.mk [nat_lit 95, nat_lit 95, nat_lit 102, nat_lit 105, nat_lit 114, nat_lit 115, nat_lit 116, nat_lit 108, nat_lit 105, nat_lit 110, nat_lit 101, nat_lit 110, nat_lit 111, nat_lit 95, nat_lit 95]))), .str (Str.mk (Array.mk [nat_lit 95, nat_lit 95, nat_lit 102, nat_lit 105, nat_lit 114, nat_lit 115, nat_lit 116, nat_lit 108, nat_lit 105, nat_lit 110, nat_lit 101, nat_lit 110, nat_lit 111, nat_lit 95, nat_lit 95])) 220, (@Value.int 10 219)⟩, ⟨(@PySem.PyData.keyHash P (Str.mk (Array.mk [nat_lit 95, nat_lit 95, nat_lit 105, nat_lit 110, nat_lit 105, nat_lit 116, nat_lit 95, nat_lit 95]))), .str (Str.mk (Array.mk [nat_lit 95, nat_lit 95, nat_lit 105, nat_lit 110, nat_lit 105, nat_lit 116, nat_lit 95, nat_lit 95])) 228, (.ref 42)⟩, ⟨(@PySem.PyData.keyHash P (Str.mk (Array.mk [nat_lit 109, nat_lit 97, nat_lit 121, nat_lit 95, nat_lit 115, nat_lit 101, nat_lit 110, nat_lit 100]))), .str (Str.mk (Array.mk [nat_lit 109, nat_lit 97, nat_lit 121, nat_lit 95, nat_lit 115, nat_lit 101, nat_lit 110, nat_lit 100])) 236, (.ref 49)⟩, ⟨(@PySem.PyData.keyHash P (Str.mk (Array.mk [nat_lit 105, nat_lit 115, nat_lit 95, nat_lit 115, nat_lit 108, nat_lit 111, nat_lit 119, nat_lit 95, nat_lit 115, nat_lit 116, nat_lit 97, nat_lit 114, nat_lit 116]))), .str (Str.mk (Array.mk [nat_lit 105, nat_lit 115, nat_lit 95, nat_lit 115, nat_lit 108, nat_lit 111, nat_lit 119, nat_lit 95, nat_lit 115, nat_lit 116, nat_lit 97, nat_lit 114, nat_lit 116])) 243, (.ref 56)⟩, ⟨(@PySem.PyData.keyHash P (Str.mk (Array.mk [nat_lit 105, nat_lit 110, nat_lit 95, nat_lit 114, nat_lit 101, nat_lit 99, nat_lit 111, nat_lit 118, nat_lit 101, nat_lit 114, nat_lit 121]))), .str (Str.mk (Array.mk [nat_lit 105, nat_lit 110, nat_lit 95, nat_lit 114, nat_lit 101, nat_lit 99, nat_lit 111, nat_lit 118, nat_lit 101, nat_lit 114, nat_lit 121])) 251, (.ref 63)⟩, ⟨(@PySem.PyData.keyHash P (Str.mk (Array.mk [nat_lit 111, nat_lit 110, nat_lit 95, nat_lit 115, nat_lit 101, nat_lit 110, nat_lit 116]))), .str (Str.mk (Array.mk [nat_lit 111, nat_lit 110, nat_lit 95, nat_lit 115, nat_lit 101, nat_lit 110, nat_lit 116])) 259, (.ref 70)⟩, ⟨(@PySem.PyData.keyHash P (Str.mk (Array.mk [nat_lit 111, nat_lit 110, nat_lit 95, nat_lit 100, nat_lit 105, nat_lit 115, nat_lit 99, nat_lit 97, nat_lit 114, nat_lit 100, nat_lit 101, nat_lit 100]))), .str (Str.mk (Array.mk [nat_lit 111, nat_lit 110, nat_lit 95, nat_lit 100, nat_lit 105, nat_lit 115, nat_lit 99, nat_lit 97, nat_lit 114, nat_lit 100, nat_lit 101, nat_lit 100])) 267, (.ref 77)⟩, ⟨(@PySem.PyData.keyHash P (Str.mk (Array.mk [nat_lit 111, nat_lit 110, nat_lit 95, nat_lit 97, nat_lit 99, nat_lit 107, nat_lit 101, nat_lit 100]))), .str (Str.mk (Array.mk [nat_lit 111, nat_lit 110, nat_lit 95, nat_lit 97, nat_lit 99, nat_lit 107, nat_lit 101, nat_lit 100])) 279, (.ref 84)⟩, ⟨(@PySem.PyData.keyHash P (Str.mk (Array.mk [nat_lit 119, nat_lit 105, nat_lit 100, nat_lit 101, nat_lit 110]))), .str (Str.mk (Array.mk [nat_lit 119, nat_lit 105, nat_lit 100, nat_lit 101, nat_lit 110])) 287, (.ref 91)⟩, ⟨(@PySem.PyData.keyHash P (Str.mk (Array.mk [nat_lit 111, nat_lit 110, nat_lit 95, nat_lit 99, nat_lit 111, nat_lit 110, nat_lit 103, nat_lit 101, nat_lit 115, nat_lit 116, nat_lit 105, nat_lit 111, nat_lit 110]))), .str (Str.mk (Array.mk [nat_lit 111, nat_lit 110, nat_lit 95, nat_lit 99, nat_lit 111, nat_lit 110, nat_lit 103, nat_lit 101, nat_lit 115, nat_lit 116, nat_lit 105, nat_lit 111, nat_lit 110])) 296, (.ref 98)⟩, ⟨(@PySem.PyData.keyHash P (Str.mk (Array.mk [nat_lit 111, nat_lit 110, nat_lit 95, nat_lit 108, nat_lit 111, nat_lit 115, nat_lit 116]))), .str (Str.mk (Array.mk [nat_lit 111, nat_lit 110, nat_lit 95, nat_lit 108, nat_lit 111, nat_lit 115, nat_lit 116])) 306, (.ref 105)⟩, ⟨(@PySem.PyData.keyHash P (Str.mk (Array.mk [nat_lit 111, nat_lit 110, nat_lit 95, nat_lit 112, nat_lit 101, nat_lit 114, nat_lit 115, nat_lit 105, nat_lit 115, nat_lit 116, nat_lit 101, nat_lit 110, nat_lit 116]))), .str (Str.mk (Array.mk [nat_lit 111, nat_lit 110, nat_lit 95, nat_lit 112, nat_lit 101, nat_lit 114, nat_lit 115, nat_lit 105, nat_lit 115, nat_lit 116, nat_lit 101, nat_lit 110, nat_lit 116])) 313, (.ref 112)⟩, ⟨(@PySem.PyData.keyHash P (Str.mk (Array.mk [nat_lit 95, nat_lit 95, nat_lit 115, nat_lit 116, nat_lit 97, nat_lit 116, nat_lit 105, nat_lit 99, nat_lit 95, nat_lit 97, nat_lit 116, nat_lit 116, nat_lit 114, nat_lit 105, nat_lit 98, nat_lit 117, nat_lit 116, nat_lit 101, nat_lit 115, nat_lit 95, nat_lit 95]))), .str (Str.mk (Array.mk [nat_lit 95, nat_lit 95, nat_lit 115, nat_lit 116, nat_lit 97, nat_lit 116, nat_lit 105, nat_lit 99, nat_lit 95, nat_lit 97, nat_lit 116, nat_lit 116, nat_lit 114, nat_lit 105, nat_lit 98, nat_lit 117, nat_lit 116, nat_lit 101, nat_lit 115, nat_lit 95, nat_lit 95])) 320, (.ref 113)⟩, ⟨(@PySem.PyData.keyHash P (Str.mk (Array.mk [nat_lit 95, nat_lit 95, nat_lit 100, nat_lit 105, nat_lit 99, nat_lit 116, nat_lit 95, nat_lit 95]))), .str (Str.mk (Array.mk [nat_lit 95, nat_lit 95, nat_lit 100, nat_lit 105, nat_lit 99, nat_lit 116, nat_lit 95, nat_lit 95])) 322, (.ref 116)⟩, ⟨(@PySem.PyData.keyHash P (Str.mk (Array.mk [nat_lit 95, nat_lit 95, nat_lit 119, nat_lit 101, nat_lit 97, nat_lit 107, nat_lit 114, nat_lit 101, nat_lit 102, nat_lit 95, nat_lit 95]))), .str (Str.mk (Array.mk [nat_lit 95, nat_lit 95, nat_lit 119, nat_lit 101, nat_lit 97, nat_lit 107, nat_lit 114, nat_lit 101, nat_lit 102, nat_lit 95, nat_lit 95])) 324, (.ref 117)⟩, ⟨(@PySem.PyData.keyHash P (Str.mk (Array.mk [nat_lit 95, nat_lit 95, nat_lit 100, nat_lit 111, nat_lit 99, nat_lit 95, nat_lit 95]))), .str (Str.mk (Array.mk [nat_lit 95, nat_lit 95, nat_lit 100, nat_lit 111, nat_lit 99, nat_lit 95, nat_lit 95])) 325, Value.none⟩]) 4) (Array.mk []))
noncomputable def o115 (P : Params) : Obj := (@Obj.mk (@Value.type PySem.W.SL.s17162191345867700912x4) none (@Data.cls (@ClassData.mk (Str.mk (Array.mk [nat_lit 78, nat_lit 101, nat_lit 119, nat_lit 82, nat_lit 101, nat_lit 110, nat_lit 111])) [(@Value.type PySem.W.SL.s2742458400755230247x6)] [(.ref 115), (@Value.type PySem.W.SL.s2742458400755230247x6)] 114 (Str.mk (Array.mk [nat_lit 78, nat_lit 101, nat_lit 119, nat_lit 82, nat_lit 101, nat_lit 110, nat_lit 111])) true [] [] false none false)) (Array.mk [none, none, (some (.str (Str.mk (Array.mk [nat_lit 78, nat_lit 101, nat_lit 119, nat_lit 82, nat_lit 101, nat_lit 110, nat_lit 111])) 209)), (some (.str (Str.mk (Array.mk [nat_lit 78, nat_lit 101, nat_lit 119, nat_lit 82, nat_lit 101, nat_lit 110, nat_lit 111])) 217)), (some (@Value.builtin PySem.W.SL.s11443829558043349243x14)), (some (@Value.bool true))]))
noncomputable def o120 (P : Params) : Obj := (@Obj.mk (@Value.type PySem.W.SL.s2766695959194262286x5) none (@Data.seq (Array.mk [(.str (Str.mk (Array.mk [nat_lit 105, nat_lit 110, nat_lit 105, nat_lit 116, nat_lit 105, nat_lit 97, nat_lit 108])) 330), (.str (Str.mk (Array.mk [nat_lit 104, nat_lit 97, nat_lit 110, nat_lit 100, nat_lit 115, nat_lit 104, nat_lit 97, nat_lit 107, nat_lit 101])) 331), (.str (Str.mk (Array.mk [nat_lit 97, nat_lit 112, nat_lit 112, nat_lit 108, nat_lit 105, nat_lit 99, nat_lit 97, nat_lit 116, nat_lit 105, nat_lit 111, nat_lit 110])) 332)]) 0) (Array.mk []))
noncomputable def o126 (P : Params) : Obj := (@Obj.mk (@Value.type PySem.W.SL.s5856160107412720595x4) none (@Data.fields (Array.mk [(.str (Str.mk (Array.mk [nat_lit 112, nat_lit 114, nat_lit 111, nat_lit 98, nat_lit 101, nat_lit 95, nat_lit 112, nat_lit 101, nat_lit 114, nat_lit 105, nat_lit 111, nat_lit 100])) 334), (.str (Str.mk (Array.mk [nat_lit 112, nat_lit 114, nat_lit 111, nat_lit 98, nat_lit 101, nat_lit 95, nat_lit 112, nat_lit 101, nat_lit 114, nat_lit 105, nat_lit 111, nat_lit 100])) 335), (.str (Str.mk (Array.mk [nat_lit 47, nat_lit 99, nat_lit 108, nat_lit 97, nat_lit 105, nat_lit 109, nat_lit 47, nat_lit 99, nat_lit 117, nat_lit 116, nat_lit 46, nat_lit 112, nat_lit 121])) 336), (@Value.int 51 0), (@Value.int 3 0), (@Value.int 0 0), (@Value.int 0 0), (@Value.int 3 0), (.ref 121), (@Value.bool true), (@Value.int 181 0), (.ref 122), Value.none, (.ref 123), (.ref 124), (.ref 125), (@Value.int 340 0), (@Value.int 51 0), (.str (Str.mk (Array.mk [nat_lit 47, nat_lit 99, nat_lit 108, nat_lit 97, nat_lit 105, nat_lit 109, nat_lit 47, nat_lit 99, nat_lit 117, nat_lit 116, nat_lit 46, nat_lit 112, nat_lit 121])) 341)])) (Array.mk []))
noncomputable def o127 (P : Params) : Obj := (fo (@Value.type PySem.W.SL.s7174869446012820540x8) none (Array.mk []) (Str.mk (Array.mk [nat_lit 112, nat_lit 114, nat_lit 111, nat_lit 98, nat_lit 101, nat_lit 95, nat_lit 112, nat_lit 101, nat_lit 114, nat_lit 105, nat_lit 111, nat_lit 100])) (Str.mk (Array.mk [nat_lit 112, nat_lit 114, nat_lit 111, nat_lit 98, nat_lit 101, nat_lit 95, nat_lit 112, nat_lit 101, nat_lit 114, nat_lit 105, nat_lit 111, nat_lit 100])) (tp 9) 3 [] Value.none Value.none Value.none (.str (Str.mk (Array.mk [nat_lit 113, nat_lit 117, nat_lit 105, nat_lit 99, nat_lit 46, nat_lit 112, nat_lit 116, nat_lit 111])) 328) none (.ref 126) Value.none 0)
noncomputable def o133 (P : Params) : Obj := (@Obj.mk (@Value.type PySem.W.SL.s5856160107412720595x4) none (@Data.fields (Array.mk [(.str (Str.mk (Array.mk [nat_lit 101, nat_lit 97, nat_lit 114, nat_lit 108, nat_lit 105, nat_lit 101, nat_lit 115, nat_lit 116, nat_lit 95, nat_lit 111, nat_lit 102])) 343), (.str (Str.mk (Array.mk [nat_lit 101, nat_lit 97, nat_lit 114, nat_lit 108, nat_lit 105, nat_lit 101, nat_lit 115, nat_lit 116, nat_lit 95, nat_lit 111, nat_lit 102])) 344), (.str (Str.mk (Array.mk [nat_lit 47, nat_lit 99, nat_lit 108, nat_lit 97, nat_lit 105, nat_lit 109, nat_lit 47, nat_lit 99, nat_lit 117, nat_lit 116, nat_lit 46, nat_lit 112, nat_lit 121])) 345), (@Value.int 53 0), (@Value.int 1 0), (@Value.int 0 0), (@Value.int 0 0), (@Value.int 3 0), (.ref 128), (@Value.bool true), (@Value.int 181 0), (.ref 129), Value.none, (.ref 130), (.ref 131), (.ref 132), (@Value.int 350 0), (@Value.int 53 0), (.str (Str.mk (Array.mk [nat_lit 47, nat_lit 99, nat_lit 108, nat_lit 97, nat_lit 105, nat_lit 109, nat_lit 47, nat_lit 99, nat_lit 117, nat_lit 116, nat_lit 46, nat_lit 112, nat_lit 121])) 351)])) (Array.mk []))
noncomputable def o134 (P : Params) : Obj := (fo (@Value.type PySem.W.SL.s7174869446012820540x8) none (Array.mk []) (Str.mk (Array.mk [nat_lit 101, nat_lit 97, nat_lit 114, nat_lit 108, nat_lit 105, nat_lit 101, nat_lit 115, nat_lit 116, nat_lit 95, nat_lit 111, nat_lit 102])) (Str.mk (Array.mk [nat_lit 101, nat_lit 97, nat_lit 114, nat_lit 108, nat_lit 105, nat_lit 101, nat_lit 115, nat_lit 116, nat_lit 95, nat_lit 111, nat_lit 102])) (tp 10) 3 [] Value.none Value.none Value.none (.str (Str.mk (Array.mk [nat_lit 113, nat_lit 117, nat_lit 105, nat_lit 99, nat_lit 46, nat_lit 112, nat_lit 116, nat_lit 111])) 328) none (.ref 133) Value.none 0)
noncomputable def o140 (P : Params) : Obj := (@Obj.mk (@Value.type PySem.W.SL.s5856160107412720595x4) none (@Data.fields (Array.mk [(.str (Str.mk (Array.mk [nat_lit 112, nat_lit 114, nat_lit 111, nat_lit 98, nat_lit 101, nat_lit 95, nat_lit 116, nat_lit 105, nat_lit 109, nat_lit 101, nat_lit 115])) 353), (.str (Str.mk (Array.mk [nat_lit 112, nat_lit 114, nat_lit 111, nat_lit 98, nat_lit 101, nat_lit 95, nat_lit 116, nat_lit 105, nat_lit 109, nat_lit 101, nat_lit 115])) 354), (.str (Str.mk (Array.mk [nat_lit 47, nat_lit 99, nat_lit 108, nat_lit 97, nat_lit 105, nat_lit 109, nat_lit 47, nat_lit 99, nat_lit 117, nat_lit 116, nat_lit 46, nat_lit 112, nat_lit 121])) 355), (@Value.int 60 0), (@Value.int 5 0), (@Value.int 0 0), (@Value.int 0 0), (@Value.int 3 0), (.ref 135), (@Value.bool true), (@Value.int 181 0), (.ref 136), Value.none, (.ref 137), (.ref 138), (.ref 139), (@Value.int 365 0), (@Value.int 60 0), (.str (Str.mk (Array.mk [nat_lit 47, nat_lit 99, nat_lit 108, nat_lit 97, nat_lit 105, nat_lit 109, nat_lit 47, nat_lit 99, nat_lit 117, nat_lit 116, nat_lit 46, nat_lit 112, nat_lit 121])) 366)])) (Array.mk []))
noncomputable def o141 (P : Params) : Obj := (fo (@Value.type PySem.W.SL.s7174869446012820540x8) none (Array.mk []) (Str.mk (Array.mk [nat_lit 112, nat_lit 114, nat_lit 111, nat_lit 98, nat_lit 101, nat_lit 95, nat_lit 116, nat_lit 105, nat_lit 109, nat_lit 101, nat_lit 115])) (Str.mk (Array.mk [nat_lit 112, nat_lit 114, nat_lit 111, nat_lit 98, nat_lit 101, nat_lit 95, nat_lit 116, nat_lit 105, nat_lit 109, nat_lit 101, nat_lit 115])) (tp 11) 3 [] Value.none Value.none Value.none (.str (Str.mk (Array.mk [nat_lit 113, nat_lit 117, nat_lit 105, nat_lit 99, nat_lit 46, nat_lit 112, nat_lit 116, nat_lit 111])) 328) none (.ref 140) Value.none 0)
noncomputable def o145 (P : Params) : Obj := (@Obj.mk (@Value.type PySem.W.SL.s5856160107412720595x4) none (@Data.fields (Array.mk [(.str (Str.mk (Array.mk [nat_lit 105, nat_lit 115, nat_lit 95, nat_lit 97, nat_lit 110, nat_lit 121, nat_lit 116, nat_lit 104, nat_lit 105, nat_lit 110, nat_lit 103, nat_lit 95, nat_lit 97, nat_lit 115, nat_lit 107, nat_lit 101, nat_lit 100])) 368), (.str (Str.mk (Array.mk [nat_lit 105, nat_lit 115, nat_lit 95, nat_lit 97, nat_lit 110, nat_lit 121, nat_lit 116, nat_lit 104, nat_lit 105, nat_lit 110, nat_lit 103, nat_lit 95, nat_lit 97, nat_lit 115, nat_lit 107, nat_lit 101, nat_lit 100])) 369), (.str (Str.mk (Array.mk [nat_lit 47, nat_lit 99, nat_lit 108, nat_lit 97, nat_lit 105, nat_lit 109, nat_lit 47, nat_lit 99, nat_lit 117, nat_lit 116, nat_lit 46, nat_lit 112, nat_lit 121])) 370), (@Value.int 69 0), (@Value.int 1 0), (@Value.int 0 0), (@Value.int 0 0), (@Value.int 3 0), (.ref 142), (@Value.bool true), (@Value.int 181 0), (.ref 143), Value.none, Value.none, Value.none, (.ref 144), (@Value.int 371 0), (@Value.int 69 0), (.str (Str.mk (Array.mk [nat_lit 47, nat_lit 99, nat_lit 108, nat_lit 97, nat_lit 105, nat_lit 109, nat_lit 47, nat_lit 99, nat_lit 117, nat_lit 116, nat_lit 46, nat_lit 112, nat_lit 121])) 372)])) (Array.mk []))
noncomputable def o146 (P : Params) : Obj := (fo (@Value.type PySem.W.SL.s7174869446012820540x8) none (Array.mk []) (Str.mk (Array.mk [nat_lit 105, nat_lit 115, nat_lit 95, nat_lit 97, nat_lit 110, nat_lit 121, nat_lit 116, nat_lit 104, nat_lit 105, nat_lit 110, nat_lit 103, nat_lit 95, nat_lit 97, nat_lit 115, nat_lit 107, nat_lit 101, nat_lit 100])) (Str.mk (Array.mk [nat_lit 105, nat_lit 115, nat_lit 95, nat_lit 97, nat_lit 110, nat_lit 121, nat_lit 116, nat_lit 104, nat_lit 105, nat_lit 110, nat_lit 103, nat_lit 95, nat_lit 97, nat_lit 115, nat_lit 107, nat_lit 101, nat_lit 100])) (tp 12) 3 [] Value.none Value.none Value.none (.str (Str.mk (Array.mk [nat_lit 113, nat_lit 117, nat_lit 105, nat_lit 99, nat_lit 46, nat_lit 112, nat_lit 116, nat_lit 111])) 328) none (.ref 145) Value.none 0)
noncomputable def o152 (P : Params) : Obj := (@Obj.mk (@Value.type PySem.W.SL.s5856160107412720595x4) none (@Data.fields (Array.mk [(.str (Str.mk (Array.mk [nat_lit 112, nat_lit 114, nat_lit 111, nat_lit 98, nat_lit 101, nat_lit 95, nat_lit 100, nat_lit 117, nat_lit 101])) 374), (.str (Str.mk (Array.mk [nat_lit 112, nat_lit 114, nat_lit 111, nat_lit 98, nat_lit 101, nat_lit 95, nat_lit 100, nat_lit 117, nat_lit 101])) 375), (.str (Str.mk (Array.mk [nat_lit 47, nat_lit 99, nat_lit 108, nat_lit 97, nat_lit 105, nat_lit 109, nat_lit 47, nat_lit 99, nat_lit 117, nat_lit 116, nat_lit 46, nat_lit 112, nat_lit 121])) 376), (@Value.int 71 0), (@Value.int 8 0), (@Value.int 0 0), (@Value.int 0 0), (@Value.int 3 0), (.ref 147), (@Value.bool true), (@Value.int 181 0), (.ref 148), Value.none, (.ref 149), (.ref 150), (.ref 151), (@Value.int 385 0), (@Value.int 71 0), (.str (Str.mk (Array.mk [nat_lit 47, nat_lit 99, nat_lit 108, nat_lit 97, nat_lit 105, nat_lit 109, nat_lit 47, nat_lit 99, nat_lit 117, nat_lit 116, nat_lit 46, nat_lit 112, nat_lit 121])) 386)])) (Array.mk []))
noncomputable def o153 (P : Params) : Obj := (fo (@Value.type PySem.W.SL.s7174869446012820540x8) none (Array.mk []) (Str.mk (Array.mk [nat_lit 112, nat_lit 114, nat_lit 111, nat_lit 98, nat_lit 101, nat_lit 95, nat_lit 100, nat_lit 117, nat_lit 101])) (Str.mk (Array.mk [nat_lit 112, nat_lit 114, nat_lit 111, nat_lit 98, nat_lit 101, nat_lit 95, nat_lit 100, nat_lit 117, nat_lit 101])) (tp 13) 3 [] Value.none Value.none Value.none (.str (Str.mk (Array.mk [nat_lit 113, nat_lit 117, nat_lit 105, nat_lit 99, nat_lit 46, nat_lit 112, nat_lit 116, nat_lit 111])) 328) none (.ref 152) Value.none 0)
noncomputable def o159 (P : Params) : Obj := (@Obj.mk (@Value.type PySem.W.SL.s5856160107412720595x4) none (@Data.fields (Array.mk [(.str (Str.mk (Array.mk [nat_lit 110, nat_lit 101, nat_lit 120, nat_lit 116, nat_lit 95, nat_lit 116, nat_lit 105, nat_lit 109, nat_lit 101, nat_lit 114])) 388), (.str (Str.mk (Array.mk [nat_lit 110, nat_lit 101, nat_lit 120, nat_lit 116, nat_lit 95, nat_lit 116, nat_lit 105, nat_lit 109, nat_lit 101, nat_lit 114])) 389), (.str (Str.mk (Array.mk [nat_lit 47, nat_lit 99, nat_lit 108, nat_lit 97, nat_lit 105, nat_lit 109, nat_lit 47, nat_lit 99, nat_lit 117, nat_lit 116, nat_lit 46, nat_lit 112, nat_lit 121])) 390), (@Value.int 77 0), (@Value.int 3 0), (@Value.int 0 0), (@Value.int 0 0), (@Value.int 3 0), (.ref 154), (@Value.bool true), (@Value.int 181 0), (.ref 155), Value.none, (.ref 156), (.ref 157), (.ref 158), (@Value.int 395 0), (@Value.int 77 0), (.str (Str.mk (Array.mk [nat_lit 47, nat_lit 99, nat_lit 108, nat_lit 97, nat_lit 105, nat_lit 109, nat_lit 47, nat_lit 99, nat_lit 117, nat_lit 116, nat_lit 46, nat_lit 112, nat_lit 121])) 396)])) (Array.mk []))
noncomputable def o160 (P : Params) : Obj := (fo (@Value.type PySem.W.SL.s7174869446012820540x8) none (Array.mk []) (Str.mk (Array.mk [nat_lit 110, nat_lit 101, nat_lit 120, nat_lit 116, nat_lit 95, nat_lit 116, nat_lit 105, nat_lit 109, nat_lit 101, nat_lit 114])) (Str.mk (Array.mk [nat_lit 110, nat_lit 101, nat_lit 120, nat_lit 116, nat_lit 95, nat_lit 116, nat_lit 105, nat_lit 109, nat_lit 101, nat_lit 114])) (tp 14) 3 [] Value.none Value.none Value.none (.str (Str.mk (Array.mk [nat_lit 113, nat_lit 117, nat_lit 105, nat_lit 99, nat_lit 46, nat_lit 112, nat_lit 116, nat_lit 111])) 328) none (.ref 159) Value.none 0)
noncomputable def o175 (P : Params) : Obj := (@Obj.mk (@Value.type PySem.W.SL.s2766695959194262286x5) none (@Data.seq (Array.mk [Value.none]) 0) (Array.mk []))
noncomputable def o181 (P : Params) : Obj := (@Obj.mk (@Value.type PySem.W.SL.s5856160107412720595x4) none (@Data.fields (Array.mk [(.str (Str.mk (Array.mk [nat_lit 95, nat_lit 95, nat_lit 105, nat_lit 110, nat_lit 105, nat_lit 116, nat_lit 95, nat_lit 95])) 425), (.str (Str.mk (Array.mk [nat_lit 82, nat_lit 116, nat_lit 116, nat_lit 46, nat_lit 95, nat_lit 95, nat_lit 105, nat_lit 110, nat_lit 105, nat_lit 116, nat_lit 95, nat_lit 95])) 426), (.str (Str.mk (Array.mk [nat_lit 47, nat_lit 99, nat_lit 108, nat_lit 97, nat_lit 105, nat_lit 109, nat_lit 47, nat_lit 99, nat_lit 117, nat_lit 116, nat_lit 46, nat_lit 112, nat_lit 121])) 427), (@Value.int 91 0), (@Value.int 2 0), (@Value.int 0 0), (@Value.int 0 0), (@Value.int 3 0), (.ref 176), (@Value.bool true), (@Value.int 181 0), (.ref 177), Value.none, (.ref 178), (.ref 179), (.ref 180), (@Value.int 430 0), (@Value.int 91 0), (.str (Str.mk (Array.mk [nat_lit 47, nat_lit 99, nat_lit 108, nat_lit 97, nat_lit 105, nat_lit 109, nat_lit 47, nat_lit 99, nat_lit 117, nat_lit 116, nat_lit 46, nat_lit 112, nat_lit 121])) 431)])) (Array.mk []))
noncomputable def o182 (P : Params) : Obj := (fo (@Value.type PySem.W.SL.s7174869446012820540x8) none (Array.mk []) (Str.mk (Array.mk [nat_lit 95, nat_lit 95, nat_lit 105, nat_lit 110, nat_lit 105, nat_lit 116, nat_lit 95, nat_lit 95])) (Str.mk (Array.mk [nat_lit 82, nat_lit 116, nat_lit 116, nat_lit 46, nat_lit 95, nat_lit 95, nat_lit 105, nat_lit 110, nat_lit 105, nat_lit 116, nat_lit 95, nat_lit 95])) (mt 19 0) 3 [] (.ref 175) Value.none Value.none (.str (Str.mk (Array.mk [nat_lit 113, nat_lit 117, nat_lit 105, nat_lit 99, nat_lit 46, nat_lit 114, nat_lit 116, nat_lit 116])) 398) none (.ref 181) Value.none 0)
noncomputable def o188 (P : Params) : Obj := (@Obj.mk (@Value.type PySem.W.SL.s5856160107412720595x4) none (@Data.fields (Array.mk [(.str (Str.mk (Array.mk [nat_lit 115, nat_lit 109, nat_lit 111, nat_lit 111, nat_lit 116, nat_lit 104, nat_lit 101, nat_lit 100])) 433), (.str (Str.mk (Array.mk [nat_lit 82, nat_lit 116, nat_lit 116, nat_lit 46, nat_lit 115, nat_lit 109, nat_lit 111, nat_lit 111, nat_lit 116, nat_lit 104, nat_lit 101, nat_lit 100])) 434), (.str (Str.mk (Array.mk [nat_lit 47, nat_lit 99, nat_lit 108, nat_lit 97, nat_lit 105, nat_lit 109, nat_lit 47, nat_lit 99, nat_lit 117, nat_lit 116, nat_lit 46, nat_lit 112, nat_lit 121])) 435), (@Value.int 99 0), (@Value.int 1 0), (@Value.int 0 0), (@Value.int 0 0), (@Value.int 3 0), (.ref 183), (@Value.bool true), (@Value.int 181 0), (.ref 184), Value.none, (.ref 185), (.ref 186), (.ref 187), (@Value.int 437 0), (@Value.int 99 0), (.str (Str.mk (Array.mk [nat_lit 47, nat_lit 99, nat_lit 108, nat_lit 97, nat_lit 105, nat_lit 109, nat_lit 47, nat_lit 99, nat_lit 117, nat_lit 116, nat_lit 46, nat_lit 112, nat_lit 121])) 438)])) (Array.mk []))
noncomputable def o189 (P : Params) : Obj := (fo (@Value.type PySem.W.SL.s7174869446012820540x8) none (Array.mk []) (Str.mk (Array.mk [nat_lit 115, nat_lit 109, nat_lit 111, nat_lit 111, nat_lit 116, nat_lit 104, nat_lit 101, nat_lit 100])) (Str.mk (Array.mk [nat_lit 82, nat_lit 116, nat_lit 116, nat_lit 46, nat_lit 115, nat_lit 109, nat_lit 111, nat_lit 111, nat_lit 116, nat_lit 104, nat_lit 101, nat_lit 100])) (mt 19 1) 3 [] Value.none Value.none Value.none (.str (Str.mk (Array.mk [nat_lit 113, nat_lit 117, nat_lit 105, nat_lit 99, nat_lit 46, nat_lit 114, nat_lit 116, nat_lit 116])) 398) none (.ref 188) Value.none 0)
noncomputable def o216 (P : Params) : Obj := (@Obj.mk (@Value.type PySem.W.SL.s5856160107412720595x4) none (@Data.fields (Array.mk [(.str (Str.mk (Array.mk [nat_lit 112, nat_lit 114, nat_lit 111, nat_lit 98, nat_lit 101, nat_lit 95, nat_lit 98, nat_lit 97, nat_lit 115, nat_lit 101])) 467), (.str (Str.mk (Array.mk [nat_lit 82, nat_lit 116, nat_lit 116, nat_lit 46, nat_lit 112, nat_lit 114, nat_lit 111, nat_lit 98, nat_lit 101, nat_lit 95, nat_lit 98, nat_lit 97, nat_lit 115, nat_lit 101])) 468), (.str (Str.mk (Array.mk [nat_lit 47, nat_lit 99, nat_lit 108, nat_lit 97, nat_lit 105, nat_lit 109, nat_lit 47, nat_lit 99, nat_lit 117, nat_lit 116, nat_lit 46, nat_lit 112, nat_lit 121])) 469), (@Value.int 124 0), (@Value.int 1 0), (@Value.int 0 0), (@Value.int 0 0), (@Value.int 3 0), (.ref 211), (@Value.bool true), (@Value.int 181 0), (.ref 212), Value.none, (.ref 213), (.ref 214), (.ref 215), (@Value.int 471 0), (@Value.int 124 0), (.str (Str.mk (Array.mk [nat_lit 47, nat_lit 99, nat_lit 108, nat_lit 97, nat_lit 105, nat_lit 109, nat_lit 47, nat_lit 99, nat_lit 117, nat_lit 116, nat_lit 46, nat_lit 112, nat_lit 121])) 472)])) (Array.mk []))
noncomputable def o217 (P : Params) : Obj := (fo (@Value.type PySem.W.SL.s7174869446012820540x8) none (Array.mk []) (Str.mk (Array.mk [nat_lit 112, nat_lit 114, nat_lit 111, nat_lit 98, nat_lit 101, nat_lit 95, nat_lit 98, nat_lit 97, nat_lit 115, nat_lit 101])) (Str.mk (Array.mk [nat_lit 82, nat_lit 116, nat_lit 116, nat_lit 46, nat_lit 112, nat_lit 114, nat_lit 111, nat_lit 98, nat_lit 101, nat_lit 95, nat_lit 98, nat_lit 97, nat_lit 115, nat_lit 101])) (mt 19 5) 3 [] Value.none Value.none Value.none (.str (Str.mk (Array.mk [nat_lit 113, nat_lit 117, nat_lit 105, nat_lit 99, nat_lit 46, nat_lit 114, nat_lit 116, nat_lit 116])) 398) none (.ref 216) Value.none 0)
noncomputable def o219 (P : Params) : Obj := (@Obj.mk (@Value.type PySem.W.SL.s14018661285674007319x4) none (@Data.dict (Array.mk [⟨(@PySem.PyData.keyHash P (Str.mk (Array.mk [nat_lit 95, nat_lit 95, nat_lit 109, nat_lit 111, nat_lit 100, nat_lit 117, nat_lit 108, nat_lit 101, nat_lit 95, nat_lit 95]))), .str (Str.mk (Array.mk [nat_lit 95, nat_lit 95, nat_lit 109, nat_lit 111, nat_lit 100, nat_lit 117, nat_lit 108, nat_lit 101, nat_lit 95, nat_lit 95])) 420, (.str (Str.mk (Array.mk [nat_lit 113, nat_lit 117, nat_lit 105, nat_lit 99, nat_lit 46, nat_lit 114, nat_lit 116, nat_lit 116])) 398)⟩, ⟨(@PySem.PyData.keyHash P (Str.mk (Array.mk [nat_lit 95, nat_lit 95, nat_lit 102, nat_lit 105, nat_lit 114, nat_lit 115, nat_lit 116, nat_lit 108, nat_lit 105, nat_lit 110, nat_lit 101, nat_lit 110, nat_lit 111, nat_lit 95, nat_lit 95]))), .str (Str.mk (Array.mk [nat_lit 95, nat_lit 95, nat_lit 102, nat_lit 105, nat_lit 114, nat_lit 115, nat_lit 116, nat_lit 108, nat_lit 105, nat_lit 110, nat_lit 101, nat_lit 110, nat_lit 111, nat_lit 95, nat_lit 95])) 424, (@Value.int 89 423)⟩, ⟨(@PySem.PyData.keyHash P (Str.mk (Array.mk [nat_lit 95, nat_lit 95, nat_lit 105, nat_lit 110, nat_lit 105, nat_lit 116, nat_lit 95, nat_lit 95]))), .str (Str.mk (Array.mk [nat_lit 95, nat_lit 95, nat_lit 105, nat_lit 110, nat_lit 105, nat_lit 116, nat_lit 95, nat_lit 95])) 432, (.ref 182)⟩, ⟨(@PySem.PyData.keyHash P (Str.mk (Array.mk [nat_lit 115, nat_lit 109, nat_lit 111, nat_lit 111, nat_lit 116, nat_lit 104, nat_lit 101, nat_lit 100]))), .str (Str.mk (Array.mk [nat_lit 115, nat_lit 109, nat_lit 111, nat_lit 111, nat_lit 116, nat_lit 104, nat_lit 101, nat_lit 100])) 439, (.ref 189)⟩, ⟨(@PySem.PyData.keyHash P (Str.mk (Array.mk [nat_lit 118, nat_lit 97, nat_lit 114, nat_lit 105, nat_lit 97, nat_lit 110, nat_lit 99, nat_lit 101]))), .str (Str.mk (Array.mk [nat_lit 118, nat_lit 97, nat_lit 114, nat_lit 105, nat_lit 97, nat_lit 110, nat_lit 99, nat_lit 101])) 446, (.ref 196)⟩, ⟨(@PySem.PyData.keyHash P (Str.mk (Array.mk [nat_lit 115, nat_lit 97, nat_lit 109, nat_lit 112, nat_lit 108, nat_lit 101]))), .str (Str.mk (Array.mk [nat_lit 115, nat_lit 97, nat_lit 109, nat_lit 112, nat_lit 108, nat_lit 101])) 459, (.ref 203)⟩, ⟨(@PySem.PyData.keyHash P (Str.mk (Array.mk [nat_lit 98, nat_lit 101, nat_lit 103, nat_lit 105, nat_lit 110, nat_lit 95, nat_lit 108, nat_lit 101, nat_lit 97, nat_lit 115, nat_lit 116]))), .str (Str.mk (Array.mk [nat_lit 98, nat_lit 101, nat_lit 103, nat_lit 105, nat_lit 110, nat_lit 95, nat_lit 108, nat_lit 101, nat_lit 97, nat_lit 115, nat_lit 116])) 466, (.ref 210)⟩, ⟨(@PySem.PyData.keyHash P (Str.mk (Array.mk [nat_lit 112, nat_lit 114, nat_lit 111, nat_lit 98, nat_lit 101, nat_lit 95, nat_lit 98, nat_lit 97, nat_lit 115, nat_lit 101]))), .str (Str.mk (Array.mk [nat_lit 112, nat_lit 114, nat_lit 111, nat_lit 98, nat_lit 101, nat_lit 95, nat_lit 98, nat_lit 97, nat_lit 115, nat_lit 101])) 473, (.ref 217)⟩, ⟨(@PySem.PyData.keyHash P (Str.mk (Array.mk [nat_lit 95, nat_lit 95, nat_lit 115, nat_lit 116, nat_lit 97, nat_lit 116, nat_lit 105, nat_lit 99, nat_lit 95, nat_lit 97, nat_lit 116, nat_lit 116, nat_lit 114, nat_lit 105, nat_lit 98, nat_lit 117, nat_lit 116, nat_lit 101, nat_lit 115, nat_lit 95, nat_lit 95]))), .str (Str.mk (Array.mk [nat_lit 95, nat_lit 95, nat_lit 115, nat_lit 116, nat_lit 97, nat_lit 116, nat_lit 105, nat_lit 99, nat_lit 95, nat_lit 97, nat_lit 116, nat_lit 116, nat_lit 114, nat_lit 105, nat_lit 98, nat_lit 117, nat_lit 116, nat_lit 101, nat_lit 115, nat_lit 95, nat_lit 95])) 480, (.ref 218)⟩, ⟨(@PySem.PyData.keyHash P (Str.mk (Array.mk [nat_lit 95, nat_lit 95, nat_lit 100, nat_lit 105, nat_lit 99, nat_lit 116, nat_lit 95, nat_lit 95]))), .str (Str.mk (Array.mk [nat_lit 95, nat_lit 95, nat_lit 100, nat_lit 105, nat_lit 99, nat_lit 116, nat_lit 95, nat_lit 95])) 482, (.ref 221)⟩, ⟨(@PySem.PyData.keyHash P (Str.mk (Array.mk [nat_lit 95, nat_lit 95, nat_lit 119, nat_lit 101, nat_lit 97, nat_lit 107, nat_lit 114, nat_lit 101, nat_lit 102, nat_lit 95, nat_lit 95]))), .str (Str.mk (Array.mk [nat_lit 95, nat_lit 95, nat_lit 119, nat_lit 101, nat_lit 97, nat_lit 107, nat_lit 114, nat_lit 101, nat_lit 102, nat_lit 95, nat_lit 95])) 484, (.ref 222)⟩, ⟨(@PySem.PyData.keyHash P (Str.mk (Array.mk [nat_lit 95, nat_lit 95, nat_lit 100, nat_lit 111, nat_lit 99, nat_lit 95, nat_lit 95]))), .str (Str.mk (Array.mk [nat_lit 95, nat_lit 95, nat_lit 100, nat_lit 111, nat_lit 99, nat_lit 95, nat_lit 95])) 485, Value.none⟩]) 4) (Array.mk []))
noncomputable def o220 (P : Params) : Obj := (@Obj.mk (@Value.type PySem.W.SL.s17162191345867700912x4) none (@Data.cls (@ClassData.mk (Str.mk (Array.mk [nat_lit 82, nat_lit 116, nat_lit 116])) [(@Value.type PySem.W.SL.s2742458400755230247x6)] [(.ref 220), (@Value.type PySem.W.SL.s2742458400755230247x6)] 219 (Str.mk (Array.mk [nat_lit 82, nat_lit 116, nat_lit 116])) true [] [] false none false)) (Array.mk [none, none, (some (.str (Str.mk (Array.mk [nat_lit 82, nat_lit 116, nat_lit 116])) 413)), (some (.str (Str.mk (Array.mk [nat_lit 82, nat_lit 116, nat_lit 116])) 421)), (some (@Value.builtin PySem.W.SL.s11443829558043349243x14)), (some (@Value.bool true))]))
noncomputable def o237 (P : Params) : Obj := (@Obj.mk (@Value.type PySem.W.SL.s5856160107412720595x4) none (@Data.fields (Array.mk [(.str (Str.mk (Array.mk [nat_lit 114, nat_lit 101, nat_lit 110, nat_lit 101, nat_lit 119, nat_lit 95, nat_lit 119, nat_lit 97, nat_lit 121])) 499), (.str (Str.mk (Array.mk [nat_lit 114, nat_lit 101, nat_lit 110, nat_lit 101, nat_lit 119, nat_lit 95, nat_lit 119, nat_lit 97, nat_lit 121])) 500), (.str (Str.mk (Array.mk [nat_lit 47, nat_lit 99, nat_lit 108, nat_lit 97, nat_lit 105, nat_lit 109, nat_lit 47, nat_lit 99, nat_lit 117, nat_lit 116, nat_lit 46, nat_lit 112, nat_lit 121])) 501), (@Value.int 131 0), (@Value.int 2 0), (@Value.int 0 0), (@Value.int 0 0), (@Value.int 3 0), (.ref 232), (@Value.bool true), (@Value.int 181 0), (.ref 233), Value.none, (.ref 234), (.ref 235), (.ref 236), (@Value.int 505 0), (@Value.int 131 0), (.str (Str.mk (Array.mk [nat_lit 47, nat_lit 99, nat_lit 108, nat_lit 97, nat_lit 105, nat_lit 109, nat_lit 47, nat_lit 99, nat_lit 117, nat_lit 116, nat_lit 46, nat_lit 112, nat_lit 121])) 506)])) (Array.mk []))
noncomputable def o238 (P : Params) : Obj := (fo (@Value.type PySem.W.SL.s7174869446012820540x8) none (Array.mk []) (Str.mk (Array.mk [nat_lit 114, nat_lit 101, nat_lit 110, nat_lit 101, nat_lit 119, nat_lit 95, nat_lit 119, nat_lit 97, nat_lit 121])) (Str.mk (Array.mk [nat_lit 114, nat_lit 101, nat_lit 110, nat_lit 101, nat_lit 119, nat_lit 95, nat_lit 119, nat_lit 97, nat_lit 121])) (tp 22) 3 [] Value.none Value.none Value.none (.str (Str.mk (Array.mk [nat_lit 113, nat_lit 117, nat_lit 105, nat_lit 99, nat_lit 46, nat_lit 99, nat_lit 111, nat_lit 110, nat_lit 110, nat_lit 108, nat_lit 111, nat_lit 115, nat_lit 115])) 488) none (.ref 237) Value.none 0)
noncomputable def o244 (P : Params) : Obj := (@Obj.mk (@Value.type PySem.W.SL.s5856160107412720595x4) none (@Data.fields (Array.mk [(.str (Str.mk (Array.mk [nat_lit 108, nat_lit 97, nat_lit 115, nat_lit 116, nat_lit 95, nat_lit 97, nat_lit 115, nat_lit 107, nat_lit 101, nat_lit 100])) 508), (.str (Str.mk (Array.mk [nat_lit 108, nat_lit 97, nat_lit 115, nat_lit 116, nat_lit 95, nat_lit 97, nat_lit 115, nat_lit 107, nat_lit 101, nat_lit 100])) 509), (.str (Str.mk (Array.mk [nat_lit 47, nat_lit 99, nat_lit 108, nat_lit 97, nat_lit 105, nat_lit 109, nat_lit 47, nat_lit 99, nat_lit 117, nat_lit 116, nat_lit 46, nat_lit 112, nat_lit 121])) 510), (@Value.int 136 0), (@Value.int 1 0), (@Value.int 0 0), (@Value.int 0 0), (@Value.int 3 0), (.ref 239), (@Value.bool true), (@Value.int 181 0), (.ref 240), Value.none, (.ref 241), (.ref 242), (.ref 243), (@Value.int 515 0), (@Value.int 136 0), (.str (Str.mk (Array.mk [nat_lit 47, nat_lit 99, nat_lit 108, nat_lit 97, nat_lit 105, nat_lit 109, nat_lit 47, nat_lit 99, nat_lit 117, nat_lit 116, nat_lit 46, nat_lit 112, nat_lit 121])) 516)])) (Array.mk []))
noncomputable def o245 (P : Params) : Obj := (fo (@Value.type PySem.W.SL.s7174869446012820540x8) none (Array.mk []) (Str.mk (Array.mk [nat_lit 108, nat_lit 97, nat_lit 115, nat_lit 116, nat_lit 95, nat_lit 97, nat_lit 115, nat_lit 107, nat_lit 101, nat_lit 100])) (Str.mk (Array.mk [nat_lit 108, nat_lit 97, nat_lit 115, nat_lit 116, nat_lit 95, nat_lit 97, nat_lit 115, nat_lit 107, nat_lit 101, nat_lit 100])) (tp 23) 3 [] Value.none Value.none Value.none (.str (Str.mk (Array.mk [nat_lit 113, nat_lit 117, nat_lit 105, nat_lit 99, nat_lit 46, nat_lit 99, nat_lit 111, nat_lit 110, nat_lit 110, nat_lit 108, nat_lit 111, nat_lit 115, nat_lit 115])) 488) none (.ref 244) Value.none 0)
noncomputable def o251 (P : Params) : Obj := (@Obj.mk (@Value.type PySem.W.SL.s5856160107412720595x4) none (@Data.fields (Array.mk [(.str (Str.mk (Array.mk [nat_lit 105, nat_lit 115, nat_lit 95, nat_lit 118, nat_lit 97, nat_lit 108, nat_lit 105, nat_lit 100, nat_lit 97, nat_lit 116, nat_lit 101, nat_lit 100])) 518), (.str (Str.mk (Array.mk [nat_lit 105, nat_lit 115, nat_lit 95, nat_lit 118, nat_lit 97, nat_lit 108, nat_lit 105, nat_lit 100, nat_lit 97, nat_lit 116, nat_lit 101, nat_lit 100])) 519), (.str (Str.mk (Array.mk [nat_lit 47, nat_lit 99, nat_lit 108, nat_lit 97, nat_lit 105, nat_lit 109, nat_lit 47, nat_lit 99, nat_lit 117, nat_lit 116, nat_lit 46, nat_lit 112, nat_lit 121])) 520), (@Value.int 142 0), (@Value.int 1 0), (@Value.int 0 0), (@Value.int 0 0), (@Value.int 3 0), (.ref 246), (@Value.bool true), (@Value.int 181 0), (.ref 247), Value.none, (.ref 248), (.ref 249), (.ref 250), (@Value.int 522 0), (@Value.int 142 0), (.str (Str.mk (Array.mk [nat_lit 47, nat_lit 99, nat_lit 108, nat_lit 97, nat_lit 105, nat_lit 109, nat_lit 47, nat_lit 99, nat_lit 117, nat_lit 116, nat_lit 46, nat_lit 112, nat_lit 121])) 523)])) (Array.mk []))
noncomputable def o252 (P : Params) : Obj := (fo (@Value.type PySem.W.SL.s7174869446012820540x8) none (Array.mk []) (Str.mk (Array.mk [nat_lit 105, nat_lit 115, nat_lit 95, nat_lit 118, nat_lit 97, nat_lit 108, nat_lit 105, nat_lit 100, nat_lit 97, nat_lit 116, nat_lit 101, nat_lit 100])) (Str.mk (Array.mk [nat_lit 105, nat_lit 115, nat_lit 95, nat_lit 118, nat_lit 97, nat_lit 108, nat_lit 105, nat_lit 100, nat_lit 97, nat_lit 116, nat_lit 101, nat_lit 100])) (tp 24) 3 [] Value.none Value.none Value.none (.str (Str.mk (Array.mk [nat_lit 113, nat_lit 117, nat_lit 105, nat_lit 99, nat_lit 46, nat_lit 99, nat_lit 111, nat_lit 110, nat_lit 110, nat_lit 108, nat_lit 111, nat_lit 115, nat_lit 115])) 488) none (.ref 251) Value.none 0)
noncomputable def o263 (P : Params) : Obj := (@Obj.mk (@Value.type PySem.W.SL.s5856160107412720595x4) none (@Data.fields (Array.mk [(.str (Str.mk (Array.mk [nat_lit 115, nat_lit 101, nat_lit 116, nat_lit 95, nat_lit 116, nat_lit 105, nat_lit 109, nat_lit 101, nat_lit 114])) 533), (.str (Str.mk (Array.mk [nat_lit 115, nat_lit 101, nat_lit 116, nat_lit 95, nat_lit 116, nat_lit 105, nat_lit 109, nat_lit 101, nat_lit 114])) 534), (.str (Str.mk (Array.mk [nat_lit 47, nat_lit 99, nat_lit 108, nat_lit 97, nat_lit 105, nat_lit 109, nat_lit 47, nat_lit 99, nat_lit 117, nat_lit 116, nat_lit 46, nat_lit 112, nat_lit 121])) 535), (@Value.int 148 0), (@Value.int 2 0), (@Value.int 0 0), (@Value.int 0 0), (@Value.int 3 0), (.ref 260), (@Value.bool true), (@Value.int 181 0), (.ref 261), Value.none, Value.none, Value.none, (.ref 262), (@Value.int 536 0), (@Value.int 148 0), (.str (Str.mk (Array.mk [nat_lit 47, nat_lit 99, nat_lit 108, nat_lit 97, nat_lit 105, nat_lit 109, nat_lit 47, nat_lit 99, nat_lit 117, nat_lit 116, nat_lit 46, nat_lit 112, nat_lit 121])) 537)])) (Array.mk []))
noncomputable def o264 (P : Params) : Obj := (fo (@Value.type PySem.W.SL.s7174869446012820540x8) none (Array.mk []) (Str.mk (Array.mk [nat_lit 115, nat_lit 101, nat_lit 116, nat_lit 95, nat_lit 116, nat_lit 105, nat_lit 109, nat_lit 101, nat_lit 114])) (Str.mk (Array.mk [nat_lit 115, nat_lit 101, nat_lit 116, nat_lit 95, nat_lit 116, nat_lit 105, nat_lit 109, nat_lit 101, nat_lit 114])) (tp 26) 3 [] Value.none Value.none Value.none (.str (Str.mk (Array.mk [nat_lit 113, nat_lit 117, nat_lit 105, nat_lit 99, nat_lit 46, nat_lit 99, nat_lit 111, nat_lit 110, nat_lit 110, nat_lit 108, nat_lit 111, nat_lit 115, nat_lit 115])) 488) none (.ref 263) Value.none 0)
noncomputable def o265 (P : Params) : Obj := (@Obj.mk (@Value.type PySem.W.SL.s2766695959194262286x5) none (@Data.seq (Array.mk [(.str (Str.mk (Array.mk [nat_lit 97, nat_lit 99, nat_lit 107])) 541), (.str (Str.mk (Array.mk [nat_lit 112, nat_lit 97, nat_lit 100, nat_lit 100, nat_lit 105, nat_lit 110, nat_lit 103])) 542), (.str (Str.mk (Array.mk [nat_lit 99, nat_lit 108, nat_lit 111, nat_lit 115, nat_lit 101])) 543)]) 0) (Array.mk []))
noncomputable def o271 (P : Params) : Obj := (@Obj.mk (@Value.type PySem.W.SL.s5856160107412720595x4) none (@Data.fields (Array.mk [(.str (Str.mk (Array.mk [nat_lit 105, nat_lit 115, nat_lit 95, nat_lit 101, nat_lit 108, nat_lit 105, nat_lit 99, nat_lit 105, nat_lit 116, nat_lit 105, nat_lit 110, nat_lit 103])) 545), (.str (Str.mk (Array.mk [nat_lit 105, nat_lit 115, nat_lit 95, nat_lit 101, nat_lit 108, nat_lit 105, nat_lit 99, nat_lit 105, nat_lit 116, nat_lit 105, nat_lit 110, nat_lit 103])) 546), (.str (Str.mk (Array.mk [nat_lit 47, nat_lit 99, nat_lit 108, nat_lit 97, nat_lit 105, nat_lit 109, nat_lit 47, nat_lit 99, nat_lit 117, nat_lit 116, nat_lit 46, nat_lit 112, nat_lit 121])) 547), (@Value.int 157 0), (@Value.int 1 0), (@Value.int 0 0), (@Value.int 0 0), (@Value.int 3 0), (.ref 266), (@Value.bool true), (@Value.int 181 0), (.ref 267), Value.none, (.ref 268), (.ref 269), (.ref 270), (@Value.int 549 0), (@Value.int 157 0), (.str (Str.mk (Array.mk [nat_lit 47, nat_lit 99, nat_lit 108, nat_lit 97, nat_lit 105, nat_lit 109, nat_lit 47, nat_lit 99, nat_lit 117, nat_lit 116, nat_lit 46, nat_lit 112, nat_lit 121])) 550)])) (Array.mk []))
noncomputable def o272 (P : Params) : Obj := (fo (@Value.type PySem.W.SL.s7174869446012820540x8) none (Array.mk []) (Str.mk (Array.mk [nat_lit 105, nat_lit 115, nat_lit 95, nat_lit 101, nat_lit 108, nat_lit 105, nat_lit 99, nat_lit 105, nat_lit 116, nat_lit 105, nat_lit 110, nat_lit 103])) (Str.mk (Array.mk [nat_lit 105, nat_lit 115, nat_lit 95, nat_lit 101, nat_lit 108, nat_lit 105, nat_lit 99, nat_lit 105, nat_lit 116, nat_lit 105, nat_lit 110, nat_lit 103])) (tp 29) 3 [] Value.none Value.none Value.none (.str (Str.mk (Array.mk [nat_lit 113, nat_lit 117, nat_lit 105, nat_lit 99, nat_lit 46, nat_lit 102, nat_lit 114, nat_lit 97, nat_lit 109, nat_lit 101, nat_lit 114, nat_lit 117, nat_lit 108, nat_lit 101, nat_lit 115])) 539) none (.ref 271) Value.none 0)
noncomputable def o278 (P : Params) : Obj := (@Obj.mk (@Value.type PySem.W.SL.s5856160107412720595x4) none (@Data.fields (Array.mk [(.str (Str.mk (Array.mk [nat_lit 99, nat_lit 111, nat_lit 117, nat_lit 110, nat_lit 116, nat_lit 115, nat_lit 95, nat_lit 105, nat_lit 110, nat_lit 95, nat_lit 102, nat_lit 108, nat_lit 105, nat_lit 103, nat_lit 104, nat_lit 116])) 552), (.str (Str.mk (Array.mk [nat_lit 99, nat_lit 111, nat_lit 117, nat_lit 110, nat_lit 116, nat_lit 115, nat_lit 95, nat_lit 105, nat_lit 110, nat_lit 95, nat_lit 102, nat_lit 108, nat_lit 105, nat_lit 103, nat_lit 104, nat_lit 116])) 553), (.str (Str.mk (Array.mk [nat_lit 47, nat_lit 99, nat_lit 108, nat_lit 97, nat_lit 105, nat_lit 109, nat_lit 47, nat_lit 99, nat_lit 117, nat_lit 116, nat_lit 46, nat_lit 112, nat_lit 121])) 554), (@Value.int 159 0), (@Value.int 1 0), (@Value.int 0 0), (@Value.int 0 0), (@Value.int 3 0), (.ref 273), (@Value.bool true), (@Value.int 181 0), (.ref 274), Value.none, (.ref 275), (.ref 276), (.ref 277), (@Value.int 556 0), (@Value.int 159 0), (.str (Str.mk (Array.mk [nat_lit 47, nat_lit 99, nat_lit 108, nat_lit 97, nat_lit 105, nat_lit 109, nat_lit 47, nat_lit 99, nat_lit 117, nat_lit 116, nat_lit 46, nat_lit 112, nat_lit 121])) 557)])) (Array.mk []))
noncomputable def o279 (P : Params) : Obj := (fo (@Value.type PySem.W.SL.s7174869446012820540x8) none (Array.mk []) (Str.mk (Array.mk [nat_lit 99, nat_lit 111, nat_lit 117, nat_lit 110, nat_lit 116, nat_lit 115, nat_lit 95, nat_lit 105, nat_lit 110, nat_lit 95, nat_lit 102, nat_lit 108, nat_lit 105, nat_lit 103, nat_lit 104, nat_lit 116])) (Str.mk (Array.mk [nat_lit 99, nat_lit 111, nat_lit 117, nat_lit 110, nat_lit 116, nat_lit 115, nat_lit 95, nat_lit 105, nat_lit 110, nat_lit 95, nat_lit 102, nat_lit 108, nat_lit 105, nat_lit 103, nat_lit 104, nat_lit 116])) (tp 30) 3 [] Value.none Value.none Value.none (.str (Str.mk (Array.mk [nat_lit 113, nat_lit 117, nat_lit 105, nat_lit 99, nat_lit 46, nat_lit 102, nat_lit 114, nat_lit 97, nat_lit 109, nat_lit 101, nat_lit 114, nat_lit 117, nat_lit 108, nat_lit 101, nat_lit 115])) 539) none (.ref 278) Value.none 0)
noncomputable def o283 (P : Params) : Obj := (@Obj.mk (@Value.type PySem.W.SL.s5856160107412720595x4) none (@Data.fields (Array.mk [(.str (Str.mk (Array.mk [nat_lit 97, nat_lit 110, nat_lit 121, nat_lit 95, nat_lit 101, nat_lit 108, nat_lit 105, nat_lit 99, nat_lit 105, nat_lit 116, nat_lit 105, nat_lit 110, nat_lit 103])) 559), (.str (Str.mk (Array.mk [nat_lit 97, nat_lit 110, nat_lit 121, nat_lit 95, nat_lit 101, nat_lit 108, nat_lit 105, nat_lit 99, nat_lit 105, nat_lit 116, nat_lit 105, nat_lit 110, nat_lit 103])) 560), (.str (Str.mk (Array.mk [nat_lit 47, nat_lit 99, nat_lit 108, nat_lit 97, nat_lit 105, nat_lit 109, nat_lit 47, nat_lit 99, nat_lit 117, nat_lit 116, nat_lit 46, nat_lit 112, nat_lit 121])) 561), (@Value.int 161 0), (@Value.int 1 0), (@Value.int 0 0), (@Value.int 0 0), (@Value.int 3 0), (.ref 280), (@Value.bool true), (@Value.int 181 0), (.ref 281), Value.none, Value.none, Value.none, (.ref 282), (@Value.int 562 0), (@Value.int 161 0), (.str (Str.mk (Array.mk [nat_lit 47, nat_lit 99, nat_lit 108, nat_lit 97, nat_lit 105, nat_lit 109, nat_lit 47, nat_lit 99, nat_lit 117, nat_lit 116, nat_lit 46, nat_lit 112, nat_lit 121])) 563)])) (Array.mk []))
noncomputable def o284 (P : Params) : Obj := (fo (@Value.type PySem.W.SL.s7174869446012820540x8) none (Array.mk []) (Str.mk (Array.mk [nat_lit 97, nat_lit 110, nat_lit 121, nat_lit 95, nat_lit 101, nat_lit 108, nat_lit 105, nat_lit 99, nat_lit 105, nat_lit 116, nat_lit 105, nat_lit 110, nat_lit 103])) (Str.mk (Array.mk [nat_lit 97, nat_lit 110, nat_lit 121, nat_lit 95, nat_lit 101, nat_lit 108, nat_lit 105, nat_lit 99, nat_lit 105, nat_lit 116, nat_lit 105, nat_lit 110, nat_lit 103])) (tp 31) 3 [] Value.none Value.none Value.none (.str (Str.mk (Array.mk [nat_lit 113, nat_lit 117, nat_lit 105, nat_lit 99, nat_lit 46, nat_lit 102, nat_lit 114, nat_lit 97, nat_lit 109, nat_lit 101, nat_lit 114, nat_lit 117, nat_lit 108, nat_lit 101, nat_lit 115])) 539) none (.ref 283) Value.none 0)
noncomputable def o288 (P : Params) : Obj := (@Obj.mk (@Value.type PySem.W.SL.s5856160107412720595x4) none (@Data.fields (Array.mk [(.str (Str.mk (Array.mk [nat_lit 97, nat_lit 110, nat_lit 121, nat_lit 95, nat_lit 105, nat_lit 110, nat_lit 95, nat_lit 102, nat_lit 108, nat_lit 105, nat_lit 103, nat_lit 104, nat_lit 116])) 565), (.str (Str.mk (Array.mk [nat_lit 97, nat_lit 110, nat_lit 121, nat_lit 95, nat_lit 105, nat_lit 110, nat_lit 95, nat_lit 102, nat_lit 108, nat_lit 105, nat_lit 103, nat_lit 104, nat_lit 116])) 566), (.str (Str.mk (Array.mk [nat_lit 47, nat_lit 99, nat_lit 108, nat_lit 97, nat_lit 105, nat_lit 109, nat_lit 47, nat_lit 99, nat_lit 117, nat_lit 116, nat_lit 46, nat_lit 112, nat_lit 121])) 567), (@Value.int 163 0), (@Value.int 1 0), (@Value.int 0 0), (@Value.int 0 0), (@Value.int 3 0), (.ref 285), (@Value.bool true), (@Value.int 181 0), (.ref 286), Value.none, Value.none, Value.none, (.ref 287), (@Value.int 568 0), (@Value.int 163 0), (.str (Str.mk (Array.mk [nat_lit 47, nat_lit 99, nat_lit 108, nat_lit 97, nat_lit 105, nat_lit 109, nat_lit 47, nat_lit 99, nat_lit 117, nat_lit 116, nat_lit 46, nat_lit 112, nat_lit 121])) 569)])) (Array.mk []))
noncomputable def o289 (P : Params) : Obj := (fo (@Value.type PySem.W.SL.s7174869446012820540x8) none (Array.mk []) (Str.mk (Array.mk [nat_lit 97, nat_lit 110, nat_lit 121, nat_lit 95, nat_lit 105, nat_lit 110, nat_lit 95, nat_lit 102, nat_lit 108, nat_lit 105, nat_lit 103, nat_lit 104, nat_lit 116])) (Str.mk (Array.mk [nat_lit 97, nat_lit 110, nat_lit 121, nat_lit 95, nat_lit 105, nat_lit 110, nat_lit 95, nat_lit 102, nat_lit 108, nat_lit 105, nat_lit 103, nat_lit 104, nat_lit 116])) (tp 32) 3 [] Value.none Value.none Value.none (.str (Str.mk (Array.mk [nat_lit 113, nat_lit 117, nat_lit 105, nat_lit 99, nat_lit 46, nat_lit 102, nat_lit 114, nat_lit 97, nat_lit 109, nat_lit 101, nat_lit 114, nat_lit 117, nat_lit 108, nat_lit 101, nat_lit 115])) 539) none (.ref 288) Value.none 0)
noncomputable def o330 (P : Params) : Obj := (@Obj.mk (@Value.type PySem.W.SL.s2766695959194262286x5) none (@Data.seq (Array.mk [(@Value.int 1 691), (@Value.int 2 692), (@Value.int 4 693), (@Value.int 8 694)]) 0) (Array.mk []))
noncomputable def o336 (P : Params) : Obj := (@Obj.mk (@Value.type PySem.W.SL.s5856160107412720595x4) none (@Data.fields (Array.mk [(.str (Str.mk (Array.mk [nat_lit 112, nat_lit 117, nat_lit 116, nat_lit 95, nat_lit 119, nat_lit 104, nat_lit 111, nat_lit 108, nat_lit 101])) 696), (.str (Str.mk (Array.mk [nat_lit 112, nat_lit 117, nat_lit 116, nat_lit 95, nat_lit 119, nat_lit 104, nat_lit 111, nat_lit 108, nat_lit 101])) 697), (.str (Str.mk (Array.mk [nat_lit 47, nat_lit 99, nat_lit 108, nat_lit 97, nat_lit 105, nat_lit 109, nat_lit 47, nat_lit 99, nat_lit 117, nat_lit 116, nat_lit 46, nat_lit 112, nat_lit 121])) 698), (@Value.int 207 0), (@Value.int 2 0), (@Value.int 0 0), (@Value.int 0 0), (@Value.int 3 0), (.ref 331), (@Value.bool true), (@Value.int 181 0), (.ref 332), Value.none, (.ref 333), (.ref 334), (.ref 335), (@Value.int 703 0), (@Value.int 207 0), (.str (Str.mk (Array.mk [nat_lit 47, nat_lit 99, nat_lit 108, nat_lit 97, nat_lit 105, nat_lit 109, nat_lit 47, nat_lit 99, nat_lit 117, nat_lit 116, nat_lit 46, nat_lit 112, nat_lit 121])) 704)])) (Array.mk []))
noncomputable def o337 (P : Params) : Obj := (fo (@Value.type PySem.W.SL.s7174869446012820540x8) none (Array.mk []) (Str.mk (Array.mk [nat_lit 112, nat_lit 117, nat_lit 116, nat_lit 95, nat_lit 119, nat_lit 104, nat_lit 111, nat_lit 108, nat_lit 101])) (Str.mk (Array.mk [nat_lit 112, nat_lit 117, nat_lit 116, nat_lit 95, nat_lit 119, nat_lit 104, nat_lit 111, nat_lit 108, nat_lit 101])) (tp 65) 3 [] Value.none Value.none Value.none (.str (Str.mk (Array.mk [nat_lit 113, nat_lit 117, nat_lit 105, nat_lit 99, nat_lit 46, nat_lit 118, nat_lit 97, nat_lit 114, nat_lit 105, nat_lit 110, nat_lit 116])) 689) none (.ref 336) Value.none 0)
noncomputable def o343 (P : Params) : Obj := (@Obj.mk (@Value.type PySem.W.SL.s5856160107412720595x4) none (@Data.fields (Array.mk [(.str (Str.mk (Array.mk [nat_lit 118, nat_lit 97, nat_lit 114, nat_lit 105, nat_lit 110, nat_lit 116, nat_lit 95, nat_lit 115, nat_lit 105, nat_lit 122, nat_lit 101])) 706), (.str (Str.mk (Array.mk [nat_lit 118, nat_lit 97, nat_lit 114, nat_lit 105, nat_lit 110, nat_lit 116, nat_lit 95, nat_lit 115, nat_lit 105, nat_lit 122, nat_lit 101])) 707), (.str (Str.mk (Array.mk [nat_lit 47, nat_lit 99, nat_lit 108, nat_lit 97, nat_lit 105, nat_lit 109, nat_lit 47, nat_lit 99, nat_lit 117, nat_lit 116, nat_lit 46, nat_lit 112, nat_lit 121])) 708), (@Value.int 215 0), (@Value.int 1 0), (@Value.int 0 0), (@Value.int 0 0), (@Value.int 3 0), (.ref 338), (@Value.bool true), (@Value.int 181 0), (.ref 339), Value.none, (.ref 340), (.ref 341), (.ref 342), (@Value.int 711 0), (@Value.int 215 0), (.str (Str.mk (Array.mk [nat_lit 47, nat_lit 99, nat_lit 108, nat_lit 97, nat_lit 105, nat_lit 109, nat_lit 47, nat_lit 99, nat_lit 117, nat_lit 116, nat_lit 46, nat_lit 112, nat_lit 121])) 712)])) (Array.mk []))
noncomputable def o344 (P : Params) : Obj := (fo (@Value.type PySem.W.SL.s7174869446012820540x8) none (Array.mk []) (Str.mk (Array.mk [nat_lit 118, nat_lit 97, nat_lit 114, nat_lit 105, nat_lit 110, nat_lit 116, nat_lit 95, nat_lit 115, nat_lit 105, nat_lit 122, nat_lit 101])) (Str.mk (Array.mk [nat_lit 118, nat_lit 97, nat_lit 114, nat_lit 105, nat_lit 110, nat_lit 116, nat_lit 95, nat_lit 115, nat_lit 105, nat_lit 122, nat_lit 101])) (tp 66) 3 [] Value.none Value.none Value.none (.str (Str.mk (Array.mk [nat_lit 113, nat_lit 117, nat_lit 105, nat_lit 99, nat_lit 46, nat_lit 118, nat_lit 97, nat_lit 114, nat_lit 105, nat_lit 110, nat_lit 116])) 689) none (.ref 343) Value.none 0)
noncomputable def o350 (P : Params) : Obj := (@Obj.mk (@Value.type PySem.W.SL.s5856160107412720595x4) none (@Data.fields (Array.mk [(.str (Str.mk (Array.mk [nat_lit 112, nat_lit 117, nat_lit 116, nat_lit 95, nat_lit 118, nat_lit 97, nat_lit 114, nat_lit 105, nat_lit 110, nat_lit 116])) 714), (.str (Str.mk (Array.mk [nat_lit 112, nat_lit 117, nat_lit 116, nat_lit 95, nat_lit 118, nat_lit 97, nat_lit 114, nat_lit 105, nat_lit 110, nat_lit 116])) 715), (.str (Str.mk (Array.mk [nat_lit 47, nat_lit 99, nat_lit 108, nat_lit 97, nat_lit 105, nat_lit 109, nat_lit 47, nat_lit 99, nat_lit 117, nat_lit 116, nat_lit 46, nat_lit 112, nat_lit 121])) 716), (@Value.int 220 0), (@Value.int 2 0), (@Value.int 0 0), (@Value.int 0 0), (@Value.int 3 0), (.ref 345), (@Value.bool true), (@Value.int 181 0), (.ref 346), Value.none, (.ref 347), (.ref 348), (.ref 349), (@Value.int 720 0), (@Value.int 220 0), (.str (Str.mk (Array.mk [nat_lit 47, nat_lit 99, nat_lit 108, nat_lit 97, nat_lit 105, nat_lit 109, nat_lit 47, nat_lit 99, nat_lit 117, nat_lit 116, nat_lit 46, nat_lit 112, nat_lit 121])) 721)])) (Array.mk []))
noncomputable def o351 (P : Params) : Obj := (fo (@Value.type PySem.W.SL.s7174869446012820540x8) none (Array.mk []) (Str.mk (Array.mk [nat_lit 112, nat_lit 117, nat_lit 116, nat_lit 95, nat_lit 118, nat_lit 97, nat_lit 114, nat_lit 105, nat_lit 110, nat_lit 116])) (Str.mk (Array.mk [nat_lit 112, nat_lit 117, nat_lit 116, nat_lit 95, nat_lit 118, nat_lit 97, nat_lit 114, nat_lit 105, nat_lit 110, nat_lit 116])) (tp 67) 3 [] Value.none Value.none Value.none (.str (Str.mk (Array.mk [nat_lit 113, nat_lit 117, nat_lit 105, nat_lit 99, nat_lit 46, nat_lit 118, nat_lit 97, nat_lit 114, nat_lit 105, nat_lit 110, nat_lit 116])) 689) none (.ref 350) Value.none 0)
noncomputable def o352 (P : Params) : Obj := (@Obj.mk (@Value.type PySem.W.SL.s14018661285674007319x4) none (@Data.dict (Array.mk [⟨(@PySem.PyData.keyHash P (Str.mk (Array.mk [nat_lit 112, nat_lit 105, nat_lit 110, nat_lit 103]))), .str (Str.mk (Array.mk [nat_lit 112, nat_lit 105, nat_lit 110, nat_lit 103])) 725, (@Value.int 1 637)⟩, ⟨(@PySem.PyData.keyHash P (Str.mk (Array.mk [nat_lit 114, nat_lit 101, nat_lit 115, nat_lit 101, nat_lit 116, nat_lit 95, nat_lit 115, nat_lit 116, nat_lit 114, nat_lit 101, nat_lit 97, nat_lit 109]))), .str (Str.mk (Array.mk [nat_lit 114, nat_lit 101, nat_lit 115, nat_lit 101, nat_lit 116, nat_lit 95, nat_lit 115, nat_lit 116, nat_lit 114, nat_lit 101, nat_lit 97, nat_lit 109])) 726, (@Value.int 4 643)⟩, ⟨(@PySem.PyData.keyHash P (Str.mk (Array.mk [nat_lit 115, nat_lit 116, nat_lit 111, nat_lit 112, nat_lit 95, nat_lit 115, nat_lit 101, nat_lit 110, nat_lit 100, nat_lit 105, nat_lit 110, nat_lit 103]))), .str (Str.mk (Array.mk [nat_lit 115, nat_lit 116, nat_lit 111, nat_lit 112, nat_lit 95, nat_lit 115, nat_lit 101, nat_lit 110, nat_lit 100, nat_lit 105, nat_lit 110, nat_lit 103])) 727, (@Value.int 5 645)⟩, ⟨(@PySem.PyData.keyHash P (Str.mk (Array.mk [nat_lit 109, nat_lit 97, nat_lit 120, nat_lit 95, nat_lit 100, nat_lit 97, nat_lit 116, nat_lit 97]))), .str (Str.mk (Array.mk [nat_lit 109, nat_lit 97, nat_lit 120, nat_lit 95, nat_lit 100, nat_lit 97, nat_lit 116, nat_lit 97])) 728, (@Value.int 16 653)⟩, ⟨(@PySem.PyData.keyHash P (Str.mk (Array.mk [nat_lit 109, nat_lit 97, nat_lit 120, nat_lit 95, nat_lit 115, nat_lit 116, nat_lit 114, nat_lit 101, nat_lit 97, nat_lit 109, nat_lit 95, nat_lit 100, nat_lit 97, nat_lit 116, nat_lit 97]))), .str (Str.mk (Array.mk [nat_lit 109, nat_lit 97, nat_lit 120, nat_lit 95, nat_lit 115, nat_lit 116, nat_lit 114, nat_lit 101, nat_lit 97, nat_lit 109, nat_lit 95, nat_lit 100, nat_lit 97, nat_lit 116, nat_lit 97])) 729, (@Value.int 17 655)⟩, ⟨(@PySem.PyData.keyHash P (Str.mk (Array.mk [nat_lit 100, nat_lit 97, nat_lit 116, nat_lit 97, nat_lit 95, nat_lit 98, nat_lit 108, nat_lit 111, nat_lit 99, nat_lit 107, nat_lit 101, nat_lit 100]))), .str (Str.mk (Array.mk [nat_lit 100, nat_lit 97, nat_lit 116, nat_lit 97, nat_lit 95, nat_lit 98, nat_lit 108, nat_lit 111, nat_lit 99, nat_lit 107, nat_lit 101, nat_lit 100])) 730, (@Value.int 20 661)⟩, ⟨(@PySem.PyData.keyHash P (Str.mk (Array.mk [nat_lit 115, nat_lit 116, nat_lit 114, nat_lit 101, nat_lit 97, nat_lit 109, nat_lit 95, nat_lit 100, nat_lit 97, nat_lit 116, nat_lit 97, nat_lit 95, nat_lit 98, nat_lit 108, nat_lit 111, nat_lit 99, nat_lit 107, nat_lit 101, nat_lit 100]))), .str (Str.mk (Array.mk [nat_lit 115, nat_lit 116, nat_lit 114, nat_lit 101, nat_lit 97, nat_lit 109, nat_lit 95, nat_lit 100, nat_lit 97, nat_lit 116, nat_lit 97, nat_lit 95, nat_lit 98, nat_lit 108, nat_lit 111, nat_lit 99, nat_lit 107, nat_lit 101, nat_lit 100])) 731, (@Value.int 21 663)⟩, ⟨(@PySem.PyData.keyHash P (Str.mk (Array.mk [nat_lit 114, nat_lit 101, nat_lit 116, nat_lit 105, nat_lit 114, nat_lit 101, nat_lit 95, nat_lit 99, nat_lit 111, nat_lit 110, nat_lit 110, nat_lit 101, nat_lit 99, nat_lit 116, nat_lit 105, nat_lit 111, nat_lit 110, nat_lit 95, nat_lit 105, nat_lit 100]))), .str (Str.mk (Array.mk [nat_lit 114, nat_lit 101, nat_lit 116, nat_lit 105, nat_lit 114, nat_lit 101, nat_lit 95, nat_lit 99, nat_lit 111, nat_lit 110, nat_lit 110, nat_lit 101, nat_lit 99, nat_lit 116, nat_lit 105, nat_lit 111, nat_lit 110, nat_lit 95, nat_lit 105, nat_lit 100])) 732, (@Value.int 25 671)⟩, ⟨(@PySem.PyData.keyHash P (Str.mk (Array.mk [nat_lit 104, nat_lit 97, nat_lit 110, nat_lit 100, nat_lit 115, nat_lit 104, nat_lit 97, nat_lit 107, nat_lit 101, nat_lit 95, nat_lit 100, nat_lit 111, nat_lit 110, nat_lit 101]))), .str (Str.mk (Array.mk [nat_lit 104, nat_lit 97, nat_lit 110, nat_lit 100, nat_lit 115, nat_lit 104, nat_lit 97, nat_lit 107, nat_lit 101, nat_lit 95, nat_lit 100, nat_lit 111, nat_lit 110, nat_lit 101])) 733, (@Value.int 30 681)⟩]) 9) (Array.mk []))
noncomputable def o356 (P : Params) : Obj := (@Obj.mk (@Value.type PySem.W.SL.s5856160107412720595x4) none (@Data.fields (Array.mk [(.str (Str.mk (Array.mk [nat_lit 112, nat_lit 117, nat_lit 116, nat_lit 95, nat_lit 110, nat_lit 117, nat_lit 109, nat_lit 98, nat_lit 101, nat_lit 114, nat_lit 115])) 744), (.str (Str.mk (Array.mk [nat_lit 112, nat_lit 117, nat_lit 116, nat_lit 95, nat_lit 110, nat_lit 117, nat_lit 109, nat_lit 98, nat_lit 101, nat_lit 114, nat_lit 115])) 745), (.str (Str.mk (Array.mk [nat_lit 47, nat_lit 99, nat_lit 108, nat_lit 97, nat_lit 105, nat_lit 109, nat_lit 47, nat_lit 99, nat_lit 117, nat_lit 116, nat_lit 46, nat_lit 112, nat_lit 121])) 746), (@Value.int 229 0), (@Value.int 1 0), (@Value.int 0 0), (@Value.int 0 0), (@Value.int 3 0), (.ref 353), (@Value.bool true), (@Value.int 181 0), (.ref 354), Value.none, Value.none, Value.none, (.ref 355), (@Value.int 747 0), (@Value.int 229 0), (.str (Str.mk (Array.mk [nat_lit 47, nat_lit 99, nat_lit 108, nat_lit 97, nat_lit 105, nat_lit 109, nat_lit 47, nat_lit 99, nat_lit 117, nat_lit 116, nat_lit 46, nat_lit 112, nat_lit 121])) 748)])) (Array.mk []))
noncomputable def o357 (P : Params) : Obj := (fo (@Value.type PySem.W.SL.s7174869446012820540x8) none (Array.mk []) (Str.mk (Array.mk [nat_lit 112, nat_lit 117, nat_lit 116, nat_lit 95, nat_lit 110, nat_lit 117, nat_lit 109, nat_lit 98, nat_lit 101, nat_lit 114, nat_lit 115])) (Str.mk (Array.mk [nat_lit 112, nat_lit 117, nat_lit 116, nat_lit 95, nat_lit 110, nat_lit 117, nat_lit 109, nat_lit 98, nat_lit 101, nat_lit 114, nat_lit 115])) (tp 70) 3 [] Value.none Value.none Value.none (.str (Str.mk (Array.mk [nat_lit 113, nat_lit 117, nat_lit 105, nat_lit 99, nat_lit 46, nat_lit 102, nat_lit 114, nat_lit 97, nat_lit 109, nat_lit 101, nat_lit 115, nat_lit 111, nat_lit 117, nat_lit 116])) 723) none (.ref 356) Value.none 0)
noncomputable def o405 (P : Params) : Obj := (@Obj.mk (@Value.type PySem.W.SL.s5856160107412720595x4) none (@Data.fields (Array.mk [(.str (Str.mk (Array.mk [nat_lit 112, nat_lit 117, nat_lit 116, nat_lit 95, nat_lit 111, nat_lit 99, nat_lit 116, nat_lit 101, nat_lit 116, nat_lit 115, nat_lit 95, nat_lit 102, nat_lit 114, nat_lit 97, nat_lit 109, nat_lit 101])) 822), (.str (Str.mk (Array.mk [nat_lit 112, nat_lit 117, nat_lit 116, nat_lit 95, nat_lit 111, nat_lit 99, nat_lit 116, nat_lit 101, nat_lit 116, nat_lit 115, nat_lit 95, nat_lit 102, nat_lit 114, nat_lit 97, nat_lit 109, nat_lit 101])) 823), (.str (Str.mk (Array.mk [nat_lit 47, nat_lit 99, nat_lit 108, nat_lit 97, nat_lit 105, nat_lit 109, nat_lit 47, nat_lit 99, nat_lit 117, nat_lit 116, nat_lit 46, nat_lit 112, nat_lit 121])) 824), (@Value.int 258 0), (@Value.int 1 0), (@Value.int 0 0), (@Value.int 0 0), (@Value.int 3 0), (.ref 400), (@Value.bool true), (@Value.int 181 0), (.ref 401), Value.none, (.ref 402), (.ref 403), (.ref 404), (@Value.int 827 0), (@Value.int 258 0), (.str (Str.mk (Array.mk [nat_lit 47, nat_lit 99, nat_lit 108, nat_lit 97, nat_lit 105, nat_lit 109, nat_lit 47, nat_lit 99, nat_lit 117, nat_lit 116, nat_lit 46, nat_lit 112, nat_lit 121])) 828)])) (Array.mk []))
noncomputable def o406 (P : Params) : Obj := (fo (@Value.type PySem.W.SL.s7174869446012820540x8) none (Array.mk []) (Str.mk (Array.mk [nat_lit 112, nat_lit 117, nat_lit 116, nat_lit 95, nat_lit 111, nat_lit 99, nat_lit 116, nat_lit 101, nat_lit 116, nat_lit 115, nat_lit 95, nat_lit 102, nat_lit 114, nat_lit 97, nat_lit 109, nat_lit 101])) (Str.mk (Array.mk [nat_lit 112, nat_lit 117, nat_lit 116, nat_lit 95, nat_lit 111, nat_lit 99, nat_lit 116, nat_lit 101, nat_lit 116, nat_lit 115, nat_lit 95, nat_lit 102, nat_lit 114, nat_lit 97, nat_lit 109, nat_lit 101])) (tp 77) 3 [] Value.none Value.none Value.none (.str (Str.mk (Array.mk [nat_lit 113, nat_lit 117, nat_lit 105, nat_lit 99, nat_lit 46, nat_lit 102, nat_lit 114, nat_lit 97, nat_lit 109, nat_lit 101, nat_lit 115, nat_lit 111, nat_lit 117, nat_lit 116])) 723) none (.ref 405) Value.none 0)
noncomputable def o412 (P : Params) : Obj := (@Obj.mk (@Value.type PySem.W.SL.s5856160107412720595x4) none (@Data.fields (Array.mk [(.str (Str.mk (Array.mk [nat_lit 112, nat_lit 117, nat_lit 116, nat_lit 95, nat_lit 102, nat_lit 114, nat_lit 97, nat_lit 109, nat_lit 101])) 830), (.str (Str.mk (Array.mk [nat_lit 112, nat_lit 117, nat_lit 116, nat_lit 95, nat_lit 102, nat_lit 114, nat_lit 97, nat_lit 109, nat_lit 101])) 831), (.str (Str.mk (Array.mk [nat_lit 47, nat_lit 99, nat_lit 108, nat_lit 97, nat_lit 105, nat_lit 109, nat_lit 47, nat_lit 99, nat_lit 117, nat_lit 116, nat_lit 46, nat_lit 112, nat_lit 121])) 832), (@Value.int 271 0), (@Value.int 1 0), (@Value.int 0 0), (@Value.int 0 0), (@Value.int 3 0), (.ref 407), (@Value.bool true), (@Value.int 181 0), (.ref 408), Value.none, (.ref 409), (.ref 410), (.ref 411), (@Value.int 836 0), (@Value.int 271 0), (.str (Str.mk (Array.mk [nat_lit 47, nat_lit 99, nat_lit 108, nat_lit 97, nat_lit 105, nat_lit 109, nat_lit 47, nat_lit 99, nat_lit 117, nat_lit 116, nat_lit 46, nat_lit 112, nat_lit 121])) 837)])) (Array.mk []))
noncomputable def o413 (P : Params) : Obj := (fo (@Value.type PySem.W.SL.s7174869446012820540x8) none (Array.mk []) (Str.mk (Array.mk [nat_lit 112, nat_lit 117, nat_lit 116, nat_lit 95, nat_lit 102, nat_lit 114, nat_lit 97, nat_lit 109, nat_lit 101])) (Str.mk (Array.mk [nat_lit 112, nat_lit 117, nat_lit 116, nat_lit 95, nat_lit 102, nat_lit 114, nat_lit 97, nat_lit 109, nat_lit 101])) (tp 78) 3 [] Value.none Value.none Value.none (.str (Str.mk (Array.mk [nat_lit 113, nat_lit 117, nat_lit 105, nat_lit 99, nat_lit 46, nat_lit 102, nat_lit 114, nat_lit 97, nat_lit 109, nat_lit 101, nat_lit 115, nat_lit 111, nat_lit 117, nat_lit 116])) 723) none (.ref 412) Value.none 0)
noncomputable def o417 (P : Params) : Obj := (@Obj.mk (@Value.type PySem.W.SL.s5856160107412720595x4) none (@Data.fields (Array.mk [(.str (Str.mk (Array.mk [nat_lit 112, nat_lit 117, nat_lit 116, nat_lit 95, nat_lit 102, nat_lit 114, nat_lit 97, nat_lit 109, nat_lit 101, nat_lit 115])) 839), (.str (Str.mk (Array.mk [nat_lit 112, nat_lit 117, nat_lit 116, nat_lit 95, nat_lit 102, nat_lit 114, nat_lit 97, nat_lit 109, nat_lit 101, nat_lit 115])) 840), (.str (Str.mk (Array.mk [nat_lit 47, nat_lit 99, nat_lit 108, nat_lit 97, nat_lit 105, nat_lit 109, nat_lit 47, nat_lit 99, nat_lit 117, nat_lit 116, nat_lit 46, nat_lit 112, nat_lit 121])) 841), (@Value.int 289 0), (@Value.int 1 0), (@Value.int 0 0), (@Value.int 0 0), (@Value.int 3 0), (.ref 414), (@Value.bool true), (@Value.int 181 0), (.ref 415), Value.none, Value.none, Value.none, (.ref 416), (@Value.int 842 0), (@Value.int 289 0), (.str (Str.mk (Array.mk [nat_lit 47, nat_lit 99, nat_lit 108, nat_lit 97, nat_lit 105, nat_lit 109, nat_lit 47, nat_lit 99, nat_lit 117, nat_lit 116, nat_lit 46, nat_lit 112, nat_lit 121])) 843)])) (Array.mk []))
noncomputable def o418 (P : Params) : Obj := (fo (@Value.type PySem.W.SL.s7174869446012820540x8) none (Array.mk []) (Str.mk (Array.mk [nat_lit 112, nat_lit 117, nat_lit 116, nat_lit 95, nat_lit 102, nat_lit 114, nat_lit 97, nat_lit 109, nat_lit 101, nat_lit 115])) (Str.mk (Array.mk [nat_lit 112, nat_lit 117, nat_lit 116, nat_lit 95, nat_lit 102, nat_lit 114, nat_lit 97, nat_lit 109, nat_lit 101, nat_lit 115])) (tp 79) 3 [] Value.none Value.none Value.none (.str (Str.mk (Array.mk [nat_lit 113, nat_lit 117, nat_lit 105, nat_lit 99, nat_lit 46, nat_lit 102, nat_lit 114, nat_lit 97, nat_lit 109, nat_lit 101, nat_lit 115, nat_lit 111, nat_lit 117, nat_lit 116])) 723) none (.ref 417) Value.none 0)
noncomputable def o446 (P : Params) : Obj := (@Obj.mk (@Value.type PySem.W.SL.s5856160107412720595x4) none (@Data.fields (Array.mk [(.str (Str.mk (Array.mk [nat_lit 110, nat_lit 117, nat_lit 109, nat_lit 98, nat_lit 101, nat_lit 114, nat_lit 95, nat_lit 115, nat_lit 105, nat_lit 122, nat_lit 101])) 886), (.str (Str.mk (Array.mk [nat_lit 110, nat_lit 117, nat_lit 109, nat_lit 98, nat_lit 101, nat_lit 114, nat_lit 95, nat_lit 115, nat_lit 105, nat_lit 122, nat_lit 101])) 887), (.str (Str.mk (Array.mk [nat_lit 47, nat_lit 99, nat_lit 108, nat_lit 97, nat_lit 105, nat_lit 109, nat_lit 47, nat_lit 99, nat_lit 117, nat_lit 116, nat_lit 46, nat_lit 112, nat_lit 121])) 888), (@Value.int 304 0), (@Value.int 2 0), (@Value.int 0 0), (@Value.int 0 0), (@Value.int 3 0), (.ref 441), (@Value.bool true), (@Value.int 181 0), (.ref 442), Value.none, (.ref 443), (.ref 444), (.ref 445), (@Value.int 893 0), (@Value.int 304 0), (.str (Str.mk (Array.mk [nat_lit 47, nat_lit 99, nat_lit 108, nat_lit 97, nat_lit 105, nat_lit 109, nat_lit 47, nat_lit 99, nat_lit 117, nat_lit 116, nat_lit 46, nat_lit 112, nat_lit 121])) 894)])) (Array.mk []))
noncomputable def o447 (P : Params) : Obj := (fo (@Value.type PySem.W.SL.s7174869446012820540x8) none (Array.mk []) (Str.mk (Array.mk [nat_lit 110, nat_lit 117, nat_lit 109, nat_lit 98, nat_lit 101, nat_lit 114, nat_lit 95, nat_lit 115, nat_lit 105, nat_lit 122, nat_lit 101])) (Str.mk (Array.mk [nat_lit 110, nat_lit 117, nat_lit 109, nat_lit 98, nat_lit 101, nat_lit 114, nat_lit 95, nat_lit 115, nat_lit 105, nat_lit 122, nat_lit 101])) (tp 87) 3 [] Value.none Value.none Value.none (.str (Str.mk (Array.mk [nat_lit 113, nat_lit 117, nat_lit 105, nat_lit 99, nat_lit 46, nat_lit 112, nat_lit 110, nat_lit 117, nat_lit 109])) 882) none (.ref 446) Value.none 0)
noncomputable def o453 (P : Params) : Obj := (@Obj.mk (@Value.type PySem.W.SL.s5856160107412720595x4) none (@Data.fields (Array.mk [(.str (Str.mk (Array.mk [nat_lit 99, nat_lit 117, nat_lit 116, nat_lit 95, nat_lit 110, nat_lit 117, nat_lit 109, nat_lit 98, nat_lit 101, nat_lit 114])) 896), (.str (Str.mk (Array.mk [nat_lit 99, nat_lit 117, nat_lit 116, nat_lit 95, nat_lit 110, nat_lit 117, nat_lit 109, nat_lit 98, nat_lit 101, nat_lit 114])) 897), (.str (Str.mk (Array.mk [nat_lit 47, nat_lit 99, nat_lit 108, nat_lit 97, nat_lit 105, nat_lit 109, nat_lit 47, nat_lit 99, nat_lit 117, nat_lit 116, nat_lit 46, nat_lit 112, nat_lit 121])) 898), (@Value.int 310 0), (@Value.int 2 0), (@Value.int 0 0), (@Value.int 0 0), (@Value.int 3 0), (.ref 448), (@Value.bool true), (@Value.int 181 0), (.ref 449), Value.none, (.ref 450), (.ref 451), (.ref 452), (@Value.int 902 0), (@Value.int 310 0), (.str (Str.mk (Array.mk [nat_lit 47, nat_lit 99, nat_lit 108, nat_lit 97, nat_lit 105, nat_lit 109, nat_lit 47, nat_lit 99, nat_lit 117, nat_lit 116, nat_lit 46, nat_lit 112, nat_lit 121])) 903)])) (Array.mk []))
noncomputable def o454 (P : Params) : Obj := (fo (@Value.type PySem.W.SL.s7174869446012820540x8) none (Array.mk []) (Str.mk (Array.mk [nat_lit 99, nat_lit 117, nat_lit 116, nat_lit 95, nat_lit 110, nat_lit 117, nat_lit 109, nat_lit 98, nat_lit 101, nat_lit 114])) (Str.mk (Array.mk [nat_lit 99, nat_lit 117, nat_lit 116, nat_lit 95, nat_lit 110, nat_lit 117, nat_lit 109, nat_lit 98, nat_lit 101, nat_lit 114])) (tp 88) 3 [] Value.none Value.none Value.none (.str (Str.mk (Array.mk [nat_lit 113, nat_lit 117, nat_lit 105, nat_lit 99, nat_lit 46, nat_lit 112, nat_lit 110, nat_lit 117, nat_lit 109])) 882) none (.ref 453) Value.none 0)
noncomputable def o460 (P : Params) : Obj := (@Obj.mk (@Value.type PySem.W.SL.s5856160107412720595x4) none (@Data.fields (Array.mk [(.str (Str.mk (Array.mk [nat_lit 109, nat_lit 105, nat_lit 120, nat_lit 101, nat_lit 100, nat_lit 95, nat_lit 111, nat_lit 99, nat_lit 116, nat_lit 101, nat_lit 116, nat_lit 115])) 921), (.str (Str.mk (Array.mk [nat_lit 109, nat_lit 105, nat_lit 120, nat_lit 101, nat_lit 100, nat_lit 95, nat_lit 111, nat_lit 99, nat_lit 116, nat_lit 101, nat_lit 116, nat_lit 115])) 922), (.str (Str.mk (Array.mk [nat_lit 47, nat_lit 99, nat_lit 108, nat_lit 97, nat_lit 105, nat_lit 109, nat_lit 47, nat_lit 99, nat_lit 117, nat_lit 116, nat_lit 46, nat_lit 112, nat_lit 121])) 923), (@Value.int 319 0), (@Value.int 2 0), (@Value.int 0 0), (@Value.int 0 0), (@Value.int 3 0), (.ref 455), (@Value.bool true), (@Value.int 181 0), (.ref 456), Value.none, (.ref 457), (.ref 458), (.ref 459), (@Value.int 928 0), (@Value.int 319 0), (.str (Str.mk (Array.mk [nat_lit 47, nat_lit 99, nat_lit 108, nat_lit 97, nat_lit 105, nat_lit 109, nat_lit 47, nat_lit 99, nat_lit 117, nat_lit 116, nat_lit 46, nat_lit 112, nat_lit 121])) 929)])) (Array.mk []))
noncomputable def o461 (P : Params) : Obj := (fo (@Value.type PySem.W.SL.s7174869446012820540x8) none (Array.mk []) (Str.mk (Array.mk [nat_lit 109, nat_lit 105, nat_lit 120, nat_lit 101, nat_lit 100, nat_lit 95, nat_lit 111, nat_lit 99, nat_lit 116, nat_lit 101, nat_lit 116, nat_lit 115])) (Str.mk (Array.mk [nat_lit 109, nat_lit 105, nat_lit 120, nat_lit 101, nat_lit 100, nat_lit 95, nat_lit 111, nat_lit 99, nat_lit 116, nat_lit 101, nat_lit 116, nat_lit 115])) (tp 95) 3 [] Value.none Value.none Value.none (.str (Str.mk (Array.mk [nat_lit 113, nat_lit 117, nat_lit 105, nat_lit 99, nat_lit 46, nat_lit 115, nat_lit 101, nat_lit 97, nat_lit 108])) 905) none (.ref 460) Value.none 0)
noncomputable def o467 (P : Params) : Obj := (@Obj.mk (@Value.type PySem.W.SL.s5856160107412720595x4) none (@Data.fields (Array.mk [(.str (Str.mk (Array.mk [nat_lit 116, nat_lit 117, nat_lit 114, nat_lit 110, nat_lit 101, nat_lit 100, nat_lit 95, nat_lit 111, nat_lit 99, nat_lit 116, nat_lit 101, nat_lit 116, nat_lit 115])) 931), (.str (Str.mk (Array.mk [nat_lit 116, nat_lit 117, nat_lit 114, nat_lit 110, nat_lit 101, nat_lit 100, nat_lit 95, nat_lit 111, nat_lit 99, nat_lit 116, nat_lit 101, nat_lit 116, nat_lit 115])) 932), (.str (Str.mk (Array.mk [nat_lit 47, nat_lit 99, nat_lit 108, nat_lit 97, nat_lit 105, nat_lit 109, nat_lit 47, nat_lit 99, nat_lit 117, nat_lit 116, nat_lit 46, nat_lit 112, nat_lit 121])) 933), (@Value.int 324 0), (@Value.int 3 0), (@Value.int 0 0), (@Value.int 0 0), (@Value.int 3 0), (.ref 462), (@Value.bool true), (@Value.int 181 0), (.ref 463), Value.none, (.ref 464), (.ref 465), (.ref 466), (@Value.int 940 0), (@Value.int 324 0), (.str (Str.mk (Array.mk [nat_lit 47, nat_lit 99, nat_lit 108, nat_lit 97, nat_lit 105, nat_lit 109, nat_lit 47, nat_lit 99, nat_lit 117, nat_lit 116, nat_lit 46, nat_lit 112, nat_lit 121])) 941)])) (Array.mk []))
noncomputable def o468 (P : Params) : Obj := (fo (@Value.type PySem.W.SL.s7174869446012820540x8) none (Array.mk []) (Str.mk (Array.mk [nat_lit 116, nat_lit 117, nat_lit 114, nat_lit 110, nat_lit 101, nat_lit 100, nat_lit 95, nat_lit 111, nat_lit 99, nat_lit 116, nat_lit 101, nat_lit 116, nat_lit 115])) (Str.mk (Array.mk [nat_lit 116, nat_lit 117, nat_lit 114, nat_lit 110, nat_lit 101, nat_lit 100, nat_lit 95, nat_lit 111, nat_lit 99, nat_lit 116, nat_lit 101, nat_lit 116, nat_lit 115])) (tp 96) 3 [] Value.none Value.none Value.none (.str (Str.mk (Array.mk [nat_lit 113, nat_lit 117, nat_lit 105, nat_lit 99, nat_lit 46, nat_lit 115, nat_lit 101, nat_lit 97, nat_lit 108])) 905) none (.ref 467) Value.none 0)
noncomputable def o474 (P : Params) : Obj := (@Obj.mk (@Value.type PySem.W.SL.s5856160107412720595x4) none (@Data.fields (Array.mk [(.str (Str.mk (Array.mk [nat_lit 116, nat_lit 97, nat_lit 103, nat_lit 95, nat_lit 111, nat_lit 102])) 943), (.str (Str.mk (Array.mk [nat_lit 116, nat_lit 97, nat_lit 103, nat_lit 95, nat_lit 111, nat_lit 102])) 944), (.str (Str.mk (Array.mk [nat_lit 47, nat_lit 99, nat_lit 108, nat_lit 97, nat_lit 105, nat_lit 109, nat_lit 47, nat_lit 99, nat_lit 117, nat_lit 116, nat_lit 46, nat_lit 112, nat_lit 121])) 945), (@Value.int 330 0), (@Value.int 4 0), (@Value.int 0 0), (@Value.int 0 0), (@Value.int 3 0), (.ref 469), (@Value.bool true), (@Value.int 181 0), (.ref 470), Value.none, (.ref 471), (.ref 472), (.ref 473), (@Value.int 951 0), (@Value.int 330 0), (.str (Str.mk (Array.mk [nat_lit 47, nat_lit 99, nat_lit 108, nat_lit 97, nat_lit 105, nat_lit 109, nat_lit 47, nat_lit 99, nat_lit 117, nat_lit 116, nat_lit 46, nat_lit 112, nat_lit 121])) 952)])) (Array.mk []))
noncomputable def o475 (P : Params) : Obj := (fo (@Value.type PySem.W.SL.s7174869446012820540x8) none (Array.mk []) (Str.mk (Array.mk [nat_lit 116, nat_lit 97, nat_lit 103, nat_lit 95, nat_lit 111, nat_lit 102])) (Str.mk (Array.mk [nat_lit 116, nat_lit 97, nat_lit 103, nat_lit 95, nat_lit 111, nat_lit 102])) (tp 97) 3 [] Value.none Value.none Value.none (.str (Str.mk (Array.mk [nat_lit 113, nat_lit 117, nat_lit 105, nat_lit 99, nat_lit 46, nat_lit 115, nat_lit 101, nat_lit 97, nat_lit 108])) 905) none (.ref 474) Value.none 0)
noncomputable def o481 (P : Params) : Obj := (@Obj.mk (@Value.type PySem.W.SL.s5856160107412720595x4) none (@Data.fields (Array.mk [(.str (Str.mk (Array.mk [nat_lit 115, nat_lit 101, nat_lit 97, nat_lit 108, nat_lit 95, nat_lit 112, nat_lit 97, nat_lit 121, nat_lit 108, nat_lit 111, nat_lit 97, nat_lit 100])) 954), (.str (Str.mk (Array.mk [nat_lit 115, nat_lit 101, nat_lit 97, nat_lit 108, nat_lit 95, nat_lit 112, nat_lit 97, nat_lit 121, nat_lit 108, nat_lit 111, nat_lit 97, nat_lit 100])) 955), (.str (Str.mk (Array.mk [nat_lit 47, nat_lit 99, nat_lit 108, nat_lit 97, nat_lit 105, nat_lit 109, nat_lit 47, nat_lit 99, nat_lit 117, nat_lit 116, nat_lit 46, nat_lit 112, nat_lit 121])) 956), (@Value.int 333 0), (@Value.int 4 0), (@Value.int 0 0), (@Value.int 0 0), (@Value.int 3 0), (.ref 476), (@Value.bool true), (@Value.int 181 0), (.ref 477), Value.none, (.ref 478), (.ref 479), (.ref 480), (@Value.int 962 0), (@Value.int 333 0), (.str (Str.mk (Array.mk [nat_lit 47, nat_lit 99, nat_lit 108, nat_lit 97, nat_lit 105, nat_lit 109, nat_lit 47, nat_lit 99, nat_lit 117, nat_lit 116, nat_lit 46, nat_lit 112, nat_lit 121])) 963)])) (Array.mk []))
noncomputable def o482 (P : Params) : Obj := (fo (@Value.type PySem.W.SL.s7174869446012820540x8) none (Array.mk []) (Str.mk (Array.mk [nat_lit 115, nat_lit 101, nat_lit 97, nat_lit 108, nat_lit 95, nat_lit 112, nat_lit 97, nat_lit 121, nat_lit 108, nat_lit 111, nat_lit 97, nat_lit 100])) (Str.mk (Array.mk [nat_lit 115, nat_lit 101, nat_lit 97, nat_lit 108, nat_lit 95, nat_lit 112, nat_lit 97, nat_lit 121, nat_lit 108, nat_lit 111, nat_lit 97, nat_lit 100])) (tp 98) 3 [] Value.none Value.none Value.none (.str (Str.mk (Array.mk [nat_lit 113, nat_lit 117, nat_lit 105, nat_lit 99, nat_lit 46, nat_lit 115, nat_lit 101, nat_lit 97, nat_lit 108])) 905) none (.ref 481) Value.none 0)
noncomputable def o488 (P : Params) : Obj := (@Obj.mk (@Value.type PySem.W.SL.s5856160107412720595x4) none (@Data.fields (Array.mk [(.str (Str.mk (Array.mk [nat_lit 104, nat_lit 101, nat_lit 97, nat_lit 100, nat_lit 95, nat_lit 109, nat_lit 97, nat_lit 115, nat_lit 107])) 965), (.str (Str.mk (Array.mk [nat_lit 104, nat_lit 101, nat_lit 97, nat_lit 100, nat_lit 95, nat_lit 109, nat_lit 97, nat_lit 115, nat_lit 107])) 966), (.str (Str.mk (Array.mk [nat_lit 47, nat_lit 99, nat_lit 108, nat_lit 97, nat_lit 105, nat_lit 109, nat_lit 47, nat_lit 99, nat_lit 117, nat_lit 116, nat_lit 46, nat_lit 112, nat_lit 121])) 967), (@Value.int 336 0), (@Value.int 2 0), (@Value.int 0 0), (@Value.int 0 0), (@Value.int 3 0), (.ref 483), (@Value.bool true), (@Value.int 181 0), (.ref 484), Value.none, (.ref 485), (.ref 486), (.ref 487), (@Value.int 970 0), (@Value.int 336 0), (.str (Str.mk (Array.mk [nat_lit 47, nat_lit 99, nat_lit 108, nat_lit 97, nat_lit 105, nat_lit 109, nat_lit 47, nat_lit 99, nat_lit 117, nat_lit 116, nat_lit 46, nat_lit 112, nat_lit 121])) 971)])) (Array.mk []))
noncomputable def o489 (P : Params) : Obj := (fo (@Value.type PySem.W.SL.s7174869446012820540x8) none (Array.mk []) (Str.mk (Array.mk [nat_lit 104, nat_lit 101, nat_lit 97, nat_lit 100, nat_lit 95, nat_lit 109, nat_lit 97, nat_lit 115, nat_lit 107])) (Str.mk (Array.mk [nat_lit 104, nat_lit 101, nat_lit 97, nat_lit 100, nat_lit 95, nat_lit 109, nat_lit 97, nat_lit 115, nat_lit 107])) (tp 99) 3 [] Value.none Value.none Value.none (.str (Str.mk (Array.mk [nat_lit 113, nat_lit 117, nat_lit 105, nat_lit 99, nat_lit 46, nat_lit 115, nat_lit 101, nat_lit 97, nat_lit 108])) 905) none (.ref 488) Value.none 0)
noncomputable def o495 (P : Params) : Obj := (@Obj.mk (@Value.type PySem.W.SL.s5856160107412720595x4) none (@Data.fields (Array.mk [(.str (Str.mk (Array.mk [nat_lit 116, nat_lit 117, nat_lit 114, nat_lit 110, nat_lit 101, nat_lit 100, nat_lit 95, nat_lit 102, nat_lit 105, nat_lit 114, nat_lit 115, nat_lit 116])) 973), (.str (Str.mk (Array.mk [nat_lit 116, nat_lit 117, nat_lit 114, nat_lit 110, nat_lit 101, nat_lit 100, nat_lit 95, nat_lit 102, nat_lit 105, nat_lit 114, nat_lit 115, nat_lit 116])) 974), (.str (Str.mk (Array.mk [nat_lit 47, nat_lit 99, nat_lit 108, nat_lit 97, nat_lit 105, nat_lit 109, nat_lit 47, nat_lit 99, nat_lit 117, nat_lit 116, nat_lit 46, nat_lit 112, nat_lit 121])) 975), (@Value.int 338 0), (@Value.int 2 0), (@Value.int 0 0), (@Value.int 0 0), (@Value.int 3 0), (.ref 490), (@Value.bool true), (@Value.int 181 0), (.ref 491), Value.none, (.ref 492), (.ref 493), (.ref 494), (@Value.int 978 0), (@Value.int 338 0), (.str (Str.mk (Array.mk [nat_lit 47, nat_lit 99, nat_lit 108, nat_lit 97, nat_lit 105, nat_lit 109, nat_lit 47, nat_lit 99, nat_lit 117, nat_lit 116, nat_lit 46, nat_lit 112, nat_lit 121])) 979)])) (Array.mk []))
noncomputable def o496 (P : Params) : Obj := (fo (@Value.type PySem.W.SL.s7174869446012820540x8) none (Array.mk []) (Str.mk (Array.mk [nat_lit 116, nat_lit 117, nat_lit 114, nat_lit 110, nat_lit 101, nat_lit 100, nat_lit 95, nat_lit 102, nat_lit 105, nat_lit 114, nat_lit 115, nat_lit 116])) (Str.mk (Array.mk [nat_lit 116, nat_lit 117, nat_lit 114, nat_lit 110, nat_lit 101, nat_lit 100, nat_lit 95, nat_lit 102, nat_lit 105, nat_lit 114, nat_lit 115, nat_lit 116])) (tp 100) 3 [] Value.none Value.none Value.none (.str (Str.mk (Array.mk [nat_lit 113, nat_lit 117, nat_lit 105, nat_lit 99, nat_lit 46, nat_lit 115, nat_lit 101, nat_lit 97, nat_lit 108])) 905) none (.ref 495) Value.none 0)
noncomputable def o500 (P : Params) : Obj := (@Obj.mk (@Value.type PySem.W.SL.s5856160107412720595x4) none (@Data.fields (Array.mk [(.str (Str.mk (Array.mk [nat_lit 116, nat_lit 117, nat_lit 114, nat_lit 110, nat_lit 101, nat_lit 100, nat_lit 95, nat_lit 110, nat_lit 117, nat_lit 109, nat_lit 98, nat_lit 101, nat_lit 114])) 981), (.str (Str.mk (Array.mk [nat_lit 116, nat_lit 117, nat_lit 114, nat_lit 110, nat_lit 101, nat_lit 100, nat_lit 95, nat_lit 110, nat_lit 117, nat_lit 109, nat_lit 98, nat_lit 101, nat_lit 114])) 982), (.str (Str.mk (Array.mk [nat_lit 47, nat_lit 99, nat_lit 108, nat_lit 97, nat_lit 105, nat_lit 109, nat_lit 47, nat_lit 99, nat_lit 117, nat_lit 116, nat_lit 46, nat_lit 112, nat_lit 121])) 983), (@Value.int 340 0), (@Value.int 2 0), (@Value.int 0 0), (@Value.int 0 0), (@Value.int 3 0), (.ref 497), (@Value.bool true), (@Value.int 181 0), (.ref 498), Value.none, Value.none, Value.none, (.ref 499), (@Value.int 984 0), (@Value.int 340 0), (.str (Str.mk (Array.mk [nat_lit 47, nat_lit 99, nat_lit 108, nat_lit 97, nat_lit 105, nat_lit 109, nat_lit 47, nat_lit 99, nat_lit 117, nat_lit 116, nat_lit 46, nat_lit 112, nat_lit 121])) 985)])) (Array.mk []))
noncomputable def o501 (P : Params) : Obj := (fo (@Value.type PySem.W.SL.s7174869446012820540x8) none (Array.mk []) (Str.mk (Array.mk [nat_lit 116, nat_lit 117, nat_lit 114, nat_lit 110, nat_lit 101, nat_lit 100, nat_lit 95, nat_lit 110, nat_lit 117, nat_lit 109, nat_lit 98, nat_lit 101, nat_lit 114])) (Str.mk (Array.mk [nat_lit 116, nat_lit 117, nat_lit 114, nat_lit 110, nat_lit 101, nat_lit 100, nat_lit 95, nat_lit 110, nat_lit 117, nat_lit 109, nat_lit 98, nat_lit 101, nat_lit 114])) (tp 101) 3 [] Value.none Value.none Value.none (.str (Str.mk (Array.mk [nat_lit 113, nat_lit 117, nat_lit 105, nat_lit 99, nat_lit 46, nat_lit 115, nat_lit 101, nat_lit 97, nat_lit 108])) 905) none (.ref 500) Value.none 0)
noncomputable def o507 (P : Params) : Obj := (@Obj.mk (@Value.type PySem.W.SL.s5856160107412720595x4) none (@Data.fields (Array.mk [(.str (Str.mk (Array.mk [nat_lit 115, nat_lit 97, nat_lit 109, nat_lit 112, nat_lit 108, nat_lit 101, nat_lit 95, nat_lit 97, nat_lit 116])) 987), (.str (Str.mk (Array.mk [nat_lit 115, nat_lit 97, nat_lit 109, nat_lit 112, nat_lit 108, nat_lit 101, nat_lit 95, nat_lit 97, nat_lit 116])) 988), (.str (Str.mk (Array.mk [nat_lit 47, nat_lit 99, nat_lit 108, nat_lit 97, nat_lit 105, nat_lit 109, nat_lit 47, nat_lit 99, nat_lit 117, nat_lit 116, nat_lit 46, nat_lit 112, nat_lit 121])) 989), (@Value.int 342 0), (@Value.int 3 0), (@Value.int 0 0), (@Value.int 0 0), (@Value.int 3 0), (.ref 502), (@Value.bool true), (@Value.int 181 0), (.ref 503), Value.none, (.ref 504), (.ref 505), (.ref 506), (@Value.int 993 0), (@Value.int 342 0), (.str (Str.mk (Array.mk [nat_lit 47, nat_lit 99, nat_lit 108, nat_lit 97, nat_lit 105, nat_lit 109, nat_lit 47, nat_lit 99, nat_lit 117, nat_lit 116, nat_lit 46, nat_lit 112, nat_lit 121])) 994)])) (Array.mk []))
noncomputable def o508 (P : Params) : Obj := (fo (@Value.type PySem.W.SL.s7174869446012820540x8) none (Array.mk []) (Str.mk (Array.mk [nat_lit 115, nat_lit 97, nat_lit 109, nat_lit 112, nat_lit 108, nat_lit 101, nat_lit 95, nat_lit 97, nat_lit 116])) (Str.mk (Array.mk [nat_lit 115, nat_lit 97, nat_lit 109, nat_lit 112, nat_lit 108, nat_lit 101, nat_lit 95, nat_lit 97, nat_lit 116])) (tp 102) 3 [] Value.none Value.none Value.none (.str (Str.mk (Array.mk [nat_lit 113, nat_lit 117, nat_lit 105, nat_lit 99, nat_lit 46, nat_lit 115, nat_lit 101, nat_lit 97, nat_lit 108])) 905) none (.ref 507) Value.none 0)
noncomputable def o514 (P : Params) : Obj := (@Obj.mk (@Value.type PySem.W.SL.s5856160107412720595x4) none (@Data.fields (Array.mk [(.str (Str.mk (Array.mk [nat_lit 112, nat_lit 97, nat_lit 100, nat_lit 100, nat_lit 101, nat_lit 100, nat_lit 95, nat_lit 112, nat_lit 97, nat_lit 121, nat_lit 108, nat_lit 111, nat_lit 97, nat_lit 100])) 996), (.str (Str.mk (Array.mk [nat_lit 112, nat_lit 97, nat_lit 100, nat_lit 100, nat_lit 101, nat_lit 100, nat_lit 95, nat_lit 112, nat_lit 97, nat_lit 121, nat_lit 108, nat_lit 111, nat_lit 97, nat_lit 100])) 997), (.str (Str.mk (Array.mk [nat_lit 47, nat_lit 99, nat_lit 108, nat_lit 97, nat_lit 105, nat_lit 109, nat_lit 47, nat_lit 99, nat_lit 117, nat_lit 116, nat_lit 46, nat_lit 112, nat_lit 121])) 998), (@Value.int 346 0), (@Value.int 2 0), (@Value.int 0 0), (@Value.int 0 0), (@Value.int 3 0), (.ref 509), (@Value.bool true), (@Value.int 181 0), (.ref 510), Value.none, (.ref 511), (.ref 512), (.ref 513), (@Value.int 1002 0), (@Value.int 346 0), (.str (Str.mk (Array.mk [nat_lit 47, nat_lit 99, nat_lit 108, nat_lit 97, nat_lit 105, nat_lit 109, nat_lit 47, nat_lit 99, nat_lit 117, nat_lit 116, nat_lit 46, nat_lit 112, nat_lit 121])) 1003)])) (Array.mk []))
noncomputable def o515 (P : Params) : Obj := (fo (@Value.type PySem.W.SL.s7174869446012820540x8) none (Array.mk []) (Str.mk (Array.mk [nat_lit 112, nat_lit 97, nat_lit 100, nat_lit 100, nat_lit 101, nat_lit 100, nat_lit 95, nat_lit 112, nat_lit 97, nat_lit 121, nat_lit 108, nat_lit 111, nat_lit 97, nat_lit 100])) (Str.mk (Array.mk [nat_lit 112, nat_lit 97, nat_lit 100, nat_lit 100, nat_lit 101, nat_lit 100, nat_lit 95, nat_lit 112, nat_lit 97, nat_lit 121, nat_lit 108, nat_lit 111, nat_lit 97, nat_lit 100])) (tp 103) 3 [] Value.none Value.none Value.none (.str (Str.mk (Array.mk [nat_lit 113, nat_lit 117, nat_lit 105, nat_lit 99, nat_lit 46, nat_lit 115, nat_lit 101, nat_lit 97, nat_lit 108])) 905) none (.ref 514) Value.none 0)
noncomputable def o521 (P : Params) : Obj := (@Obj.mk (@Value.type PySem.W.SL.s5856160107412720595x4) none (@Data.fields (Array.mk [(.str (Str.mk (Array.mk [nat_lit 112, nat_lit 114, nat_lit 111, nat_lit 116, nat_lit 101, nat_lit 99, nat_lit 116, nat_lit 101, nat_lit 100, nat_lit 95, nat_lit 112, nat_lit 97, nat_lit 99, nat_lit 107, nat_lit 101, nat_lit 116])) 1005), (.str (Str.mk (Array.mk [nat_lit 112, nat_lit 114, nat_lit 111, nat_lit 116, nat_lit 101, nat_lit 99, nat_lit 116, nat_lit 101, nat_lit 100, nat_lit 95, nat_lit 112, nat_lit 97, nat_lit 99, nat_lit 107, nat_lit 101, nat_lit 116])) 1006), (.str (Str.mk (Array.mk [nat_lit 47, nat_lit 99, nat_lit 108, nat_lit 97, nat_lit 105, nat_lit 109, nat_lit 47, nat_lit 99, nat_lit 117, nat_lit 116, nat_lit 46, nat_lit 112, nat_lit 121])) 1007), (@Value.int 349 0), (@Value.int 5 0), (@Value.int 0 0), (@Value.int 0 0), (@Value.int 3 0), (.ref 516), (@Value.bool true), (@Value.int 181 0), (.ref 517), Value.none, (.ref 518), (.ref 519), (.ref 520), (@Value.int 1017 0), (@Value.int 349 0), (.str (Str.mk (Array.mk [nat_lit 47, nat_lit 99, nat_lit 108, nat_lit 97, nat_lit 105, nat_lit 109, nat_lit 47, nat_lit 99, nat_lit 117, nat_lit 116, nat_lit 46, nat_lit 112, nat_lit 121])) 1018)])) (Array.mk []))
noncomputable def o522 (P : Params) : Obj := (fo (@Value.type PySem.W.SL.s7174869446012820540x8) none (Array.mk []) (Str.mk (Array.mk [nat_lit 112, nat_lit 114, nat_lit 111, nat_lit 116, nat_lit 101, nat_lit 99, nat_lit 116, nat_lit 101, nat_lit 100, nat_lit 95, nat_lit 112, nat_lit 97, nat_lit 99, nat_lit 107, nat_lit 101, nat_lit 116])) (Str.mk (Array.mk [nat_lit 112, nat_lit 114, nat_lit 111, nat_lit 116, nat_lit 101, nat_lit 99, nat_lit 116, nat_lit 101, nat_lit 100, nat_lit 95, nat_lit 112, nat_lit 97, nat_lit 99, nat_lit 107, nat_lit 101, nat_lit 116])) (tp 104) 3 [] Value.none Value.none Value.none (.str (Str.mk (Array.mk [nat_lit 113, nat_lit 117, nat_lit 105, nat_lit 99, nat_lit 46, nat_lit 115, nat_lit 101, nat_lit 97, nat_lit 108])) 905) none (.ref 521) Value.none 0)
noncomputable def o528 (P : Params) : Obj := (@Obj.mk (@Value.type PySem.W.SL.s5856160107412720595x4) none (@Data.fields (Array.mk [(.str (Str.mk (Array.mk [nat_lit 115, nat_lit 104, nat_lit 111, nat_lit 114, nat_lit 116, nat_lit 95, nat_lit 104, nat_lit 101, nat_lit 97, nat_lit 100])) 1022), (.str (Str.mk (Array.mk [nat_lit 115, nat_lit 104, nat_lit 111, nat_lit 114, nat_lit 116, nat_lit 95, nat_lit 104, nat_lit 101, nat_lit 97, nat_lit 100])) 1023), (.str (Str.mk (Array.mk [nat_lit 47, nat_lit 99, nat_lit 108, nat_lit 97, nat_lit 105, nat_lit 109, nat_lit 47, nat_lit 99, nat_lit 117, nat_lit 116, nat_lit 46, nat_lit 112, nat_lit 121])) 1024), (@Value.int 356 0), (@Value.int 4 0), (@Value.int 0 0), (@Value.int 0 0), (@Value.int 3 0), (.ref 523), (@Value.bool true), (@Value.int 181 0), (.ref 524), Value.none, (.ref 525), (.ref 526), (.ref 527), (@Value.int 1029 0), (@Value.int 356 0), (.str (Str.mk (Array.mk [nat_lit 47, nat_lit 99, nat_lit 108, nat_lit 97, nat_lit 105, nat_lit 109, nat_lit 47, nat_lit 99, nat_lit 117, nat_lit 116, nat_lit 46, nat_lit 112, nat_lit 121])) 1030)])) (Array.mk []))
noncomputable def o529 (P : Params) : Obj := (fo (@Value.type PySem.W.SL.s7174869446012820540x8) none (Array.mk []) (Str.mk (Array.mk [nat_lit 115, nat_lit 104, nat_lit 111, nat_lit 114, nat_lit 116, nat_lit 95, nat_lit 104, nat_lit 101, nat_lit 97, nat_lit 100])) (Str.mk (Array.mk [nat_lit 115, nat_lit 104, nat_lit 111, nat_lit 114, nat_lit 116, nat_lit 95, nat_lit 104, nat_lit 101, nat_lit 97, nat_lit 100])) (tp 106) 3 [] Value.none Value.none Value.none (.str (Str.mk (Array.mk [nat_lit 113, nat_lit 117, nat_lit 105, nat_lit 99, nat_lit 46, nat_lit 115, nat_lit 104, nat_lit 111, nat_lit 114, nat_lit 116, nat_lit 104, nat_lit 101, nat_lit 97, nat_lit 100])) 1020) none (.ref 528) Value.none 0)
noncomputable def o535 (P : Params) : Obj := (@Obj.mk (@Value.type PySem.W.SL.s5856160107412720595x4) none (@Data.fields (Array.mk [(.str (Str.mk (Array.mk [nat_lit 104, nat_lit 101, nat_lit 97, nat_lit 100, nat_lit 95, nat_lit 111, nat_lit 102])) 1032), (.str (Str.mk (Array.mk [nat_lit 104, nat_lit 101, nat_lit 97, nat_lit 100, nat_lit 95, nat_lit 111, nat_lit 102])) 1033), (.str (Str.mk (Array.mk [nat_lit 47, nat_lit 99, nat_lit 108, nat_lit 97, nat_lit 105, nat_lit 109, nat_lit 47, nat_lit 99, nat_lit 117, nat_lit 116, nat_lit 46, nat_lit 112, nat_lit 121])) 1034), (@Value.int 358 0), (@Value.int 3 0), (@Value.int 0 0), (@Value.int 0 0), (@Value.int 3 0), (.ref 530), (@Value.bool true), (@Value.int 181 0), (.ref 531), Value.none, (.ref 532), (.ref 533), (.ref 534), (@Value.int 1041 0), (@Value.int 358 0), (.str (Str.mk (Array.mk [nat_lit 47, nat_lit 99, nat_lit 108, nat_lit 97, nat_lit 105, nat_lit 109, nat_lit 47, nat_lit 99, nat_lit 117, nat_lit 116, nat_lit 46, nat_lit 112, nat_lit 121])) 1042)])) (Array.mk []))
noncomputable def o536 (P : Params) : Obj := (fo (@Value.type PySem.W.SL.s7174869446012820540x8) none (Array.mk []) (Str.mk (Array.mk [nat_lit 104, nat_lit 101, nat_lit 97, nat_lit 100, nat_lit 95, nat_lit 111, nat_lit 102])) (Str.mk (Array.mk [nat_lit 104, nat_lit 101, nat_lit 97, nat_lit 100, nat_lit 95, nat_lit 111, nat_lit 102])) (tp 107) 3 [] Value.none Value.none Value.none (.str (Str.mk (Array.mk [nat_lit 113, nat_lit 117, nat_lit 105, nat_lit 99, nat_lit 46, nat_lit 115, nat_lit 104, nat_lit 111, nat_lit 114, nat_lit 116, nat_lit 104, nat_lit 101, nat_lit 97, nat_lit 100])) 1020) none (.ref 535) Value.none 0)
noncomputable def o542 (P : Params) : Obj := (@Obj.mk (@Value.type PySem.W.SL.s5856160107412720595x4) none (@Data.fields (Array.mk [(.str (Str.mk (Array.mk [nat_lit 110, nat_lit 117, nat_lit 109, nat_lit 98, nat_lit 101, nat_lit 114, nat_lit 95, nat_lit 105, nat_lit 110])) 1044), (.str (Str.mk (Array.mk [nat_lit 110, nat_lit 117, nat_lit 109, nat_lit 98, nat_lit 101, nat_lit 114, nat_lit 95, nat_lit 105, nat_lit 110])) 1045), (.str (Str.mk (Array.mk [nat_lit 47, nat_lit 99, nat_lit 108, nat_lit 97, nat_lit 105, nat_lit 109, nat_lit 47, nat_lit 99, nat_lit 117, nat_lit 116, nat_lit 46, nat_lit 112, nat_lit 121])) 1046), (@Value.int 365 0), (@Value.int 1 0), (@Value.int 0 0), (@Value.int 0 0), (@Value.int 3 0), (.ref 537), (@Value.bool true), (@Value.int 181 0), (.ref 538), Value.none, (.ref 539), (.ref 540), (.ref 541), (@Value.int 1048 0), (@Value.int 365 0), (.str (Str.mk (Array.mk [nat_lit 47, nat_lit 99, nat_lit 108, nat_lit 97, nat_lit 105, nat_lit 109, nat_lit 47, nat_lit 99, nat_lit 117, nat_lit 116, nat_lit 46, nat_lit 112, nat_lit 121])) 1049)])) (Array.mk []))
noncomputable def o543 (P : Params) : Obj := (fo (@Value.type PySem.W.SL.s7174869446012820540x8) none (Array.mk []) (Str.mk (Array.mk [nat_lit 110, nat_lit 117, nat_lit 109, nat_lit 98, nat_lit 101, nat_lit 114, nat_lit 95, nat_lit 105, nat_lit 110])) (Str.mk (Array.mk [nat_lit 110, nat_lit 117, nat_lit 109, nat_lit 98, nat_lit 101, nat_lit 114, nat_lit 95, nat_lit 105, nat_lit 110])) (tp 108) 3 [] Value.none Value.none Value.none (.str (Str.mk (Array.mk [nat_lit 113, nat_lit 117, nat_lit 105, nat_lit 99, nat_lit 46, nat_lit 115, nat_lit 104, nat_lit 111, nat_lit 114, nat_lit 116, nat_lit 104, nat_lit 101, nat_lit 97, nat_lit 100])) 1020) none (.ref 542) Value.none 0)
noncomputable def o549 (P : Params) : Obj := (@Obj.mk (@Value.type PySem.W.SL.s5856160107412720595x4) none (@Data.fields (Array.mk [(.str (Str.mk (Array.mk [nat_lit 112, nat_lit 117, nat_lit 116, nat_lit 95, nat_lit 112, nat_lit 97, nat_lit 99, nat_lit 107, nat_lit 101, nat_lit 116])) 1051), (.str (Str.mk (Array.mk [nat_lit 112, nat_lit 117, nat_lit 116, nat_lit 95, nat_lit 112, nat_lit 97, nat_lit 99, nat_lit 107, nat_lit 101, nat_lit 116])) 1052), (.str (Str.mk (Array.mk [nat_lit 47, nat_lit 99, nat_lit 108, nat_lit 97, nat_lit 105, nat_lit 109, nat_lit 47, nat_lit 99, nat_lit 117, nat_lit 116, nat_lit 46, nat_lit 112, nat_lit 121])) 1053), (@Value.int 367 0), (@Value.int 3 0), (@Value.int 0 0), (@Value.int 0 0), (@Value.int 3 0), (.ref 544), (@Value.bool true), (@Value.int 181 0), (.ref 545), Value.none, (.ref 546), (.ref 547), (.ref 548), (@Value.int 1060 0), (@Value.int 367 0), (.str (Str.mk (Array.mk [nat_lit 47, nat_lit 99, nat_lit 108, nat_lit 97, nat_lit 105, nat_lit 109, nat_lit 47, nat_lit 99, nat_lit 117, nat_lit 116, nat_lit 46, nat_lit 112, nat_lit 121])) 1061)])) (Array.mk []))
noncomputable def o550 (P : Params) : Obj := (fo (@Value.type PySem.W.SL.s7174869446012820540x8) none (Array.mk []) (Str.mk (Array.mk [nat_lit 112, nat_lit 117, nat_lit 116, nat_lit 95, nat_lit 112, nat_lit 97, nat_lit 99, nat_lit 107, nat_lit 101, nat_lit 116])) (Str.mk (Array.mk [nat_lit 112, nat_lit 117, nat_lit 116, nat_lit 95, nat_lit 112, nat_lit 97, nat_lit 99, nat_lit 107, nat_lit 101, nat_lit 116])) (tp 109) 3 [] Value.none Value.none Value.none (.str (Str.mk (Array.mk [nat_lit 113, nat_lit 117, nat_lit 105, nat_lit 99, nat_lit 46, nat_lit 115, nat_lit 104, nat_lit 111, nat_lit 114, nat_lit 116, nat_lit 104, nat_lit 101, nat_lit 97, nat_lit 100])) 1020) none (.ref 549) Value.none 0)
noncomputable def o556 (P : Params) : Obj := (@Obj.mk (@Value.type PySem.W.SL.s5856160107412720595x4) none (@Data.fields (Array.mk [(.str (Str.mk (Array.mk [nat_lit 112, nat_lit 97, nat_lit 99, nat_lit 107, nat_lit 101, nat_lit 116, nat_lit 95, nat_lit 115, nat_lit 105, nat_lit 122, nat_lit 101])) 1063), (.str (Str.mk (Array.mk [nat_lit 112, nat_lit 97, nat_lit 99, nat_lit 107, nat_lit 101, nat_lit 116, nat_lit 95, nat_lit 115, nat_lit 105, nat_lit 122, nat_lit 101])) 1064), (.str (Str.mk (Array.mk [nat_lit 47, nat_lit 99, nat_lit 108, nat_lit 97, nat_lit 105, nat_lit 109, nat_lit 47, nat_lit 99, nat_lit 117, nat_lit 116, nat_lit 46, nat_lit 112, nat_lit 121])) 1065), (@Value.int 372 0), (@Value.int 2 0), (@Value.int 0 0), (@Value.int 0 0), (@Value.int 3 0), (.ref 551), (@Value.bool true), (@Value.int 181 0), (.ref 552), Value.none, (.ref 553), (.ref 554), (.ref 555), (@Value.int 1070 0), (@Value.int 372 0), (.str (Str.mk (Array.mk [nat_lit 47, nat_lit 99, nat_lit 108, nat_lit 97, nat_lit 105, nat_lit 109, nat_lit 47, nat_lit 99, nat_lit 117, nat_lit 116, nat_lit 46, nat_lit 112, nat_lit 121])) 1071)])) (Array.mk []))
noncomputable def o557 (P : Params) : Obj := (fo (@Value.type PySem.W.SL.s7174869446012820540x8) none (Array.mk []) (Str.mk (Array.mk [nat_lit 112, nat_lit 97, nat_lit 99, nat_lit 107, nat_lit 101, nat_lit 116, nat_lit 95, nat_lit 115, nat_lit 105, nat_lit 122, nat_lit 101])) (Str.mk (Array.mk [nat_lit 112, nat_lit 97, nat_lit 99, nat_lit 107, nat_lit 101, nat_lit 116, nat_lit 95, nat_lit 115, nat_lit 105, nat_lit 122, nat_lit 101])) (tp 110) 3 [] Value.none Value.none Value.none (.str (Str.mk (Array.mk [nat_lit 113, nat_lit 117, nat_lit 105, nat_lit 99, nat_lit 46, nat_lit 115, nat_lit 104, nat_lit 111, nat_lit 114, nat_lit 116, nat_lit 104, nat_lit 101, nat_lit 97, nat_lit 100])) 1020) none (.ref 556) Value.none 0)
noncomputable def o558 (P : Params) : Obj := (@Obj.mk (@Value.type PySem.W.SL.s2766695959194262286x5) none (@Data.seq (Array.mk [(.str (Str.mk (Array.mk [nat_lit 112, nat_lit 97, nat_lit 116, nat_lit 104, nat_lit 95, nat_lit 99, nat_lit 104, nat_lit 97, nat_lit 108, nat_lit 108, nat_lit 101, nat_lit 110, nat_lit 103, nat_lit 101])) 1075), (.str (Str.mk (Array.mk [nat_lit 112, nat_lit 97, nat_lit 116, nat_lit 104, nat_lit 95, nat_lit 114, nat_lit 101, nat_lit 115, nat_lit 112, nat_lit 111, nat_lit 110, nat_lit 115, nat_lit 101])) 1076)]) 0) (Array.mk []))
noncomputable def o564 (P : Params) : Obj := (@Obj.mk (@Value.type PySem.W.SL.s5856160107412720595x4) none (@Data.fields (Array.mk [(.str (Str.mk (Array.mk [nat_lit 112, nat_lit 97, nat_lit 99, nat_lit 107, nat_lit 101, nat_lit 116, nat_lit 95, nat_lit 119, nat_lit 105, nat_lit 116, nat_lit 104])) 1078), (.str (Str.mk (Array.mk [nat_lit 112, nat_lit 97, nat_lit 99, nat_lit 107, nat_lit 101, nat_lit 116, nat_lit 95, nat_lit 119, nat_lit 105, nat_lit 116, nat_lit 104])) 1079), (.str (Str.mk (Array.mk [nat_lit 47, nat_lit 99, nat_lit 108, nat_lit 97, nat_lit 105, nat_lit 109, nat_lit 47, nat_lit 99, nat_lit 117, nat_lit 116, nat_lit 46, nat_lit 112, nat_lit 121])) 1080), (@Value.int 378 0), (@Value.int 4 0), (@Value.int 0 0), (@Value.int 0 0), (@Value.int 3 0), (.ref 559), (@Value.bool true), (@Value.int 181 0), (.ref 560), Value.none, (.ref 561), (.ref 562), (.ref 563), (@Value.int 1087 0), (@Value.int 378 0), (.str (Str.mk (Array.mk [nat_lit 47, nat_lit 99, nat_lit 108, nat_lit 97, nat_lit 105, nat_lit 109, nat_lit 47, nat_lit 99, nat_lit 117, nat_lit 116, nat_lit 46, nat_lit 112, nat_lit 121])) 1088)])) (Array.mk []))
noncomputable def o565 (P : Params) : Obj := (fo (@Value.type PySem.W.SL.s7174869446012820540x8) none (Array.mk []) (Str.mk (Array.mk [nat_lit 112, nat_lit 97, nat_lit 99, nat_lit 107, nat_lit 101, nat_lit 116, nat_lit 95, nat_lit 119, nat_lit 105, nat_lit 116, nat_lit 104])) (Str.mk (Array.mk [nat_lit 112, nat_lit 97, nat_lit 99, nat_lit 107, nat_lit 101, nat_lit 116, nat_lit 95, nat_lit 119, nat_lit 105, nat_lit 116, nat_lit 104])) (tp 113) 3 [] Value.none Value.none Value.none (.str (Str.mk (Array.mk [nat_lit 113, nat_lit 117, nat_lit 105, nat_lit 99, nat_lit 46, nat_lit 100, nat_lit 97, nat_lit 116, nat_lit 97, nat_lit 103, nat_lit 114, nat_lit 97, nat_lit 109, nat_lit 115])) 1073) none (.ref 564) Value.none 0)
noncomputable def o571 (P : Params) : Obj := (@Obj.mk (@Value.type PySem.W.SL.s5856160107412720595x4) none (@Data.fields (Array.mk [(.str (Str.mk (Array.mk [nat_lit 114, nat_lit 111, nat_lit 119, nat_lit 115, nat_lit 95, nat_lit 115, nat_lit 105, nat_lit 122, nat_lit 101])) 1090), (.str (Str.mk (Array.mk [nat_lit 114, nat_lit 111, nat_lit 119, nat_lit 115, nat_lit 95, nat_lit 115, nat_lit 105, nat_lit 122, nat_lit 101])) 1091), (.str (Str.mk (Array.mk [nat_lit 47, nat_lit 99, nat_lit 108, nat_lit 97, nat_lit 105, nat_lit 109, nat_lit 47, nat_lit 99, nat_lit 117, nat_lit 116, nat_lit 46, nat_lit 112, nat_lit 121])) 1092), (@Value.int 385 0), (@Value.int 3 0), (@Value.int 0 0), (@Value.int 0 0), (@Value.int 3 0), (.ref 566), (@Value.bool true), (@Value.int 181 0), (.ref 567), Value.none, (.ref 568), (.ref 569), (.ref 570), (@Value.int 1101 0), (@Value.int 385 0), (.str (Str.mk (Array.mk [nat_lit 47, nat_lit 99, nat_lit 108, nat_lit 97, nat_lit 105, nat_lit 109, nat_lit 47, nat_lit 99, nat_lit 117, nat_lit 116, nat_lit 46, nat_lit 112, nat_lit 121])) 1102)])) (Array.mk []))
noncomputable def o572 (P : Params) : Obj := (fo (@Value.type PySem.W.SL.s7174869446012820540x8) none (Array.mk []) (Str.mk (Array.mk [nat_lit 114, nat_lit 111, nat_lit 119, nat_lit 115, nat_lit 95, nat_lit 115, nat_lit 105, nat_lit 122, nat_lit 101])) (Str.mk (Array.mk [nat_lit 114, nat_lit 111, nat_lit 119, nat_lit 115, nat_lit 95, nat_lit 115, nat_lit 105, nat_lit 122, nat_lit 101])) (tp 114) 3 [] Value.none Value.none Value.none (.str (Str.mk (Array.mk [nat_lit 113, nat_lit 117, nat_lit 105, nat_lit 99, nat_lit 46, nat_lit 100, nat_lit 97, nat_lit 116, nat_lit 97, nat_lit 103, nat_lit 114, nat_lit 97, nat_lit 109, nat_lit 115])) 1073) none (.ref 571) Value.none 0)
noncomputable def o576 (P : Params) : Obj := (@Obj.mk (@Value.type PySem.W.SL.s5856160107412720595x4) none (@Data.fields (Array.mk [(.str (Str.mk (Array.mk [nat_lit 109, nat_lit 117, nat_lit 115, nat_lit 116, nat_lit 95, nat_lit 102, nat_lit 105, nat_lit 108, nat_lit 108])) 1104), (.str (Str.mk (Array.mk [nat_lit 109, nat_lit 117, nat_lit 115, nat_lit 116, nat_lit 95, nat_lit 102, nat_lit 105, nat_lit 108, nat_lit 108])) 1105), (.str (Str.mk (Array.mk [nat_lit 47, nat_lit 99, nat_lit 108, nat_lit 97, nat_lit 105, nat_lit 109, nat_lit 47, nat_lit 99, nat_lit 117, nat_lit 116, nat_lit 46, nat_lit 112, nat_lit 121])) 1106), (@Value.int 391 0), (@Value.int 3 0), (@Value.int 0 0), (@Value.int 0 0), (@Value.int 3 0), (.ref 573), (@Value.bool true), (@Value.int 181 0), (.ref 574), Value.none, Value.none, Value.none, (.ref 575), (@Value.int 1107 0), (@Value.int 391 0), (.str (Str.mk (Array.mk [nat_lit 47, nat_lit 99, nat_lit 108, nat_lit 97, nat_lit 105, nat_lit 109, nat_lit 47, nat_lit 99, nat_lit 117, nat_lit 116, nat_lit 46, nat_lit 112, nat_lit 121])) 1108)])) (Array.mk []))
noncomputable def o577 (P : Params) : Obj := (fo (@Value.type PySem.W.SL.s7174869446012820540x8) none (Array.mk []) (Str.mk (Array.mk [nat_lit 109, nat_lit 117, nat_lit 115, nat_lit 116, nat_lit 95, nat_lit 102, nat_lit 105, nat_lit 108, nat_lit 108])) (Str.mk (Array.mk [nat_lit 109, nat_lit 117, nat_lit 115, nat_lit 116, nat_lit 95, nat_lit 102, nat_lit 105, nat_lit 108, nat_lit 108])) (tp 115) 3 [] Value.none Value.none Value.none (.str (Str.mk (Array.mk [nat_lit 113, nat_lit 117, nat_lit 105, nat_lit 99, nat_lit 46, nat_lit 100, nat_lit 97, nat_lit 116, nat_lit 97, nat_lit 103, nat_lit 114, nat_lit 97, nat_lit 109, nat_lit 115])) 1073) none (.ref 576) Value.none 0)
noncomputable def o583 (P : Params) : Obj := (@Obj.mk (@Value.type PySem.W.SL.s5856160107412720595x4) none (@Data.fields (Array.mk [(.str (Str.mk (Array.mk [nat_lit 112, nat_lit 97, nat_lit 100, nat_lit 100, nat_lit 101, nat_lit 100, nat_lit 95, nat_lit 114, nat_lit 111, nat_lit 119, nat_lit 115])) 1110), (.str (Str.mk (Array.mk [nat_lit 112, nat_lit 97, nat_lit 100, nat_lit 100, nat_lit 101, nat_lit 100, nat_lit 95, nat_lit 114, nat_lit 111, nat_lit 119, nat_lit 115])) 1111), (.str (Str.mk (Array.mk [nat_lit 47, nat_lit 99, nat_lit 108, nat_lit 97, nat_lit 105, nat_lit 109, nat_lit 47, nat_lit 99, nat_lit 117, nat_lit 116, nat_lit 46, nat_lit 112, nat_lit 121])) 1112), (@Value.int 395 0), (@Value.int 2 0), (@Value.int 0 0), (@Value.int 0 0), (@Value.int 3 0), (.ref 578), (@Value.bool true), (@Value.int 181 0), (.ref 579), Value.none, (.ref 580), (.ref 581), (.ref 582), (@Value.int 1117 0), (@Value.int 395 0), (.str (Str.mk (Array.mk [nat_lit 47, nat_lit 99, nat_lit 108, nat_lit 97, nat_lit 105, nat_lit 109, nat_lit 47, nat_lit 99, nat_lit 117, nat_lit 116, nat_lit 46, nat_lit 112, nat_lit 121])) 1118)])) (Array.mk []))
noncomputable def o584 (P : Params) : Obj := (fo (@Value.type PySem.W.SL.s7174869446012820540x8) none (Array.mk []) (Str.mk (Array.mk [nat_lit 112, nat_lit 97, nat_lit 100, nat_lit 100, nat_lit 101, nat_lit 100, nat_lit 95, nat_lit 114, nat_lit 111, nat_lit 119, nat_lit 115])) (Str.mk (Array.mk [nat_lit 112, nat_lit 97, nat_lit 100, nat_lit 100, nat_lit 101, nat_lit 100, nat_lit 95, nat_lit 114, nat_lit 111, nat_lit 119, nat_lit 115])) (tp 116) 3 [] Value.none Value.none Value.none (.str (Str.mk (Array.mk [nat_lit 113, nat_lit 117, nat_lit 105, nat_lit 99, nat_lit 46, nat_lit 100, nat_lit 97, nat_lit 116, nat_lit 97, nat_lit 103, nat_lit 114, nat_lit 97, nat_lit 109, nat_lit 115])) 1073) none (.ref 583) Value.none 0)
noncomputable def o590 (P : Params) : Obj := (@Obj.mk (@Value.type PySem.W.SL.s5856160107412720595x4) none (@Data.fields (Array.mk [(.str (Str.mk (Array.mk [nat_lit 102, nat_lit 117, nat_lit 108, nat_lit 108, nat_lit 95, nat_lit 114, nat_lit 111, nat_lit 119, nat_lit 115])) 1120), (.str (Str.mk (Array.mk [nat_lit 102, nat_lit 117, nat_lit 108, nat_lit 108, nat_lit 95, nat_lit 114, nat_lit 111, nat_lit 119, nat_lit 115])) 1121), (.str (Str.mk (Array.mk [nat_lit 47, nat_lit 99, nat_lit 108, nat_lit 97, nat_lit 105, nat_lit 109, nat_lit 47, nat_lit 99, nat_lit 117, nat_lit 116, nat_lit 46, nat_lit 112, nat_lit 121])) 1122), (@Value.int 398 0), (@Value.int 5 0), (@Value.int 0 0), (@Value.int 0 0), (@Value.int 3 0), (.ref 585), (@Value.bool true), (@Value.int 181 0), (.ref 586), Value.none, (.ref 587), (.ref 588), (.ref 589), (@Value.int 1131 0), (@Value.int 398 0), (.str (Str.mk (Array.mk [nat_lit 47, nat_lit 99, nat_lit 108, nat_lit 97, nat_lit 105, nat_lit 109, nat_lit 47, nat_lit 99, nat_lit 117, nat_lit 116, nat_lit 46, nat_lit 112, nat_lit 121])) 1132)])) (Array.mk []))
noncomputable def o591 (P : Params) : Obj := (fo (@Value.type PySem.W.SL.s7174869446012820540x8) none (Array.mk []) (Str.mk (Array.mk [nat_lit 102, nat_lit 117, nat_lit 108, nat_lit 108, nat_lit 95, nat_lit 114, nat_lit 111, nat_lit 119, nat_lit 115])) (Str.mk (Array.mk [nat_lit 102, nat_lit 117, nat_lit 108, nat_lit 108, nat_lit 95, nat_lit 114, nat_lit 111, nat_lit 119, nat_lit 115])) (tp 117) 3 [] Value.none Value.none Value.none (.str (Str.mk (Array.mk [nat_lit 113, nat_lit 117, nat_lit 105, nat_lit 99, nat_lit 46, nat_lit 100, nat_lit 97, nat_lit 116, nat_lit 97, nat_lit 103, nat_lit 114, nat_lit 97, nat_lit 109, nat_lit 115])) 1073) none (.ref 590) Value.none 0)
noncomputable def o597 (P : Params) : Obj := (@Obj.mk (@Value.type PySem.W.SL.s5856160107412720595x4) none (@Data.fields (Array.mk [(.str (Str.mk (Array.mk [nat_lit 105, nat_lit 100, nat_lit 115, nat_lit 95, nat_lit 111, nat_lit 102])) 1138), (.str (Str.mk (Array.mk [nat_lit 105, nat_lit 100, nat_lit 115, nat_lit 95, nat_lit 111, nat_lit 102])) 1139), (.str (Str.mk (Array.mk [nat_lit 47, nat_lit 99, nat_lit 108, nat_lit 97, nat_lit 105, nat_lit 109, nat_lit 47, nat_lit 99, nat_lit 117, nat_lit 116, nat_lit 46, nat_lit 112, nat_lit 121])) 1140), (@Value.int 409 0), (@Value.int 1 0), (@Value.int 0 0), (@Value.int 0 0), (@Value.int 3 0), (.ref 592), (@Value.bool true), (@Value.int 181 0), (.ref 593), Value.none, (.ref 594), (.ref 595), (.ref 596), (@Value.int 1142 0), (@Value.int 409 0), (.str (Str.mk (Array.mk [nat_lit 47, nat_lit 99, nat_lit 108, nat_lit 97, nat_lit 105, nat_lit 109, nat_lit 47, nat_lit 99, nat_lit 117, nat_lit 116, nat_lit 46, nat_lit 112, nat_lit 121])) 1143)])) (Array.mk []))
noncomputable def o598 (P : Params) : Obj := (fo (@Value.type PySem.W.SL.s7174869446012820540x8) none (Array.mk []) (Str.mk (Array.mk [nat_lit 105, nat_lit 100, nat_lit 115, nat_lit 95, nat_lit 111, nat_lit 102])) (Str.mk (Array.mk [nat_lit 105, nat_lit 100, nat_lit 115, nat_lit 95, nat_lit 111, nat_lit 102])) (tp 120) 3 [] Value.none Value.none Value.none (.str (Str.mk (Array.mk [nat_lit 113, nat_lit 117, nat_lit 105, nat_lit 99, nat_lit 46, nat_lit 99, nat_lit 111, nat_lit 110, nat_lit 110, nat_lit 111, nat_lit 117, nat_lit 116])) 1134) none (.ref 597) Value.none 0)
noncomputable def o602 (P : Params) : Obj := (@Obj.mk (@Value.type PySem.W.SL.s5856160107412720595x4) none (@Data.fields (Array.mk [(.str (Str.mk (Array.mk [nat_lit 112, nat_lit 108, nat_lit 97, nat_lit 99, nat_lit 101, nat_lit 115, nat_lit 95, nat_lit 111, nat_lit 102])) 1145), (.str (Str.mk (Array.mk [nat_lit 112, nat_lit 108, nat_lit 97, nat_lit 99, nat_lit 101, nat_lit 115, nat_lit 95, nat_lit 111, nat_lit 102])) 1146), (.str (Str.mk (Array.mk [nat_lit 47, nat_lit 99, nat_lit 108, nat_lit 97, nat_lit 105, nat_lit 109, nat_lit 47, nat_lit 99, nat_lit 117, nat_lit 116, nat_lit 46, nat_lit 112, nat_lit 121])) 1147), (@Value.int 411 0), (@Value.int 1 0), (@Value.int 0 0), (@Value.int 0 0), (@Value.int 3 0), (.ref 599), (@Value.bool true), (@Value.int 181 0), (.ref 600), Value.none, Value.none, Value.none, (.ref 601), (@Value.int 1148 0), (@Value.int 411 0), (.str (Str.mk (Array.mk [nat_lit 47, nat_lit 99, nat_lit 108, nat_lit 97, nat_lit 105, nat_lit 109, nat_lit 47, nat_lit 99, nat_lit 117, nat_lit 116, nat_lit 46, nat_lit 112, nat_lit 121])) 1149)])) (Array.mk []))
noncomputable def o603 (P : Params) : Obj := (fo (@Value.type PySem.W.SL.s7174869446012820540x8) none (Array.mk []) (Str.mk (Array.mk [nat_lit 112, nat_lit 108, nat_lit 97, nat_lit 99, nat_lit 101, nat_lit 115, nat_lit 95, nat_lit 111, nat_lit 102])) (Str.mk (Array.mk [nat_lit 112, nat_lit 108, nat_lit 97, nat_lit 99, nat_lit 101, nat_lit 115, nat_lit 95, nat_lit 111, nat_lit 102])) (tp 121) 3 [] Value.none Value.none Value.none (.str (Str.mk (Array.mk [nat_lit 113, nat_lit 117, nat_lit 105, nat_lit 99, nat_lit 46, nat_lit 99, nat_lit 111, nat_lit 110, nat_lit 110, nat_lit 111, nat_lit 117, nat_lit 116])) 1134) none (.ref 602) Value.none 0)
noncomputable def o609 (P : Params) : Obj := (@Obj.mk (@Value.type PySem.W.SL.s5856160107412720595x4) none (@Data.fields (Array.mk [(.str (Str.mk (Array.mk [nat_lit 115, nat_lit 101, nat_lit 97, nat_lit 108, nat_lit 101, nat_lit 100])) 1151), (.str (Str.mk (Array.mk [nat_lit 115, nat_lit 101, nat_lit 97, nat_lit 108, nat_lit 101, nat_lit 100])) 1152), (.str (Str.mk (Array.mk [nat_lit 47, nat_lit 99, nat_lit 108, nat_lit 97, nat_lit 105, nat_lit 109, nat_lit 47, nat_lit 99, nat_lit 117, nat_lit 116, nat_lit 46, nat_lit 112, nat_lit 121])) 1153), (@Value.int 413 0), (@Value.int 4 0), (@Value.int 0 0), (@Value.int 0 0), (@Value.int 3 0), (.ref 604), (@Value.bool true), (@Value.int 181 0), (.ref 605), Value.none, (.ref 606), (.ref 607), (.ref 608), (@Value.int 1163 0), (@Value.int 413 0), (.str (Str.mk (Array.mk [nat_lit 47, nat_lit 99, nat_lit 108, nat_lit 97, nat_lit 105, nat_lit 109, nat_lit 47, nat_lit 99, nat_lit 117, nat_lit 116, nat_lit 46, nat_lit 112, nat_lit 121])) 1164)])) (Array.mk []))
noncomputable def o610 (P : Params) : Obj := (fo (@Value.type PySem.W.SL.s7174869446012820540x8) none (Array.mk []) (Str.mk (Array.mk [nat_lit 115, nat_lit 101, nat_lit 97, nat_lit 108, nat_lit 101, nat_lit 100])) (Str.mk (Array.mk [nat_lit 115, nat_lit 101, nat_lit 97, nat_lit 108, nat_lit 101, nat_lit 100])) (tp 122) 3 [] Value.none Value.none Value.none (.str (Str.mk (Array.mk [nat_lit 113, nat_lit 117, nat_lit 105, nat_lit 99, nat_lit 46, nat_lit 99, nat_lit 111, nat_lit 110, nat_lit 110, nat_lit 111, nat_lit 117, nat_lit 116])) 1134) none (.ref 609) Value.none 0)
noncomputable def o614 (P : Params) : Obj := (@Obj.mk (@Value.type PySem.W.SL.s5856160107412720595x4) none (@Data.fields (Array.mk [(.str (Str.mk (Array.mk [nat_lit 119, nat_lit 105, nat_lit 116, nat_lit 104, nat_lit 95, nat_lit 112, nat_lit 97, nat_lit 100, nat_lit 100, nat_lit 105, nat_lit 110, nat_lit 103])) 1166), (.str (Str.mk (Array.mk [nat_lit 119, nat_lit 105, nat_lit 116, nat_lit 104, nat_lit 95, nat_lit 112, nat_lit 97, nat_lit 100, nat_lit 100, nat_lit 105, nat_lit 110, nat_lit 103])) 1167), (.str (Str.mk (Array.mk [nat_lit 47, nat_lit 99, nat_lit 108, nat_lit 97, nat_lit 105, nat_lit 109, nat_lit 47, nat_lit 99, nat_lit 117, nat_lit 116, nat_lit 46, nat_lit 112, nat_lit 121])) 1168), (@Value.int 428 0), (@Value.int 3 0), (@Value.int 0 0), (@Value.int 0 0), (@Value.int 3 0), (.ref 611), (@Value.bool true), (@Value.int 181 0), (.ref 612), Value.none, Value.none, Value.none, (.ref 613), (@Value.int 1169 0), (@Value.int 428 0), (.str (Str.mk (Array.mk [nat_lit 47, nat_lit 99, nat_lit 108, nat_lit 97, nat_lit 105, nat_lit 109, nat_lit 47, nat_lit 99, nat_lit 117, nat_lit 116, nat_lit 46, nat_lit 112, nat_lit 121])) 1170)])) (Array.mk []))
noncomputable def o615 (P : Params) : Obj := (fo (@Value.type PySem.W.SL.s7174869446012820540x8) none (Array.mk []) (Str.mk (Array.mk [nat_lit 119, nat_lit 105, nat_lit 116, nat_lit 104, nat_lit 95, nat_lit 112, nat_lit 97, nat_lit 100, nat_lit 100, nat_lit 105, nat_lit 110, nat_lit 103])) (Str.mk (Array.mk [nat_lit 119, nat_lit 105, nat_lit 116, nat_lit 104, nat_lit 95, nat_lit 112, nat_lit 97, nat_lit 100, nat_lit 100, nat_lit 105, nat_lit 110, nat_lit 103])) (tp 123) 3 [] Value.none Value.none Value.none (.str (Str.mk (Array.mk [nat_lit 113, nat_lit 117, nat_lit 105, nat_lit 99, nat_lit 46, nat_lit 99, nat_lit 111, nat_lit 110, nat_lit 110, nat_lit 111, nat_lit 117, nat_lit 116])) 1134) none (.ref 614) Value.none 0)
noncomputable def o621 (P : Params) : Obj := (@Obj.mk (@Value.type PySem.W.SL.s5856160107412720595x4) none (@Data.fields (Array.mk [(.str (Str.mk (Array.mk [nat_lit 116, nat_lit 114, nat_lit 105, nat_lit 97, nat_lit 108, nat_lit 115, nat_lit 95, nat_lit 97, nat_lit 115, nat_lit 105, nat_lit 100, nat_lit 101])) 1172), (.str (Str.mk (Array.mk [nat_lit 116, nat_lit 114, nat_lit 105, nat_lit 97, nat_lit 108, nat_lit 115, nat_lit 95, nat_lit 97, nat_lit 115, nat_lit 105, nat_lit 100, nat_lit 101])) 1173), (.str (Str.mk (Array.mk [nat_lit 47, nat_lit 99, nat_lit 108, nat_lit 97, nat_lit 105, nat_lit 109, nat_lit 47, nat_lit 99, nat_lit 117, nat_lit 116, nat_lit 46, nat_lit 112, nat_lit 121])) 1174), (@Value.int 433 0), (@Value.int 2 0), (@Value.int 0 0), (@Value.int 0 0), (@Value.int 3 0), (.ref 616), (@Value.bool true), (@Value.int 181 0), (.ref 617), Value.none, (.ref 618), (.ref 619), (.ref 620), (@Value.int 1182 0), (@Value.int 433 0), (.str (Str.mk (Array.mk [nat_lit 47, nat_lit 99, nat_lit 108, nat_lit 97, nat_lit 105, nat_lit 109, nat_lit 47, nat_lit 99, nat_lit 117, nat_lit 116, nat_lit 46, nat_lit 112, nat_lit 121])) 1183)])) (Array.mk []))
noncomputable def o622 (P : Params) : Obj := (fo (@Value.type PySem.W.SL.s7174869446012820540x8) none (Array.mk []) (Str.mk (Array.mk [nat_lit 116, nat_lit 114, nat_lit 105, nat_lit 97, nat_lit 108, nat_lit 115, nat_lit 95, nat_lit 97, nat_lit 115, nat_lit 105, nat_lit 100, nat_lit 101])) (Str.mk (Array.mk [nat_lit 116, nat_lit 114, nat_lit 105, nat_lit 97, nat_lit 108, nat_lit 115, nat_lit 95, nat_lit 97, nat_lit 115, nat_lit 105, nat_lit 100, nat_lit 101])) (tp 124) 3 [] Value.none Value.none Value.none (.str (Str.mk (Array.mk [nat_lit 113, nat_lit 117, nat_lit 105, nat_lit 99, nat_lit 46, nat_lit 99, nat_lit 111, nat_lit 110, nat_lit 110, nat_lit 111, nat_lit 117, nat_lit 116])) 1134) none (.ref 621) Value.none 0)
noncomputable def o626 (P : Params) : Obj := (@Obj.mk (@Value.type PySem.W.SL.s5856160107412720595x4) none (@Data.fields (Array.mk [(.str (Str.mk (Array.mk [nat_lit 111, nat_lit 116, nat_lit 104, nat_lit 101, nat_lit 114, nat_lit 95, nat_lit 97, nat_lit 110, nat_lit 115, nat_lit 119, nat_lit 101, nat_lit 114, nat_lit 115])) 1185), (.str (Str.mk (Array.mk [nat_lit 111, nat_lit 116, nat_lit 104, nat_lit 101, nat_lit 114, nat_lit 95, nat_lit 97, nat_lit 110, nat_lit 115, nat_lit 119, nat_lit 101, nat_lit 114, nat_lit 115])) 1186), (.str (Str.mk (Array.mk [nat_lit 47, nat_lit 99, nat_lit 108, nat_lit 97, nat_lit 105, nat_lit 109, nat_lit 47, nat_lit 99, nat_lit 117, nat_lit 116, nat_lit 46, nat_lit 112, nat_lit 121])) 1187), (@Value.int 445 0), (@Value.int 2 0), (@Value.int 0 0), (@Value.int 0 0), (@Value.int 3 0), (.ref 623), (@Value.bool true), (@Value.int 181 0), (.ref 624), Value.none, Value.none, Value.none, (.ref 625), (@Value.int 1188 0), (@Value.int 445 0), (.str (Str.mk (Array.mk [nat_lit 47, nat_lit 99, nat_lit 108, nat_lit 97, nat_lit 105, nat_lit 109, nat_lit 47, nat_lit 99, nat_lit 117, nat_lit 116, nat_lit 46, nat_lit 112, nat_lit 121])) 1189)])) (Array.mk []))
noncomputable def o627 (P : Params) : Obj := (fo (@Value.type PySem.W.SL.s7174869446012820540x8) none (Array.mk []) (Str.mk (Array.mk [nat_lit 111, nat_lit 116, nat_lit 104, nat_lit 101, nat_lit 114, nat_lit 95, nat_lit 97, nat_lit 110, nat_lit 115, nat_lit 119, nat_lit 101, nat_lit 114, nat_lit 115])) (Str.mk (Array.mk [nat_lit 111, nat_lit 116, nat_lit 104, nat_lit 101, nat_lit 114, nat_lit 95, nat_lit 97, nat_lit 110, nat_lit 115, nat_lit 119, nat_lit 101, nat_lit 114, nat_lit 115])) (tp 125) 3 [] Value.none Value.none Value.none (.str (Str.mk (Array.mk [nat_lit 113, nat_lit 117, nat_lit 105, nat_lit 99, nat_lit 46, nat_lit 99, nat_lit 111, nat_lit 110, nat_lit 110, nat_lit 111, nat_lit 117, nat_lit 116])) 1134) none (.ref 626) Value.none 0)
noncomputable def o633 (P : Params) : Obj := (@Obj.mk (@Value.type PySem.W.SL.s5856160107412720595x4) none (@Data.fields (Array.mk [(.str (Str.mk (Array.mk [nat_lit 110, nat_lit 111, nat_lit 116, nat_lit 101, nat_lit 95, nat_lit 109, nat_lit 111, nat_lit 118, nat_lit 101])) 1193), (.str (Str.mk (Array.mk [nat_lit 110, nat_lit 111, nat_lit 116, nat_lit 101, nat_lit 95, nat_lit 109, nat_lit 111, nat_lit 118, nat_lit 101])) 1194), (.str (Str.mk (Array.mk [nat_lit 47, nat_lit 99, nat_lit 108, nat_lit 97, nat_lit 105, nat_lit 109, nat_lit 47, nat_lit 99, nat_lit 117, nat_lit 116, nat_lit 46, nat_lit 112, nat_lit 121])) 1195), (@Value.int 465 0), (@Value.int 6 0), (@Value.int 0 0), (@Value.int 0 0), (@Value.int 3 0), (.ref 628), (@Value.bool true), (@Value.int 181 0), (.ref 629), Value.none, (.ref 630), (.ref 631), (.ref 632), (@Value.int 1203 0), (@Value.int 465 0), (.str (Str.mk (Array.mk [nat_lit 47, nat_lit 99, nat_lit 108, nat_lit 97, nat_lit 105, nat_lit 109, nat_lit 47, nat_lit 99, nat_lit 117, nat_lit 116, nat_lit 46, nat_lit 112, nat_lit 121])) 1204)])) (Array.mk []))
noncomputable def o634 (P : Params) : Obj := (fo (@Value.type PySem.W.SL.s7174869446012820540x8) none (Array.mk []) (Str.mk (Array.mk [nat_lit 110, nat_lit 111, nat_lit 116, nat_lit 101, nat_lit 95, nat_lit 109, nat_lit 111, nat_lit 118, nat_lit 101])) (Str.mk (Array.mk [nat_lit 110, nat_lit 111, nat_lit 116, nat_lit 101, nat_lit 95, nat_lit 109, nat_lit 111, nat_lit 118, nat_lit 101])) (tp 127) 3 [] Value.none Value.none Value.none (.str (Str.mk (Array.mk [nat_lit 113, nat_lit 117, nat_lit 105, nat_lit 99, nat_lit 46, nat_lit 99, nat_lit 111, nat_lit 110, nat_lit 110, nat_lit 105, nat_lit 110])) 1191) none (.ref 633) Value.none 0)
noncomputable def o647 (P : Params) : Obj := (@Obj.mk (@Value.type PySem.W.SL.s5856160107412720595x4) none (@Data.fields (Array.mk [(.str (Str.mk (Array.mk [nat_lit 95, nat_lit 95, nat_lit 105, nat_lit 110, nat_lit 105, nat_lit 116, nat_lit 95, nat_lit 95])) 1230), (.str (Str.mk (Array.mk [nat_lit 80, nat_lit 97, nat_lit 116, nat_lit 104, nat_lit 46, nat_lit 95, nat_lit 95, nat_lit 105, nat_lit 110, nat_lit 105, nat_lit 116, nat_lit 95, nat_lit 95])) 1231), (.str (Str.mk (Array.mk [nat_lit 47, nat_lit 99, nat_lit 108, nat_lit 97, nat_lit 105, nat_lit 109, nat_lit 47, nat_lit 99, nat_lit 117, nat_lit 116, nat_lit 46, nat_lit 112, nat_lit 121])) 1232), (@Value.int 483 0), (@Value.int 3 0), (@Value.int 0 0), (@Value.int 0 0), (@Value.int 3 0), (.ref 642), (@Value.bool true), (@Value.int 181 0), (.ref 643), Value.none, (.ref 644), (.ref 645), (.ref 646), (@Value.int 1236 0), (@Value.int 483 0), (.str (Str.mk (Array.mk [nat_lit 47, nat_lit 99, nat_lit 108, nat_lit 97, nat_lit 105, nat_lit 109, nat_lit 47, nat_lit 99, nat_lit 117, nat_lit 116, nat_lit 46, nat_lit 112, nat_lit 121])) 1237)])) (Array.mk []))
noncomputable def o648 (P : Params) : Obj := (fo (@Value.type PySem.W.SL.s7174869446012820540x8) none (Array.mk []) (Str.mk (Array.mk [nat_lit 95, nat_lit 95, nat_lit 105, nat_lit 110, nat_lit 105, nat_lit 116, nat_lit 95, nat_lit 95])) (Str.mk (Array.mk [nat_lit 80, nat_lit 97, nat_lit 116, nat_lit 104, nat_lit 46, nat_lit 95, nat_lit 95, nat_lit 105, nat_lit 110, nat_lit 105, nat_lit 116, nat_lit 95, nat_lit 95])) (mt 134 0) 3 [] Value.none Value.none Value.none (.str (Str.mk (Array.mk [nat_lit 113, nat_lit 117, nat_lit 105, nat_lit 99, nat_lit 46, nat_lit 112, nat_lit 97, nat_lit 116, nat_lit 104, nat_lit 115])) 1206) none (.ref 647) Value.none 0)
noncomputable def o654 (P : Params) : Obj := (@Obj.mk (@Value.type PySem.W.SL.s5856160107412720595x4) none (@Data.fields (Array.mk [(.str (Str.mk (Array.mk [nat_lit 105, nat_lit 115, nat_lit 95, nat_lit 112, nat_lit 114, nat_lit 111, nat_lit 118, nat_lit 101, nat_lit 110])) 1239), (.str (Str.mk (Array.mk [nat_lit 80, nat_lit 97, nat_lit 116, nat_lit 104, nat_lit 46, nat_lit 105, nat_lit 115, nat_lit 95, nat_lit 112, nat_lit 114, nat_lit 111, nat_lit 118, nat_lit 101, nat_lit 110])) 1240), (.str (Str.mk (Array.mk [nat_lit 47, nat_lit 99, nat_lit 108, nat_lit 97, nat_lit 105, nat_lit 109, nat_lit 47, nat_lit 99, nat_lit 117, nat_lit 116, nat_lit 46, nat_lit 112, nat_lit 121])) 1241), (@Value.int 493 0), (@Value.int 1 0), (@Value.int 0 0), (@Value.int 0 0), (@Value.int 3 0), (.ref 649), (@Value.bool true), (@Value.int 181 0), (.ref 650), Value.none, (.ref 651), (.ref 652), (.ref 653), (@Value.int 1243 0), (@Value.int 493 0), (.str (Str.mk (Array.mk [nat_lit 47, nat_lit 99, nat_lit 108, nat_lit 97, nat_lit 105, nat_lit 109, nat_lit 47, nat_lit 99, nat_lit 117, nat_lit 116, nat_lit 46, nat_lit 112, nat_lit 121])) 1244)])) (Array.mk []))
noncomputable def o655 (P : Params) : Obj := (fo (@Value.type PySem.W.SL.s7174869446012820540x8) none (Array.mk []) (Str.mk (Array.mk [nat_lit 105, nat_lit 115, nat_lit 95, nat_lit 112, nat_lit 114, nat_lit 111, nat_lit 118, nat_lit 101, nat_lit 110])) (Str.mk (Array.mk [nat_lit 80, nat_lit 97, nat_lit 116, nat_lit 104, nat_lit 46, nat_lit 105, nat_lit 115, nat_lit 95, nat_lit 112, nat_lit 114, nat_lit 111, nat_lit 118, nat_lit 101, nat_lit 110])) (mt 134 1) 3 [] Value.none Value.none Value.none (.str (Str.mk (Array.mk [nat_lit 113, nat_lit 117, nat_lit 105, nat_lit 99, nat_lit 46, nat_lit 112, nat_lit 97, nat_lit 116, nat_lit 104, nat_lit 115])) 1206) none (.ref 654) Value.none 0)
noncomputable def o661 (P : Params) : Obj := (@Obj.mk (@Value.type PySem.W.SL.s5856160107412720595x4) none (@Data.fields (Array.mk [(.str (Str.mk (Array.mk [nat_lit 114, nat_lit 111, nat_lit 111, nat_lit 109])) 1246), (.str (Str.mk (Array.mk [nat_lit 80, nat_lit 97, nat_lit 116, nat_lit 104, nat_lit 46, nat_lit 114, nat_lit 111, nat_lit 111, nat_lit 109])) 1247), (.str (Str.mk (Array.mk [nat_lit 47, nat_lit 99, nat_lit 108, nat_lit 97, nat_lit 105, nat_lit 109, nat_lit 47, nat_lit 99, nat_lit 117, nat_lit 116, nat_lit 46, nat_lit 112, nat_lit 121])) 1248), (@Value.int 496 0), (@Value.int 1 0), (@Value.int 0 0), (@Value.int 0 0), (@Value.int 3 0), (.ref 656), (@Value.bool true), (@Value.int 181 0), (.ref 657), Value.none, (.ref 658), (.ref 659), (.ref 660), (@Value.int 1250 0), (@Value.int 496 0), (.str (Str.mk (Array.mk [nat_lit 47, nat_lit 99, nat_lit 108, nat_lit 97, nat_lit 105, nat_lit 109, nat_lit 47, nat_lit 99, nat_lit 117, nat_lit 116, nat_lit 46, nat_lit 112, nat_lit 121])) 1251)])) (Array.mk []))
noncomputable def o662 (P : Params) : Obj := (fo (@Value.type PySem.W.SL.s7174869446012820540x8) none (Array.mk []) (Str.mk (Array.mk [nat_lit 114, nat_lit 111, nat_lit 111, nat_lit 109])) (Str.mk (Array.mk [nat_lit 80, nat_lit 97, nat_lit 116, nat_lit 104, nat_lit 46, nat_lit 114, nat_lit 111, nat_lit 111, nat_lit 109])) (mt 134 2) 3 [] Value.none Value.none Value.none (.str (Str.mk (Array.mk [nat_lit 113, nat_lit 117, nat_lit 105, nat_lit 99, nat_lit 46, nat_lit 112, nat_lit 97, nat_lit 116, nat_lit 104, nat_lit 115])) 1206) none (.ref 661) Value.none 0)
noncomputable def o668 (P : Params) : Obj := (@Obj.mk (@Value.type PySem.W.SL.s5856160107412720595x4) none (@Data.fields (Array.mk [(.str (Str.mk (Array.mk [nat_lit 109, nat_lit 97, nat_lit 121, nat_lit 95, nat_lit 115, nat_lit 101, nat_lit 110, nat_lit 100])) 1253), (.str (Str.mk (Array.mk [nat_lit 80, nat_lit 97, nat_lit 116, nat_lit 104, nat_lit 46, nat_lit 109, nat_lit 97, nat_lit 121, nat_lit 95, nat_lit 115, nat_lit 101, nat_lit 110, nat_lit 100])) 1254), (.str (Str.mk (Array.mk [nat_lit 47, nat_lit 99, nat_lit 108, nat_lit 97, nat_lit 105, nat_lit 109, nat_lit 47, nat_lit 99, nat_lit 117, nat_lit 116, nat_lit 46, nat_lit 112, nat_lit 121])) 1255), (@Value.int 499 0), (@Value.int 2 0), (@Value.int 0 0), (@Value.int 0 0), (@Value.int 3 0), (.ref 663), (@Value.bool true), (@Value.int 181 0), (.ref 664), Value.none, (.ref 665), (.ref 666), (.ref 667), (@Value.int 1259 0), (@Value.int 499 0), (.str (Str.mk (Array.mk [nat_lit 47, nat_lit 99, nat_lit 108, nat_lit 97, nat_lit 105, nat_lit 109, nat_lit 47, nat_lit 99, nat_lit 117, nat_lit 116, nat_lit 46, nat_lit 112, nat_lit 121])) 1260)])) (Array.mk []))
noncomputable def o669 (P : Params) : Obj := (fo (@Value.type PySem.W.SL.s7174869446012820540x8) none (Array.mk []) (Str.mk (Array.mk [nat_lit 109, nat_lit 97, nat_lit 121, nat_lit 95, nat_lit 115, nat_lit 101, nat_lit 110, nat_lit 100])) (Str.mk (Array.mk [nat_lit 80, nat_lit 97, nat_lit 116, nat_lit 104, nat_lit 46, nat_lit 109, nat_lit 97, nat_lit 121, nat_lit 95, nat_lit 115, nat_lit 101, nat_lit 110, nat_lit 100])) (mt 134 3) 3 [] Value.none Value.none Value.none (.str (Str.mk (Array.mk [nat_lit 113, nat_lit 117, nat_lit 105, nat_lit 99, nat_lit 46, nat_lit 112, nat_lit 97, nat_lit 116, nat_lit 104, nat_lit 115])) 1206) none (.ref 668) Value.none 0)
noncomputable def o675 (P : Params) : Obj := (@Obj.mk (@Value.type PySem.W.SL.s5856160107412720595x4) none (@Data.fields (Array.mk [(.str (Str.mk (Array.mk [nat_lit 111, nat_lit 110, nat_lit 95, nat_lit 114, nat_lit 101, nat_lit 99, nat_lit 101, nat_lit 105, nat_lit 118, nat_lit 101, nat_lit 100])) 1262), (.str (Str.mk (Array.mk [nat_lit 80, nat_lit 97, nat_lit 116, nat_lit 104, nat_lit 46, nat_lit 111, nat_lit 110, nat_lit 95, nat_lit 114, nat_lit 101, nat_lit 99, nat_lit 101, nat_lit 105, nat_lit 118, nat_lit 101, nat_lit 100])) 1263), (.str (Str.mk (Array.mk [nat_lit 47, nat_lit 99, nat_lit 108, nat_lit 97, nat_lit 105, nat_lit 109, nat_lit 47, nat_lit 99, nat_lit 117, nat_lit 116, nat_lit 46, nat_lit 112, nat_lit 121])) 1264), (@Value.int 503 0), (@Value.int 2 0), (@Value.int 0 0), (@Value.int 0 0), (@Value.int 3 0), (.ref 670), (@Value.bool true), (@Value.int 181 0), (.ref 671), Value.none, (.ref 672), (.ref 673), (.ref 674), (@Value.int 1267 0), (@Value.int 503 0), (.str (Str.mk (Array.mk [nat_lit 47, nat_lit 99, nat_lit 108, nat_lit 97, nat_lit 105, nat_lit 109, nat_lit 47, nat_lit 99, nat_lit 117, nat_lit 116, nat_lit 46, nat_lit 112, nat_lit 121])) 1268)])) (Array.mk []))
noncomputable def o676 (P : Params) : Obj := (fo (@Value.type PySem.W.SL.s7174869446012820540x8) none (Array.mk []) (Str.mk (Array.mk [nat_lit 111, nat_lit 110, nat_lit 95, nat_lit 114, nat_lit 101, nat_lit 99, nat_lit 101, nat_lit 105, nat_lit 118, nat_lit 101, nat_lit 100])) (Str.mk (Array.mk [nat_lit 80, nat_lit 97, nat_lit 116, nat_lit 104, nat_lit 46, nat_lit 111, nat_lit 110, nat_lit 95, nat_lit 114, nat_lit 101, nat_lit 99, nat_lit 101, nat_lit 105, nat_lit 118, nat_lit 101, nat_lit 100])) (mt 134 4) 3 [] Value.none Value.none Value.none (.str (Str.mk (Array.mk [nat_lit 113, nat_lit 117, nat_lit 105, nat_lit 99, nat_lit 46, nat_lit 112, nat_lit 97, nat_lit 116, nat_lit 104, nat_lit 115])) 1206) none (.ref 675) Value.none 0)
noncomputable def o682 (P : Params) : Obj := (@Obj.mk (@Value.type PySem.W.SL.s5856160107412720595x4) none (@Data.fields (Array.mk [(.str (Str.mk (Array.mk [nat_lit 111, nat_lit 110, nat_lit 95, nat_lit 115, nat_lit 101, nat_lit 110, nat_lit 116])) 1270), (.str (Str.mk (Array.mk [nat_lit 80, nat_lit 97, nat_lit 116, nat_lit 104, nat_lit 46, nat_lit 111, nat_lit 110, nat_lit 95, nat_lit 115, nat_lit 101, nat_lit 110, nat_lit 116])) 1271), (.str (Str.mk (Array.mk [nat_lit 47, nat_lit 99, nat_lit 108, nat_lit 97, nat_lit 105, nat_lit 109, nat_lit 47, nat_lit 99, nat_lit 117, nat_lit 116, nat_lit 46, nat_lit 112, nat_lit 121])) 1272), (@Value.int 506 0), (@Value.int 2 0), (@Value.int 0 0), (@Value.int 0 0), (@Value.int 3 0), (.ref 677), (@Value.bool true), (@Value.int 181 0), (.ref 678), Value.none, (.ref 679), (.ref 680), (.ref 681), (@Value.int 1275 0), (@Value.int 506 0), (.str (Str.mk (Array.mk [nat_lit 47, nat_lit 99, nat_lit 108, nat_lit 97, nat_lit 105, nat_lit 109, nat_lit 47, nat_lit 99, nat_lit 117, nat_lit 116, nat_lit 46, nat_lit 112, nat_lit 121])) 1276)])) (Array.mk []))
noncomputable def o683 (P : Params) : Obj := (fo (@Value.type PySem.W.SL.s7174869446012820540x8) none (Array.mk []) (Str.mk (Array.mk [nat_lit 111, nat_lit 110, nat_lit 95, nat_lit 115, nat_lit 101, nat_lit 110, nat_lit 116])) (Str.mk (Array.mk [nat_lit 80, nat_lit 97, nat_lit 116, nat_lit 104, nat_lit 46, nat_lit 111, nat_lit 110, nat_lit 95, nat_lit 115, nat_lit 101, nat_lit 110, nat_lit 116])) (mt 134 5) 3 [] Value.none Value.none Value.none (.str (Str.mk (Array.mk [nat_lit 113, nat_lit 117, nat_lit 105, nat_lit 99, nat_lit 46, nat_lit 112, nat_lit 97, nat_lit 116, nat_lit 104, nat_lit 115])) 1206) none (.ref 682) Value.none 0)
noncomputable def o689 (P : Params) : Obj := (@Obj.mk (@Value.type PySem.W.SL.s5856160107412720595x4) none (@Data.fields (Array.mk [(.str (Str.mk (Array.mk [nat_lit 112, nat_lit 114, nat_lit 111, nat_lit 118, nat_lit 101])) 1278), (.str (Str.mk (Array.mk [nat_lit 80, nat_lit 97, nat_lit 116, nat_lit 104, nat_lit 46, nat_lit 112, nat_lit 114, nat_lit 111, nat_lit 118, nat_lit 101])) 1279), (.str (Str.mk (Array.mk [nat_lit 47, nat_lit 99, nat_lit 108, nat_lit 97, nat_lit 105, nat_lit 109, nat_lit 47, nat_lit 99, nat_lit 117, nat_lit 116, nat_lit 46, nat_lit 112, nat_lit 121])) 1280), (@Value.int 509 0), (@Value.int 1 0), (@Value.int 0 0), (@Value.int 0 0), (@Value.int 3 0), (.ref 684), (@Value.bool true), (@Value.int 181 0), (.ref 685), Value.none, (.ref 686), (.ref 687), (.ref 688), (@Value.int 1282 0), (@Value.int 509 0), (.str (Str.mk (Array.mk [nat_lit 47, nat_lit 99, nat_lit 108, nat_lit 97, nat_lit 105, nat_lit 109, nat_lit 47, nat_lit 99, nat_lit 117, nat_lit 116, nat_lit 46, nat_lit 112, nat_lit 121])) 1283)])) (Array.mk []))
noncomputable def o690 (P : Params) : Obj := (fo (@Value.type PySem.W.SL.s7174869446012820540x8) none (Array.mk []) (Str.mk (Array.mk [nat_lit 112, nat_lit 114, nat_lit 111, nat_lit 118, nat_lit 101])) (Str.mk (Array.mk [nat_lit 80, nat_lit 97, nat_lit 116, nat_lit 104, nat_lit 46, nat_lit 112, nat_lit 114, nat_lit 111, nat_lit 118, nat_lit 101])) (mt 134 6) 3 [] Value.none Value.none Value.none (.str (Str.mk (Array.mk [nat_lit 113, nat_lit 117, nat_lit 105, nat_lit 99, nat_lit 46, nat_lit 112, nat_lit 97, nat_lit 116, nat_lit 104, nat_lit 115])) 1206) none (.ref 689) Value.none 0)
noncomputable def o696 (P : Params) : Obj := (@Obj.mk (@Value.type PySem.W.SL.s5856160107412720595x4) none (@Data.fields (Array.mk [(.str (Str.mk (Array.mk [nat_lit 99, nat_lit 104, nat_lit 97, nat_lit 108, nat_lit 108, nat_lit 101, nat_lit 110, nat_lit 103, nat_lit 101])) 1285), (.str (Str.mk (Array.mk [nat_lit 80, nat_lit 97, nat_lit 116, nat_lit 104, nat_lit 46, nat_lit 99, nat_lit 104, nat_lit 97, nat_lit 108, nat_lit 108, nat_lit 101, nat_lit 110, nat_lit 103, nat_lit 101])) 1286), (.str (Str.mk (Array.mk [nat_lit 47, nat_lit 99, nat_lit 108, nat_lit 97, nat_lit 105, nat_lit 109, nat_lit 47, nat_lit 99, nat_lit 117, nat_lit 116, nat_lit 46, nat_lit 112, nat_lit 121])) 1287), (@Value.int 516 0), (@Value.int 4 0), (@Value.int 0 0), (@Value.int 0 0), (@Value.int 3 0), (.ref 691), (@Value.bool true), (@Value.int 181 0), (.ref 692), Value.none, (.ref 693), (.ref 694), (.ref 695), (@Value.int 1292 0), (@Value.int 516 0), (.str (Str.mk (Array.mk [nat_lit 47, nat_lit 99, nat_lit 108, nat_lit 97, nat_lit 105, nat_lit 109, nat_lit 47, nat_lit 99, nat_lit 117, nat_lit 116, nat_lit 46, nat_lit 112, nat_lit 121])) 1293)])) (Array.mk []))
noncomputable def o697 (P : Params) : Obj := (fo (@Value.type PySem.W.SL.s7174869446012820540x8) none (Array.mk []) (Str.mk (Array.mk [nat_lit 99, nat_lit 104, nat_lit 97, nat_lit 108, nat_lit 108, nat_lit 101, nat_lit 110, nat_lit 103, nat_lit 101])) (Str.mk (Array.mk [nat_lit 80, nat_lit 97, nat_lit 116, nat_lit 104, nat_lit 46, nat_lit 99, nat_lit 104, nat_lit 97, nat_lit 108, nat_lit 108, nat_lit 101, nat_lit 110, nat_lit 103, nat_lit 101])) (mt 134 7) 3 [] Value.none Value.none Value.none (.str (Str.mk (Array.mk [nat_lit 113, nat_lit 117, nat_lit 105, nat_lit 99, nat_lit 46, nat_lit 112, nat_lit 97, nat_lit 116, nat_lit 104, nat_lit 115])) 1206) none (.ref 696) Value.none 0)
noncomputable def o703 (P : Params) : Obj := (@Obj.mk (@Value.type PySem.W.SL.s5856160107412720595x4) none (@Data.fields (Array.mk [(.str (Str.mk (Array.mk [nat_lit 102, nat_lit 97, nat_lit 105, nat_lit 108])) 1295), (.str (Str.mk (Array.mk [nat_lit 80, nat_lit 97, nat_lit 116, nat_lit 104, nat_lit 46, nat_lit 102, nat_lit 97, nat_lit 105, nat_lit 108])) 1296), (.str (Str.mk (Array.mk [nat_lit 47, nat_lit 99, nat_lit 108, nat_lit 97, nat_lit 105, nat_lit 109, nat_lit 47, nat_lit 99, nat_lit 117, nat_lit 116, nat_lit 46, nat_lit 112, nat_lit 121])) 1297), (@Value.int 524 0), (@Value.int 1 0), (@Value.int 0 0), (@Value.int 0 0), (@Value.int 3 0), (.ref 698), (@Value.bool true), (@Value.int 181 0), (.ref 699), Value.none, (.ref 700), (.ref 701), (.ref 702), (@Value.int 1299 0), (@Value.int 524 0), (.str (Str.mk (Array.mk [nat_lit 47, nat_lit 99, nat_lit 108, nat_lit 97, nat_lit 105, nat_lit 109, nat_lit 47, nat_lit 99, nat_lit 117, nat_lit 116, nat_lit 46, nat_lit 112, nat_lit 121])) 1300)])) (Array.mk []))
noncomputable def o704 (P : Params) : Obj := (fo (@Value.type PySem.W.SL.s7174869446012820540x8) none (Array.mk []) (Str.mk (Array.mk [nat_lit 102, nat_lit 97, nat_lit 105, nat_lit 108])) (Str.mk (Array.mk [nat_lit 80, nat_lit 97, nat_lit 116, nat_lit 104, nat_lit 46, nat_lit 102, nat_lit 97, nat_lit 105, nat_lit 108])) (mt 134 8) 3 [] Value.none Value.none Value.none (.str (Str.mk (Array.mk [nat_lit 113, nat_lit 117, nat_lit 105, nat_lit 99, nat_lit 46, nat_lit 112, nat_lit 97, nat_lit 116, nat_lit 104, nat_lit 115])) 1206) none (.ref 703) Value.none 0)
noncomputable def o710 (P : Params) : Obj := (@Obj.mk (@Value.type PySem.W.SL.s5856160107412720595x4) none (@Data.fields (Array.mk [(.str (Str.mk (Array.mk [nat_lit 114, nat_lit 101, nat_lit 110, nat_lit 101, nat_lit 119])) 1302), (.str (Str.mk (Array.mk [nat_lit 80, nat_lit 97, nat_lit 116, nat_lit 104, nat_lit 46, nat_lit 114, nat_lit 101, nat_lit 110, nat_lit 101, nat_lit 119])) 1303), (.str (Str.mk (Array.mk [nat_lit 47, nat_lit 99, nat_lit 108, nat_lit 97, nat_lit 105, nat_lit 109, nat_lit 47, nat_lit 99, nat_lit 117, nat_lit 116, nat_lit 46, nat_lit 112, nat_lit 121])) 1304), (@Value.int 531 0), (@Value.int 1 0), (@Value.int 0 0), (@Value.int 0 0), (@Value.int 3 0), (.ref 705), (@Value.bool true), (@Value.int 181 0), (.ref 706), Value.none, (.ref 707), (.ref 708), (.ref 709), (@Value.int 1306 0), (@Value.int 531 0), (.str (Str.mk (Array.mk [nat_lit 47, nat_lit 99, nat_lit 108, nat_lit 97, nat_lit 105, nat_lit 109, nat_lit 47, nat_lit 99, nat_lit 117, nat_lit 116, nat_lit 46, nat_lit 112, nat_lit 121])) 1307)])) (Array.mk []))
noncomputable def o711 (P : Params) : Obj := (fo (@Value.type PySem.W.SL.s7174869446012820540x8) none (Array.mk []) (Str.mk (Array.mk [nat_lit 114, nat_lit 101, nat_lit 110, nat_lit 101, nat_lit 119])) (Str.mk (Array.mk [nat_lit 80, nat_lit 97, nat_lit 116, nat_lit 104, nat_lit 46, nat_lit 114, nat_lit 101, nat_lit 110, nat_lit 101, nat_lit 119])) (mt 134 9) 3 [] Value.none Value.none Value.none (.str (Str.mk (Array.mk [nat_lit 113, nat_lit 117, nat_lit 105, nat_lit 99, nat_lit 46, nat_lit 112, nat_lit 97, nat_lit 116, nat_lit 104, nat_lit 115])) 1206) none (.ref 710) Value.none 0)
noncomputable def o713 (P : Params) : Obj := (@Obj.mk (@Value.type PySem.W.SL.s14018661285674007319x4) none (@Data.dict (Array.mk [⟨(@PySem.PyData.keyHash P (Str.mk (Array.mk [nat_lit 95, nat_lit 95, nat_lit 109, nat_lit 111, nat_lit 100, nat_lit 117, nat_lit 108, nat_lit 101, nat_lit 95, nat_lit 95]))), .str (Str.mk (Array.mk [nat_lit 95, nat_lit 95, nat_lit 109, nat_lit 111, nat_lit 100, nat_lit 117, nat_lit 108, nat_lit 101, nat_lit 95, nat_lit 95])) 1225, (.str (Str.mk (Array.mk [nat_lit 113, nat_lit 117, nat_lit 105, nat_lit 99, nat_lit 46, nat_lit 112, nat_lit 97, nat_lit 116, nat_lit 104, nat_lit 115])) 1206)⟩, ⟨(@PySem.PyData.keyHash P (Str.mk (Array.mk [nat_lit 95, nat_lit 95, nat_lit 102, nat_lit 105, nat_lit 114, nat_lit 115, nat_lit 116, nat_lit 108, nat_lit 105, nat_lit 110, nat_lit 101, nat_lit 110, nat_lit 111, nat_lit 95, nat_lit 95]))), .str (Str.mk (Array.mk [nat_lit 95, nat_lit 95, nat_lit 102, nat_lit 105, nat_lit 114, nat_lit 115, nat_lit 116, nat_lit 108, nat_lit 105, nat_lit 110, nat_lit 101, nat_lit 110, nat_lit 111, nat_lit 95, nat_lit 95])) 1229, (@Value.int 481 1228)⟩, ⟨(@PySem.PyData.keyHash P (Str.mk (Array.mk [nat_lit 95, nat_lit 95, nat_lit 105, nat_lit 110, nat_lit 105, nat_lit 116, nat_lit 95, nat_lit 95]))), .str (Str.mk (Array.mk [nat_lit 95, nat_lit 95, nat_lit 105, nat_lit 110, nat_lit 105, nat_lit 116, nat_lit 95, nat_lit 95])) 1238, (.ref 648)⟩, ⟨(@PySem.PyData.keyHash P (Str.mk (Array.mk [nat_lit 105, nat_lit 115, nat_lit 95, nat_lit 112, nat_lit 114, nat_lit 111, nat_lit 118, nat_lit 101, nat_lit 110]))), .str (Str.mk (Array.mk [nat_lit 105, nat_lit 115, nat_lit 95, nat_lit 112, nat_lit 114, nat_lit 111, nat_lit 118, nat_lit 101, nat_lit 110])) 1245, (.ref 655)⟩, ⟨(@PySem.PyData.keyHash P (Str.mk (Array.mk [nat_lit 114, nat_lit 111, nat_lit 111, nat_lit 109]))), .str (Str.mk (Array.mk [nat_lit 114, nat_lit 111, nat_lit 111, nat_lit 109])) 1252, (.ref 662)⟩, ⟨(@PySem.PyData.keyHash P (Str.mk (Array.mk [nat_lit 109, nat_lit 97, nat_lit 121, nat_lit 95, nat_lit 115, nat_lit 101, nat_lit 110, nat_lit 100]))), .str (Str.mk (Array.mk [nat_lit 109, nat_lit 97, nat_lit 121, nat_lit 95, nat_lit 115, nat_lit 101, nat_lit 110, nat_lit 100])) 1261, (.ref 669)⟩, ⟨(@PySem.PyData.keyHash P (Str.mk (Array.mk [nat_lit 111, nat_lit 110, nat_lit 95, nat_lit 114, nat_lit 101, nat_lit 99, nat_lit 101, nat_lit 105, nat_lit 118, nat_lit 101, nat_lit 100]))), .str (Str.mk (Array.mk [nat_lit 111, nat_lit 110, nat_lit 95, nat_lit 114, nat_lit 101, nat_lit 99, nat_lit 101, nat_lit 105, nat_lit 118, nat_lit 101, nat_lit 100])) 1269, (.ref 676)⟩, ⟨(@PySem.PyData.keyHash P (Str.mk (Array.mk [nat_lit 111, nat_lit 110, nat_lit 95, nat_lit 115, nat_lit 101, nat_lit 110, nat_lit 116]))), .str (Str.mk (Array.mk [nat_lit 111, nat_lit 110, nat_lit 95, nat_lit 115, nat_lit 101, nat_lit 110, nat_lit 116])) 1277, (.ref 683)⟩, ⟨(@PySem.PyData.keyHash P (Str.mk (Array.mk [nat_lit 112, nat_lit 114, nat_lit 111, nat_lit 118, nat_lit 101]))), .str (Str.mk (Array.mk [nat_lit 112, nat_lit 114, nat_lit 111, nat_lit 118, nat_lit 101])) 1284, (.ref 690)⟩, ⟨(@PySem.PyData.keyHash P (Str.mk (Array.mk [nat_lit 99, nat_lit 104, nat_lit 97, nat_lit 108, nat_lit 108, nat_lit 101, nat_lit 110, nat_lit 103, nat_lit 101]))), .str (Str.mk (Array.mk [nat_lit 99, nat_lit 104, nat_lit 97, nat_lit 108, nat_lit 108, nat_lit 101, nat_lit 110, nat_lit 103, nat_lit 101])) 1294, (.ref 697)⟩, ⟨(@PySem.PyData.keyHash P (Str.mk (Array.mk [nat_lit 102, nat_lit 97, nat_lit 105, nat_lit 108]))), .str (Str.mk (Array.mk [nat_lit 102, nat_lit 97, nat_lit 105, nat_lit 108])) 1301, (.ref 704)⟩, ⟨(@PySem.PyData.keyHash P (Str.mk (Array.mk [nat_lit 114, nat_lit 101, nat_lit 110, nat_lit 101, nat_lit 119]))), .str (Str.mk (Array.mk [nat_lit 114, nat_lit 101, nat_lit 110, nat_lit 101, nat_lit 119])) 1308, (.ref 711)⟩, ⟨(@PySem.PyData.keyHash P (Str.mk (Array.mk [nat_lit 95, nat_lit 95, nat_lit 115, nat_lit 116, nat_lit 97, nat_lit 116, nat_lit 105, nat_lit 99, nat_lit 95, nat_lit 97, nat_lit 116, nat_lit 116, nat_lit 114, nat_lit 105, nat_lit 98, nat_lit 117, nat_lit 116, nat_lit 101, nat_lit 115, nat_lit 95, nat_lit 95]))), .str (Str.mk (Array.mk [nat_lit 95, nat_lit 95, nat_lit 115, nat_lit 116, nat_lit 97, nat_lit 116, nat_lit 105, nat_lit 99, nat_lit 95, nat_lit 97, nat_lit 116, nat_lit 116, nat_lit 114, nat_lit 105, nat_lit 98, nat_lit 117, nat_lit 116, nat_lit 101, nat_lit 115, nat_lit 95, nat_lit 95])) 1317, (.ref 712)⟩, ⟨(@PySem.PyData.keyHash P (Str.mk (Array.mk [nat_lit 95, nat_lit 95, nat_lit 100, nat_lit 105, nat_lit 99, nat_lit 116, nat_lit 95, nat_lit 95]))), .str (Str.mk (Array.mk [nat_lit 95, nat_lit 95, nat_lit 100, nat_lit 105, nat_lit 99, nat_lit 116, nat_lit 95, nat_lit 95])) 1319, (.ref 715)⟩, ⟨(@PySem.PyData.keyHash P (Str.mk (Array.mk [nat_lit 95, nat_lit 95, nat_lit 119, nat_lit 101, nat_lit 97, nat_lit 107, nat_lit 114, nat_lit 101, nat_lit 102, nat_lit 95, nat_lit 95]))), .str (Str.mk (Array.mk [nat_lit 95, nat_lit 95, nat_lit 119, nat_lit 101, nat_lit 97, nat_lit 107, nat_lit 114, nat_lit 101, nat_lit 102, nat_lit 95, nat_lit 95])) 1321, (.ref 716)⟩, ⟨(@PySem.PyData.keyHash P (Str.mk (Array.mk [nat_lit 95, nat_lit 95, nat_lit 100, nat_lit 111, nat_lit 99, nat_lit 95, nat_lit 95]))), .str (Str.mk (Array.mk [nat_lit 95, nat_lit 95, nat_lit 100, nat_lit 111, nat_lit 99, nat_lit 95, nat_lit 95])) 1322, Value.none⟩]) 4) (Array.mk []))
noncomputable def o714 (P : Params) : Obj := (@Obj.mk (@Value.type PySem.W.SL.s17162191345867700912x4) none (@Data.cls (@ClassData.mk (Str.mk (Array.mk [nat_lit 80, nat_lit 97, nat_lit 116, nat_lit 104])) [(@Value.type PySem.W.SL.s2742458400755230247x6)] [(.ref 714), (@Value.type PySem.W.SL.s2742458400755230247x6)] 713 (Str.mk (Array.mk [nat_lit 80, nat_lit 97, nat_lit 116, nat_lit 104])) true [] [] false none false)) (Array.mk [none, none, (some (.str (Str.mk (Array.mk [nat_lit 80, nat_lit 97, nat_lit 116, nat_lit 104])) 1218)), (some (.str (Str.mk (Array.mk [nat_lit 80, nat_lit 97, nat_lit 116, nat_lit 104])) 1226)), (some (@Value.builtin PySem.W.SL.s11443829558043349243x14)), (some (@Value.bool true))]))
noncomputable def o731 (P : Params) : Obj := (@Obj.mk (@Value.type PySem.W.SL.s5856160107412720595x4) none (@Data.fields (Array.mk [(.str (Str.mk (Array.mk [nat_lit 95, nat_lit 95, nat_lit 105, nat_lit 110, nat_lit 105, nat_lit 116, nat_lit 95, nat_lit 95])) 1337), (.str (Str.mk (Array.mk [nat_lit 80, nat_lit 97, nat_lit 116, nat_lit 104, nat_lit 115, nat_lit 46, nat_lit 95, nat_lit 95, nat_lit 105, nat_lit 110, nat_lit 105, nat_lit 116, nat_lit 95, nat_lit 95])) 1338), (.str (Str.mk (Array.mk [nat_lit 47, nat_lit 99, nat_lit 108, nat_lit 97, nat_lit 105, nat_lit 109, nat_lit 47, nat_lit 99, nat_lit 117, nat_lit 116, nat_lit 46, nat_lit 112, nat_lit 121])) 1339), (@Value.int 536 0), (@Value.int 5 0), (@Value.int 0 0), (@Value.int 0 0), (@Value.int 3 0), (.ref 726), (@Value.bool true), (@Value.int 181 0), (.ref 727), Value.none, (.ref 728), (.ref 729), (.ref 730), (@Value.int 1345 0), (@Value.int 536 0), (.str (Str.mk (Array.mk [nat_lit 47, nat_lit 99, nat_lit 108, nat_lit 97, nat_lit 105, nat_lit 109, nat_lit 47, nat_lit 99, nat_lit 117, nat_lit 116, nat_lit 46, nat_lit 112, nat_lit 121])) 1346)])) (Array.mk []))
noncomputable def o732 (P : Params) : Obj := (fo (@Value.type PySem.W.SL.s7174869446012820540x8) none (Array.mk []) (Str.mk (Array.mk [nat_lit 95, nat_lit 95, nat_lit 105, nat_lit 110, nat_lit 105, nat_lit 116, nat_lit 95, nat_lit 95])) (Str.mk (Array.mk [nat_lit 80, nat_lit 97, nat_lit 116, nat_lit 104, nat_lit 115, nat_lit 46, nat_lit 95, nat_lit 95, nat_lit 105, nat_lit 110, nat_lit 105, nat_lit 116, nat_lit 95, nat_lit 95])) (mt 135 0) 3 [] Value.none Value.none Value.none (.str (Str.mk (Array.mk [nat_lit 113, nat_lit 117, nat_lit 105, nat_lit 99, nat_lit 46, nat_lit 112, nat_lit 97, nat_lit 116, nat_lit 104, nat_lit 115])) 1206) none (.ref 731) Value.none 0)
noncomputable def o738 (P : Params) : Obj := (@Obj.mk (@Value.type PySem.W.SL.s5856160107412720595x4) none (@Data.fields (Array.mk [(.str (Str.mk (Array.mk [nat_lit 112, nat_lit 97, nat_lit 116, nat_lit 104, nat_lit 95, nat_lit 111, nat_lit 102])) 1348), (.str (Str.mk (Array.mk [nat_lit 80, nat_lit 97, nat_lit 116, nat_lit 104, nat_lit 115, nat_lit 46, nat_lit 112, nat_lit 97, nat_lit 116, nat_lit 104, nat_lit 95, nat_lit 111, nat_lit 102])) 1349), (.str (Str.mk (Array.mk [nat_lit 47, nat_lit 99, nat_lit 108, nat_lit 97, nat_lit 105, nat_lit 109, nat_lit 47, nat_lit 99, nat_lit 117, nat_lit 116, nat_lit 46, nat_lit 112, nat_lit 121])) 1350), (@Value.int 545 0), (@Value.int 2 0), (@Value.int 0 0), (@Value.int 0 0), (@Value.int 3 0), (.ref 733), (@Value.bool true), (@Value.int 181 0), (.ref 734), Value.none, (.ref 735), (.ref 736), (.ref 737), (@Value.int 1354 0), (@Value.int 545 0), (.str (Str.mk (Array.mk [nat_lit 47, nat_lit 99, nat_lit 108, nat_lit 97, nat_lit 105, nat_lit 109, nat_lit 47, nat_lit 99, nat_lit 117, nat_lit 116, nat_lit 46, nat_lit 112, nat_lit 121])) 1355)])) (Array.mk []))
noncomputable def o739 (P : Params) : Obj := (fo (@Value.type PySem.W.SL.s7174869446012820540x8) none (Array.mk []) (Str.mk (Array.mk [nat_lit 112, nat_lit 97, nat_lit 116, nat_lit 104, nat_lit 95, nat_lit 111, nat_lit 102])) (Str.mk (Array.mk [nat_lit 80, nat_lit 97, nat_lit 116, nat_lit 104, nat_lit 115, nat_lit 46, nat_lit 112, nat_lit 97, nat_lit 116, nat_lit 104, nat_lit 95, nat_lit 111, nat_lit 102])) (mt 135 1) 3 [] Value.none Value.none Value.none (.str (Str.mk (Array.mk [nat_lit 113, nat_lit 117, nat_lit 105, nat_lit 99, nat_lit 46, nat_lit 112, nat_lit 97, nat_lit 116, nat_lit 104, nat_lit 115])) 1206) none (.ref 738) Value.none 0)
noncomputable def o745 (P : Params) : Obj := (@Obj.mk (@Value.type PySem.W.SL.s5856160107412720595x4) none (@Data.fields (Array.mk [(.str (Str.mk (Array.mk [nat_lit 111, nat_lit 112, nat_lit 101, nat_lit 110, nat_lit 101, nat_lit 100])) 1357), (.str (Str.mk (Array.mk [nat_lit 80, nat_lit 97, nat_lit 116, nat_lit 104, nat_lit 115, nat_lit 46, nat_lit 111, nat_lit 112, nat_lit 101, nat_lit 110, nat_lit 101, nat_lit 100])) 1358), (.str (Str.mk (Array.mk [nat_lit 47, nat_lit 99, nat_lit 108, nat_lit 97, nat_lit 105, nat_lit 109, nat_lit 47, nat_lit 99, nat_lit 117, nat_lit 116, nat_lit 46, nat_lit 112, nat_lit 121])) 1359), (@Value.int 551 0), (@Value.int 2 0), (@Value.int 0 0), (@Value.int 0 0), (@Value.int 3 0), (.ref 740), (@Value.bool true), (@Value.int 181 0), (.ref 741), Value.none, (.ref 742), (.ref 743), (.ref 744), (@Value.int 1363 0), (@Value.int 551 0), (.str (Str.mk (Array.mk [nat_lit 47, nat_lit 99, nat_lit 108, nat_lit 97, nat_lit 105, nat_lit 109, nat_lit 47, nat_lit 99, nat_lit 117, nat_lit 116, nat_lit 46, nat_lit 112, nat_lit 121])) 1364)])) (Array.mk []))
noncomputable def o746 (P : Params) : Obj := (fo (@Value.type PySem.W.SL.s7174869446012820540x8) none (Array.mk []) (Str.mk (Array.mk [nat_lit 111, nat_lit 112, nat_lit 101, nat_lit 110, nat_lit 101, nat_lit 100])) (Str.mk (Array.mk [nat_lit 80, nat_lit 97, nat_lit 116, nat_lit 104, nat_lit 115, nat_lit 46, nat_lit 111, nat_lit 112, nat_lit 101, nat_lit 110, nat_lit 101, nat_lit 100])) (mt 135 2) 3 [] Value.none Value.none Value.none (.str (Str.mk (Array.mk [nat_lit 113, nat_lit 117, nat_lit 105, nat_lit 99, nat_lit 46, nat_lit 112, nat_lit 97, nat_lit 116, nat_lit 104, nat_lit 115])) 1206) none (.ref 745) Value.none 0)
noncomputable def o752 (P : Params) : Obj := (@Obj.mk (@Value.type PySem.W.SL.s5856160107412720595x4) none (@Data.fields (Array.mk [(.str (Str.mk (Array.mk [nat_lit 111, nat_lit 110, nat_lit 95, nat_lit 100, nat_lit 97, nat_lit 116, nat_lit 97, nat_lit 103, nat_lit 114, nat_lit 97, nat_lit 109])) 1366), (.str (Str.mk (Array.mk [nat_lit 80, nat_lit 97, nat_lit 116, nat_lit 104, nat_lit 115, nat_lit 46, nat_lit 111, nat_lit 110, nat_lit 95, nat_lit 100, nat_lit 97, nat_lit 116, nat_lit 97, nat_lit 103, nat_lit 114, nat_lit 97, nat_lit 109])) 1367), (.str (Str.mk (Array.mk [nat_lit 47, nat_lit 99, nat_lit 108, nat_lit 97, nat_lit 105, nat_lit 109, nat_lit 47, nat_lit 99, nat_lit 117, nat_lit 116, nat_lit 46, nat_lit 112, nat_lit 121])) 1368), (@Value.int 558 0), (@Value.int 3 0), (@Value.int 0 0), (@Value.int 0 0), (@Value.int 3 0), (.ref 747), (@Value.bool true), (@Value.int 181 0), (.ref 748), Value.none, (.ref 749), (.ref 750), (.ref 751), (@Value.int 1373 0), (@Value.int 558 0), (.str (Str.mk (Array.mk [nat_lit 47, nat_lit 99, nat_lit 108, nat_lit 97, nat_lit 105, nat_lit 109, nat_lit 47, nat_lit 99, nat_lit 117, nat_lit 116, nat_lit 46, nat_lit 112, nat_lit 121])) 1374)])) (Array.mk []))
noncomputable def o753 (P : Params) : Obj := (fo (@Value.type PySem.W.SL.s7174869446012820540x8) none (Array.mk []) (Str.mk (Array.mk [nat_lit 111, nat_lit 110, nat_lit 95, nat_lit 100, nat_lit 97, nat_lit 116, nat_lit 97, nat_lit 103, nat_lit 114, nat_lit 97, nat_lit 109])) (Str.mk (Array.mk [nat_lit 80, nat_lit 97, nat_lit 116, nat_lit 104, nat_lit 115, nat_lit 46, nat_lit 111, nat_lit 110, nat_lit 95, nat_lit 100, nat_lit 97, nat_lit 116, nat_lit 97, nat_lit 103, nat_lit 114, nat_lit 97, nat_lit 109])) (mt 135 3) 3 [] Value.none Value.none Value.none (.str (Str.mk (Array.mk [nat_lit 113, nat_lit 117, nat_lit 105, nat_lit 99, nat_lit 46, nat_lit 112, nat_lit 97, nat_lit 116, nat_lit 104, nat_lit 115])) 1206) none (.ref 752) Value.none 0)
noncomputable def o759 (P : Params) : Obj := (@Obj.mk (@Value.type PySem.W.SL.s5856160107412720595x4) none (@Data.fields (Array.mk [(.str (Str.mk (Array.mk [nat_lit 111, nat_lit 110, nat_lit 95, nat_lit 112, nat_lit 97, nat_lit 99, nat_lit 107, nat_lit 101, nat_lit 116])) 1376), (.str (Str.mk (Array.mk [nat_lit 80, nat_lit 97, nat_lit 116, nat_lit 104, nat_lit 115, nat_lit 46, nat_lit 111, nat_lit 110, nat_lit 95, nat_lit 112, nat_lit 97, nat_lit 99, nat_lit 107, nat_lit 101, nat_lit 116])) 1377), (.str (Str.mk (Array.mk [nat_lit 47, nat_lit 99, nat_lit 108, nat_lit 97, nat_lit 105, nat_lit 109, nat_lit 47, nat_lit 99, nat_lit 117, nat_lit 116, nat_lit 46, nat_lit 112, nat_lit 121])) 1378), (@Value.int 565 0), (@Value.int 4 0), (@Value.int 0 0), (@Value.int 0 0), (@Value.int 3 0), (.ref 754), (@Value.bool true), (@Value.int 181 0), (.ref 755), Value.none, (.ref 756), (.ref 757), (.ref 758), (@Value.int 1385 0), (@Value.int 565 0), (.str (Str.mk (Array.mk [nat_lit 47, nat_lit 99, nat_lit 108, nat_lit 97, nat_lit 105, nat_lit 109, nat_lit 47, nat_lit 99, nat_lit 117, nat_lit 116, nat_lit 46, nat_lit 112, nat_lit 121])) 1386)])) (Array.mk []))
noncomputable def o760 (P : Params) : Obj := (fo (@Value.type PySem.W.SL.s7174869446012820540x8) none (Array.mk []) (Str.mk (Array.mk [nat_lit 111, nat_lit 110, nat_lit 95, nat_lit 112, nat_lit 97, nat_lit 99, nat_lit 107, nat_lit 101, nat_lit 116])) (Str.mk (Array.mk [nat_lit 80, nat_lit 97, nat_lit 116, nat_lit 104, nat_lit 115, nat_lit 46, nat_lit 111, nat_lit 110, nat_lit 95, nat_lit 112, nat_lit 97, nat_lit 99, nat_lit 107, nat_lit 101, nat_lit 116])) (mt 135 4) 3 [] Value.none Value.none Value.none (.str (Str.mk (Array.mk [nat_lit 113, nat_lit 117, nat_lit 105, nat_lit 99, nat_lit 46, nat_lit 112, nat_lit 97, nat_lit 116, nat_lit 104, nat_lit 115])) 1206) none (.ref 759) Value.none 0)
noncomputable def o801 (P : Params) : Obj := (@Obj.mk (@Value.type PySem.W.SL.s5856160107412720595x4) none (@Data.fields (Array.mk [(.str (Str.mk (Array.mk [nat_lit 111, nat_lit 110, nat_lit 95, nat_lit 99, nat_lit 104, nat_lit 97, nat_lit 108, nat_lit 108, nat_lit 101, nat_lit 110, nat_lit 103, nat_lit 101, nat_lit 95, nat_lit 108, nat_lit 111, nat_lit 115, nat_lit 116])) 1426), (.str (Str.mk (Array.mk [nat_lit 80, nat_lit 97, nat_lit 116, nat_lit 104, nat_lit 115, nat_lit 46, nat_lit 111, nat_lit 110, nat_lit 95, nat_lit 99, nat_lit 104, nat_lit 97, nat_lit 108, nat_lit 108, nat_lit 101, nat_lit 110, nat_lit 103, nat_lit 101, nat_lit 95, nat_lit 108, nat_lit 111, nat_lit 115, nat_lit 116])) 1427), (.str (Str.mk (Array.mk [nat_lit 47, nat_lit 99, nat_lit 108, nat_lit 97, nat_lit 105, nat_lit 109, nat_lit 47, nat_lit 99, nat_lit 117, nat_lit 116, nat_lit 46, nat_lit 112, nat_lit 121])) 1428), (@Value.int 592 0), (@Value.int 2 0), (@Value.int 0 0), (@Value.int 0 0), (@Value.int 3 0), (.ref 796), (@Value.bool true), (@Value.int 181 0), (.ref 797), Value.none, (.ref 798), (.ref 799), (.ref 800), (@Value.int 1432 0), (@Value.int 592 0), (.str (Str.mk (Array.mk [nat_lit 47, nat_lit 99, nat_lit 108, nat_lit 97, nat_lit 105, nat_lit 109, nat_lit 47, nat_lit 99, nat_lit 117, nat_lit 116, nat_lit 46, nat_lit 112, nat_lit 121])) 1433)])) (Array.mk []))
noncomputable def o802 (P : Params) : Obj := (fo (@Value.type PySem.W.SL.s7174869446012820540x8) none (Array.mk []) (Str.mk (Array.mk [nat_lit 111, nat_lit 110, nat_lit 95, nat_lit 99, nat_lit 104, nat_lit 97, nat_lit 108, nat_lit 108, nat_lit 101, nat_lit 110, nat_lit 103, nat_lit 101, nat_lit 95, nat_lit 108, nat_lit 111, nat_lit 115, nat_lit 116])) (Str.mk (Array.mk [nat_lit 80, nat_lit 97, nat_lit 116, nat_lit 104, nat_lit 115, nat_lit 46, nat_lit 111, nat_lit 110, nat_lit 95, nat_lit 99, nat_lit 104, nat_lit 97, nat_lit 108, nat_lit 108, nat_lit 101, nat_lit 110, nat_lit 103, nat_lit 101, nat_lit 95, nat_lit 108, nat_lit 111, nat_lit 115, nat_lit 116])) (mt 135 10) 3 [] Value.none Value.none Value.none (.str (Str.mk (Array.mk [nat_lit 113, nat_lit 117, nat_lit 105, nat_lit 99, nat_lit 46, nat_lit 112, nat_lit 97, nat_lit 116, nat_lit 104, nat_lit 115])) 1206) none (.ref 801) Value.none 0)
noncomputable def o808 (P : Params) : Obj := (@Obj.mk (@Value.type PySem.W.SL.s5856160107412720595x4) none (@Data.fields (Array.mk [(.str (Str.mk (Array.mk [nat_lit 116, nat_lit 97, nat_lit 107, nat_lit 101, nat_lit 95, nat_lit 114, nat_lit 101, nat_lit 115, nat_lit 112, nat_lit 111, nat_lit 110, nat_lit 115, nat_lit 101])) 1435), (.str (Str.mk (Array.mk [nat_lit 80, nat_lit 97, nat_lit 116, nat_lit 104, nat_lit 115, nat_lit 46, nat_lit 116, nat_lit 97, nat_lit 107, nat_lit 101, nat_lit 95, nat_lit 114, nat_lit 101, nat_lit 115, nat_lit 112, nat_lit 111, nat_lit 110, nat_lit 115, nat_lit 101])) 1436), (.str (Str.mk (Array.mk [nat_lit 47, nat_lit 99, nat_lit 108, nat_lit 97, nat_lit 105, nat_lit 109, nat_lit 47, nat_lit 99, nat_lit 117, nat_lit 116, nat_lit 46, nat_lit 112, nat_lit 121])) 1437), (@Value.int 597 0), (@Value.int 2 0), (@Value.int 0 0), (@Value.int 0 0), (@Value.int 3 0), (.ref 803), (@Value.bool true), (@Value.int 181 0), (.ref 804), Value.none, (.ref 805), (.ref 806), (.ref 807), (@Value.int 1441 0), (@Value.int 597 0), (.str (Str.mk (Array.mk [nat_lit 47, nat_lit 99, nat_lit 108, nat_lit 97, nat_lit 105, nat_lit 109, nat_lit 47, nat_lit 99, nat_lit 117, nat_lit 116, nat_lit 46, nat_lit 112, nat_lit 121])) 1442)])) (Array.mk []))
noncomputable def o809 (P : Params) : Obj := (fo (@Value.type PySem.W.SL.s7174869446012820540x8) none (Array.mk []) (Str.mk (Array.mk [nat_lit 116, nat_lit 97, nat_lit 107, nat_lit 101, nat_lit 95, nat_lit 114, nat_lit 101, nat_lit 115, nat_lit 112, nat_lit 111, nat_lit 110, nat_lit 115, nat_lit 101])) (Str.mk (Array.mk [nat_lit 80, nat_lit 97, nat_lit 116, nat_lit 104, nat_lit 115, nat_lit 46, nat_lit 116, nat_lit 97, nat_lit 107, nat_lit 101, nat_lit 95, nat_lit 114, nat_lit 101, nat_lit 115, nat_lit 112, nat_lit 111, nat_lit 110, nat_lit 115, nat_lit 101])) (mt 135 11) 3 [] Value.none Value.none Value.none (.str (Str.mk (Array.mk [nat_lit 113, nat_lit 117, nat_lit 105, nat_lit 99, nat_lit 46, nat_lit 112, nat_lit 97, nat_lit 116, nat_lit 104, nat_lit 115])) 1206) none (.ref 808) Value.none 0)
noncomputable def o827 (P : Params) : Obj := (@Obj.mk (@Value.type PySem.W.SL.s5856160107412720595x4) none (@Data.fields (Array.mk [(.str (Str.mk (Array.mk [nat_lit 111, nat_lit 110, nat_lit 95, nat_lit 116, nat_lit 105, nat_lit 109, nat_lit 101])) 1459), (.str (Str.mk (Array.mk [nat_lit 80, nat_lit 97, nat_lit 116, nat_lit 104, nat_lit 115, nat_lit 46, nat_lit 111, nat_lit 110, nat_lit 95, nat_lit 116, nat_lit 105, nat_lit 109, nat_lit 101])) 1460), (.str (Str.mk (Array.mk [nat_lit 47, nat_lit 99, nat_lit 108, nat_lit 97, nat_lit 105, nat_lit 109, nat_lit 47, nat_lit 99, nat_lit 117, nat_lit 116, nat_lit 46, nat_lit 112, nat_lit 121])) 1461), (@Value.int 612 0), (@Value.int 2 0), (@Value.int 0 0), (@Value.int 0 0), (@Value.int 3 0), (.ref 824), (@Value.bool true), (@Value.int 181 0), (.ref 825), Value.none, Value.none, Value.none, (.ref 826), (@Value.int 1462 0), (@Value.int 612 0), (.str (Str.mk (Array.mk [nat_lit 47, nat_lit 99, nat_lit 108, nat_lit 97, nat_lit 105, nat_lit 109, nat_lit 47, nat_lit 99, nat_lit 117, nat_lit 116, nat_lit 46, nat_lit 112, nat_lit 121])) 1463)])) (Array.mk []))
noncomputable def o828 (P : Params) : Obj := (fo (@Value.type PySem.W.SL.s7174869446012820540x8) none (Array.mk []) (Str.mk (Array.mk [nat_lit 111, nat_lit 110, nat_lit 95, nat_lit 116, nat_lit 105, nat_lit 109, nat_lit 101])) (Str.mk (Array.mk [nat_lit 80, nat_lit 97, nat_lit 116, nat_lit 104, nat_lit 115, nat_lit 46, nat_lit 111, nat_lit 110, nat_lit 95, nat_lit 116, nat_lit 105, nat_lit 109, nat_lit 101])) (mt 135 14) 3 [] Value.none Value.none Value.none (.str (Str.mk (Array.mk [nat_lit 113, nat_lit 117, nat_lit 105, nat_lit 99, nat_lit 46, nat_lit 112, nat_lit 97, nat_lit 116, nat_lit 104, nat_lit 115])) 1206) none (.ref 827) Value.none 0)
noncomputable def o830 (P : Params) : Obj := (@Obj.mk (@Value.type PySem.W.SL.s14018661285674007319x4) none (@Data.dict (Array.mk [⟨(@PySem.PyData.keyHash P (Str.mk (Array.mk [nat_lit 95, nat_lit 95, nat_lit 109, nat_lit 111, nat_lit 100, nat_lit 117, nat_lit 108, nat_lit 101, nat_lit 95, nat_lit 95]))), .str (Str.mk (Array.mk [nat_lit 95, nat_lit 95, nat_lit 109, nat_lit 111, nat_lit 100, nat_lit 117, nat_lit 108, nat_lit 101, nat_lit 95, nat_lit 95])) 1332, (.str (Str.mk (Array.mk [nat_lit 113, nat_lit 117, nat_lit 105, nat_lit 99, nat_lit 46, nat_lit 112, nat_lit 97, nat_lit 116, nat_lit 104, nat_lit 115])) 1206)⟩, ⟨(@PySem.PyData.keyHash P (Str.mk (Array.mk [nat_lit 95, nat_lit 95, nat_lit 102, nat_lit 105, nat_lit 114, nat_lit 115, nat_lit 116, nat_lit 108, nat_lit 105, nat_lit 110, nat_lit 101, nat_lit 110, nat_lit 111, nat_lit 95, nat_lit 95]))), .str (Str.mk (Array.mk [nat_lit 95, nat_lit 95, nat_lit 102, nat_lit 105, nat_lit 114, nat_lit 115, nat_lit 116, nat_lit 108, nat_lit 105, nat_lit 110, nat_lit 101, nat_lit 110, nat_lit 111, nat_lit 95, nat_lit 95])) 1336, (@Value.int 534 1335)⟩, ⟨(@PySem.PyData.keyHash P (Str.mk (Array.mk [nat_lit 95, nat_lit 95, nat_lit 105, nat_lit 110, nat_lit 105, nat_lit 116, nat_lit 95, nat_lit 95]))), .str (Str.mk (Array.mk [nat_lit 95, nat_lit 95, nat_lit 105, nat_lit 110, nat_lit 105, nat_lit 116, nat_lit 95, nat_lit 95])) 1347, (.ref 732)⟩, ⟨(@PySem.PyData.keyHash P (Str.mk (Array.mk [nat_lit 112, nat_lit 97, nat_lit 116, nat_lit 104, nat_lit 95, nat_lit 111, nat_lit 102]))), .str (Str.mk (Array.mk [nat_lit 112, nat_lit 97, nat_lit 116, nat_lit 104, nat_lit 95, nat_lit 111, nat_lit 102])) 1356, (.ref 739)⟩, ⟨(@PySem.PyData.keyHash P (Str.mk (Array.mk [nat_lit 111, nat_lit 112, nat_lit 101, nat_lit 110, nat_lit 101, nat_lit 100]))), .str (Str.mk (Array.mk [nat_lit 111, nat_lit 112, nat_lit 101, nat_lit 110, nat_lit 101, nat_lit 100])) 1365, (.ref 746)⟩, ⟨(@PySem.PyData.keyHash P (Str.mk (Array.mk [nat_lit 111, nat_lit 110, nat_lit 95, nat_lit 100, nat_lit 97, nat_lit 116, nat_lit 97, nat_lit 103, nat_lit 114, nat_lit 97, nat_lit 109]))), .str (Str.mk (Array.mk [nat_lit 111, nat_lit 110, nat_lit 95, nat_lit 100, nat_lit 97, nat_lit 116, nat_lit 97, nat_lit 103, nat_lit 114, nat_lit 97, nat_lit 109])) 1375, (.ref 753)⟩, ⟨(@PySem.PyData.keyHash P (Str.mk (Array.mk [nat_lit 111, nat_lit 110, nat_lit 95, nat_lit 112, nat_lit 97, nat_lit 99, nat_lit 107, nat_lit 101, nat_lit 116]))), .str (Str.mk (Array.mk [nat_lit 111, nat_lit 110, nat_lit 95, nat_lit 112, nat_lit 97, nat_lit 99, nat_lit 107, nat_lit 101, nat_lit 116])) 1387, (.ref 760)⟩, ⟨(@PySem.PyData.keyHash P (Str.mk (Array.mk [nat_lit 109, nat_lit 111, nat_lit 118, nat_lit 101, nat_lit 95, nat_lit 116, nat_lit 111]))), .str (Str.mk (Array.mk [nat_lit 109, nat_lit 111, nat_lit 118, nat_lit 101, nat_lit 95, nat_lit 116, nat_lit 111])) 1395, (.ref 767)⟩, ⟨(@PySem.PyData.keyHash P (Str.mk (Array.mk [nat_lit 116, nat_lit 97, nat_lit 107, nat_lit 101, nat_lit 95, nat_lit 99, nat_lit 104, nat_lit 97, nat_lit 108, nat_lit 108, nat_lit 101, nat_lit 110, nat_lit 103, nat_lit 101]))), .str (Str.mk (Array.mk [nat_lit 116, nat_lit 97, nat_lit 107, nat_lit 101, nat_lit 95, nat_lit 99, nat_lit 104, nat_lit 97, nat_lit 108, nat_lit 108, nat_lit 101, nat_lit 110, nat_lit 103, nat_lit 101])) 1404, (.ref 774)⟩, ⟨(@PySem.PyData.keyHash P (Str.mk (Array.mk [nat_lit 110, nat_lit 101, nat_lit 120, nat_lit 116, nat_lit 95, nat_lit 97, nat_lit 110, nat_lit 115, nat_lit 119, nat_lit 101, nat_lit 114]))), .str (Str.mk (Array.mk [nat_lit 110, nat_lit 101, nat_lit 120, nat_lit 116, nat_lit 95, nat_lit 97, nat_lit 110, nat_lit 115, nat_lit 119, nat_lit 101, nat_lit 114])) 1411, (.ref 781)⟩, ⟨(@PySem.PyData.keyHash P (Str.mk (Array.mk [nat_lit 119, nat_lit 97, nat_lit 110, nat_lit 116, nat_lit 115, nat_lit 95, nat_lit 99, nat_lit 104, nat_lit 97, nat_lit 108, nat_lit 108, nat_lit 101, nat_lit 110, nat_lit 103, nat_lit 101]))), .str (Str.mk (Array.mk [nat_lit 119, nat_lit 97, nat_lit 110, nat_lit 116, nat_lit 115, nat_lit 95, nat_lit 99, nat_lit 104, nat_lit 97, nat_lit 108, nat_lit 108, nat_lit 101, nat_lit 110, nat_lit 103, nat_lit 101])) 1418, (.ref 788)⟩, ⟨(@PySem.PyData.keyHash P (Str.mk (Array.mk [nat_lit 97, nat_lit 115, nat_lit 107, nat_lit 95, nat_lit 97, nat_lit 103, nat_lit 97, nat_lit 105, nat_lit 110]))), .str (Str.mk (Array.mk [nat_lit 97, nat_lit 115, nat_lit 107, nat_lit 95, nat_lit 97, nat_lit 103, nat_lit 97, nat_lit 105, nat_lit 110])) 1425, (.ref 795)⟩, ⟨(@PySem.PyData.keyHash P (Str.mk (Array.mk [nat_lit 111, nat_lit 110, nat_lit 95, nat_lit 99, nat_lit 104, nat_lit 97, nat_lit 108, nat_lit 108, nat_lit 101, nat_lit 110, nat_lit 103, nat_lit 101, nat_lit 95, nat_lit 108, nat_lit 111, nat_lit 115, nat_lit 116]))), .str (Str.mk (Array.mk [nat_lit 111, nat_lit 110, nat_lit 95, nat_lit 99, nat_lit 104, nat_lit 97, nat_lit 108, nat_lit 108, nat_lit 101, nat_lit 110, nat_lit 103, nat_lit 101, nat_lit 95, nat_lit 108, nat_lit 111, nat_lit 115, nat_lit 116])) 1434, (.ref 802)⟩, ⟨(@PySem.PyData.keyHash P (Str.mk (Array.mk [nat_lit 116, nat_lit 97, nat_lit 107, nat_lit 101, nat_lit 95, nat_lit 114, nat_lit 101, nat_lit 115, nat_lit 112, nat_lit 111, nat_lit 110, nat_lit 115, nat_lit 101]))), .str (Str.mk (Array.mk [nat_lit 116, nat_lit 97, nat_lit 107, nat_lit 101, nat_lit 95, nat_lit 114, nat_lit 101, nat_lit 115, nat_lit 112, nat_lit 111, nat_lit 110, nat_lit 115, nat_lit 101])) 1443, (.ref 809)⟩, ⟨(@PySem.PyData.keyHash P (Str.mk (Array.mk [nat_lit 111, nat_lit 110, nat_lit 95, nat_lit 104, nat_lit 97, nat_lit 110, nat_lit 100, nat_lit 115, nat_lit 104, nat_lit 97, nat_lit 107, nat_lit 101, nat_lit 95, nat_lit 112, nat_lit 97, nat_lit 99, nat_lit 107, nat_lit 101, nat_lit 116]))), .str (Str.mk (Array.mk [nat_lit 111, nat_lit 110, nat_lit 95, nat_lit 104, nat_lit 97, nat_lit 110, nat_lit 100, nat_lit 115, nat_lit 104, nat_lit 97, nat_lit 107, nat_lit 101, nat_lit 95, nat_lit 112, nat_lit 97, nat_lit 99, nat_lit 107, nat_lit 101, nat_lit 116])) 1451, (.ref 816)⟩, ⟨(@PySem.PyData.keyHash P (Str.mk (Array.mk [nat_lit 110, nat_lit 101, nat_lit 120, nat_lit 116, nat_lit 95, nat_lit 116, nat_lit 105, nat_lit 109, nat_lit 101]))), .str (Str.mk (Array.mk [nat_lit 110, nat_lit 101, nat_lit 120, nat_lit 116, nat_lit 95, nat_lit 116, nat_lit 105, nat_lit 109, nat_lit 101])) 1458, (.ref 823)⟩, ⟨(@PySem.PyData.keyHash P (Str.mk (Array.mk [nat_lit 111, nat_lit 110, nat_lit 95, nat_lit 116, nat_lit 105, nat_lit 109, nat_lit 101]))), .str (Str.mk (Array.mk [nat_lit 111, nat_lit 110, nat_lit 95, nat_lit 116, nat_lit 105, nat_lit 109, nat_lit 101])) 1464, (.ref 828)⟩, ⟨(@PySem.PyData.keyHash P (Str.mk (Array.mk [nat_lit 95, nat_lit 95, nat_lit 115, nat_lit 116, nat_lit 97, nat_lit 116, nat_lit 105, nat_lit 99, nat_lit 95, nat_lit 97, nat_lit 116, nat_lit 116, nat_lit 114, nat_lit 105, nat_lit 98, nat_lit 117, nat_lit 116, nat_lit 101, nat_lit 115, nat_lit 95, nat_lit 95]))), .str (Str.mk (Array.mk [nat_lit 95, nat_lit 95, nat_lit 115, nat_lit 116, nat_lit 97, nat_lit 116, nat_lit 105, nat_lit 99, nat_lit 95, nat_lit 97, nat_lit 116, nat_lit 116, nat_lit 114, nat_lit 105, nat_lit 98, nat_lit 117, nat_lit 116, nat_lit 101, nat_lit 115, nat_lit 95, nat_lit 95])) 1472, (.ref 829)⟩, ⟨(@PySem.PyData.keyHash P (Str.mk (Array.mk [nat_lit 95, nat_lit 95, nat_lit 100, nat_lit 105, nat_lit 99, nat_lit 116, nat_lit 95, nat_lit 95]))), .str (Str.mk (Array.mk [nat_lit 95, nat_lit 95, nat_lit 100, nat_lit 105, nat_lit 99, nat_lit 116, nat_lit 95, nat_lit 95])) 1474, (.ref 832)⟩, ⟨(@PySem.PyData.keyHash P (Str.mk (Array.mk [nat_lit 95, nat_lit 95, nat_lit 119, nat_lit 101, nat_lit 97, nat_lit 107, nat_lit 114, nat_lit 101, nat_lit 102, nat_lit 95, nat_lit 95]))), .str (Str.mk (Array.mk [nat_lit 95, nat_lit 95, nat_lit 119, nat_lit 101, nat_lit 97, nat_lit 107, nat_lit 114, nat_lit 101, nat_lit 102, nat_lit 95, nat_lit 95])) 1476, (.ref 833)⟩, ⟨(@PySem.PyData.keyHash P (Str.mk (Array.mk [nat_lit 95, nat_lit 95, nat_lit 100, nat_lit 111, nat_lit 99, nat_lit 95, nat_lit 95]))), .str (Str.mk (Array.mk [nat_lit 95, nat_lit 95, nat_lit 100, nat_lit 111, nat_lit 99, nat_lit 95, nat_lit 95])) 1477, Value.none⟩]) 4) (Array.mk []))
noncomputable def o831 (P : Params) : Obj := (@Obj.mk (@Value.type PySem.W.SL.s17162191345867700912x4) none (@Data.cls (@ClassData.mk (Str.mk (Array.mk [nat_lit 80, nat_lit 97, nat_lit 116, nat_lit 104, nat_lit 115])) [(@Value.type PySem.W.SL.s2742458400755230247x6)] [(.ref 831), (@Value.type PySem.W.SL.s2742458400755230247x6)] 830 (Str.mk (Array.mk [nat_lit 80, nat_lit 97, nat_lit 116, nat_lit 104, nat_lit 115])) true [] [] false none false)) (Array.mk [none, none, (some (.str (Str.mk (Array.mk [nat_lit 80, nat_lit 97, nat_lit 116, nat_lit 104, nat_lit 115])) 1325)), (some (.str (Str.mk (Array.mk [nat_lit 80, nat_lit 97, nat_lit 116, nat_lit 104, nat_lit 115])) 1333)), (some (@Value.builtin PySem.W.SL.s11443829558043349243x14)), (some (@Value.bool true))]))
noncomputable def o868 (P : Params) : Obj := (@Obj.mk (@Value.type PySem.W.SL.s5856160107412720595x4) none (@Data.fields (Array.mk [(.str (Str.mk (Array.mk [nat_lit 95, nat_lit 95, nat_lit 105, nat_lit 110, nat_lit 105, nat_lit 116, nat_lit 95, nat_lit 95])) 1530), (.str (Str.mk (Array.mk [nat_lit 83, nat_lit 101, nat_lit 110, nat_lit 116, nat_lit 80, nat_lit 97, nat_lit 99, nat_lit 107, nat_lit 101, nat_lit 116, nat_lit 46, nat_lit 95, nat_lit 95, nat_lit 105, nat_lit 110, nat_lit 105, nat_lit 116, nat_lit 95, nat_lit 95])) 1531), (.str (Str.mk (Array.mk [nat_lit 47, nat_lit 99, nat_lit 108, nat_lit 97, nat_lit 105, nat_lit 109, nat_lit 47, nat_lit 99, nat_lit 117, nat_lit 116, nat_lit 46, nat_lit 112, nat_lit 121])) 1532), (@Value.int 650 0), (@Value.int 5 0), (@Value.int 0 0), (@Value.int 0 0), (@Value.int 3 0), (.ref 863), (@Value.bool true), (@Value.int 181 0), (.ref 864), Value.none, (.ref 865), (.ref 866), (.ref 867), (@Value.int 1538 0), (@Value.int 650 0), (.str (Str.mk (Array.mk [nat_lit 47, nat_lit 99, nat_lit 108, nat_lit 97, nat_lit 105, nat_lit 109, nat_lit 47, nat_lit 99, nat_lit 117, nat_lit 116, nat_lit 46, nat_lit 112, nat_lit 121])) 1539)])) (Array.mk []))
noncomputable def o869 (P : Params) : Obj := (fo (@Value.type PySem.W.SL.s7174869446012820540x8) none (Array.mk []) (Str.mk (Array.mk [nat_lit 95, nat_lit 95, nat_lit 105, nat_lit 110, nat_lit 105, nat_lit 116, nat_lit 95, nat_lit 95])) (Str.mk (Array.mk [nat_lit 83, nat_lit 101, nat_lit 110, nat_lit 116, nat_lit 80, nat_lit 97, nat_lit 99, nat_lit 107, nat_lit 101, nat_lit 116, nat_lit 46, nat_lit 95, nat_lit 95, nat_lit 105, nat_lit 110, nat_lit 105, nat_lit 116, nat_lit 95, nat_lit 95])) (mt 144 0) 3 [] Value.none Value.none Value.none (.str (Str.mk (Array.mk [nat_lit 113, nat_lit 117, nat_lit 105, nat_lit 99, nat_lit 46, nat_lit 115, nat_lit 112, nat_lit 97, nat_lit 99, nat_lit 101, nat_lit 115])) 1508) none (.ref 868) Value.none 0)
noncomputable def o871 (P : Params) : Obj := (@Obj.mk (@Value.type PySem.W.SL.s14018661285674007319x4) none (@Data.dict (Array.mk [⟨(@PySem.PyData.keyHash P (Str.mk (Array.mk [nat_lit 95, nat_lit 95, nat_lit 109, nat_lit 111, nat_lit 100, nat_lit 117, nat_lit 108, nat_lit 101, nat_lit 95, nat_lit 95]))), .str (Str.mk (Array.mk [nat_lit 95, nat_lit 95, nat_lit 109, nat_lit 111, nat_lit 100, nat_lit 117, nat_lit 108, nat_lit 101, nat_lit 95, nat_lit 95])) 1525, (.str (Str.mk (Array.mk [nat_lit 113, nat_lit 117, nat_lit 105, nat_lit 99, nat_lit 46, nat_lit 115, nat_lit 112, nat_lit 97, nat_lit 99, nat_lit 101, nat_lit 115])) 1508)⟩, ⟨(@PySem.PyData.keyHash P (Str.mk (Array.mk [nat_lit 95, nat_lit 95, nat_lit 102, nat_lit 105, nat_lit 114, nat_lit 115, nat_lit 116, nat_lit 108, nat_lit 105, nat_lit 110, nat_lit 101, nat_lit 110, nat_lit 111, nat_lit 95, nat_lit 95]))), .str (Str.mk (Array.mk [nat_lit 95, nat_lit 95, nat_lit 102, nat_lit 105, nat_lit 114, nat_lit 115, nat_lit 116, nat_lit 108, nat_lit 105, nat_lit 110, nat_lit 101, nat_lit 110, nat_lit 111, nat_lit 95, nat_lit 95])) 1529, (@Value.int 648 1528)⟩, ⟨(@PySem.PyData.keyHash P (Str.mk (Array.mk [nat_lit 95, nat_lit 95, nat_lit 105, nat_lit 110, nat_lit 105, nat_lit 116, nat_lit 95, nat_lit 95]))), .str (Str.mk (Array.mk [nat_lit 95, nat_lit 95, nat_lit 105, nat_lit 110, nat_lit 105, nat_lit 116, nat_lit 95, nat_lit 95])) 1540, (.ref 869)⟩, ⟨(@PySem.PyData.keyHash P (Str.mk (Array.mk [nat_lit 95, nat_lit 95, nat_lit 115, nat_lit 116, nat_lit 97, nat_lit 116, nat_lit 105, nat_lit 99, nat_lit 95, nat_lit 97, nat_lit 116, nat_lit 116, nat_lit 114, nat_lit 105, nat_lit 98, nat_lit 117, nat_lit 116, nat_lit 101, nat_lit 115, nat_lit 95, nat_lit 95]))), .str (Str.mk (Array.mk [nat_lit 95, nat_lit 95, nat_lit 115, nat_lit 116, nat_lit 97, nat_lit 116, nat_lit 105, nat_lit 99, nat_lit 95, nat_lit 97, nat_lit 116, nat_lit 116, nat_lit 114, nat_lit 105, nat_lit 98, nat_lit 117, nat_lit 116, nat_lit 101, nat_lit 115, nat_lit 95, nat_lit 95])) 1547, (.ref 870)⟩, ⟨(@PySem.PyData.keyHash P (Str.mk (Array.mk [nat_lit 95, nat_lit 95, nat_lit 100, nat_lit 105, nat_lit 99, nat_lit 116, nat_lit 95, nat_lit 95]))), .str (Str.mk (Array.mk [nat_lit 95, nat_lit 95, nat_lit 100, nat_lit 105, nat_lit 99, nat_lit 116, nat_lit 95, nat_lit 95])) 1549, (.ref 873)⟩, ⟨(@PySem.PyData.keyHash P (Str.mk (Array.mk [nat_lit 95, nat_lit 95, nat_lit 119, nat_lit 101, nat_lit 97, nat_lit 107, nat_lit 114, nat_lit 101, nat_lit 102, nat_lit 95, nat_lit 95]))), .str (Str.mk (Array.mk [nat_lit 95, nat_lit 95, nat_lit 119, nat_lit 101, nat_lit 97, nat_lit 107, nat_lit 114, nat_lit 101, nat_lit 102, nat_lit 95, nat_lit 95])) 1551, (.ref 874)⟩, ⟨(@PySem.PyData.keyHash P (Str.mk (Array.mk [nat_lit 95, nat_lit 95, nat_lit 100, nat_lit 111, nat_lit 99, nat_lit 95, nat_lit 95]))), .str (Str.mk (Array.mk [nat_lit 95, nat_lit 95, nat_lit 100, nat_lit 111, nat_lit 99, nat_lit 95, nat_lit 95])) 1552, Value.none⟩]) 4) (Array.mk []))
noncomputable def o872 (P : Params) : Obj := (@Obj.mk (@Value.type PySem.W.SL.s17162191345867700912x4) none (@Data.cls (@ClassData.mk (Str.mk (Array.mk [nat_lit 83, nat_lit 101, nat_lit 110, nat_lit 116, nat_lit 80, nat_lit 97, nat_lit 99, nat_lit 107, nat_lit 101, nat_lit 116])) [(@Value.type PySem.W.SL.s2742458400755230247x6)] [(.ref 872), (@Value.type PySem.W.SL.s2742458400755230247x6)] 871 (Str.mk (Array.mk [nat_lit 83, nat_lit 101, nat_lit 110, nat_lit 116, nat_lit 80, nat_lit 97, nat_lit 99, nat_lit 107, nat_lit 101, nat_lit 116])) true [] [] false none false)) (Array.mk [none, none, (some (.str (Str.mk (Array.mk [nat_lit 83, nat_lit 101, nat_lit 110, nat_lit 116, nat_lit 80, nat_lit 97, nat_lit 99, nat_lit 107, nat_lit 101, nat_lit 116])) 1518)), (some (.str (Str.mk (Array.mk [nat_lit 83, nat_lit 101, nat_lit 110, nat_lit 116, nat_lit 80, nat_lit 97, nat_lit 99, nat_lit 107, nat_lit 101, nat_lit 116])) 1526)), (some (@Value.builtin PySem.W.SL.s11443829558043349243x14)), (some (@Value.bool true))]))
noncomputable def o889 (P : Params) : Obj := (@Obj.mk (@Value.type PySem.W.SL.s5856160107412720595x4) none (@Data.fields (Array.mk [(.str (Str.mk (Array.mk [nat_lit 95, nat_lit 95, nat_lit 105, nat_lit 110, nat_lit 105, nat_lit 116, nat_lit 95, nat_lit 95])) 1567), (.str (Str.mk (Array.mk [nat_lit 83, nat_lit 112, nat_lit 97, nat_lit 99, nat_lit 101, nat_lit 46, nat_lit 95, nat_lit 95, nat_lit 105, nat_lit 110, nat_lit 105, nat_lit 116, nat_lit 95, nat_lit 95])) 1568), (.str (Str.mk (Array.mk [nat_lit 47, nat_lit 99, nat_lit 108, nat_lit 97, nat_lit 105, nat_lit 109, nat_lit 47, nat_lit 99, nat_lit 117, nat_lit 116, nat_lit 46, nat_lit 112, nat_lit 121])) 1569), (@Value.int 659 0), (@Value.int 2 0), (@Value.int 0 0), (@Value.int 0 0), (@Value.int 3 0), (.ref 884), (@Value.bool true), (@Value.int 181 0), (.ref 885), Value.none, (.ref 886), (.ref 887), (.ref 888), (@Value.int 1572 0), (@Value.int 659 0), (.str (Str.mk (Array.mk [nat_lit 47, nat_lit 99, nat_lit 108, nat_lit 97, nat_lit 105, nat_lit 109, nat_lit 47, nat_lit 99, nat_lit 117, nat_lit 116, nat_lit 46, nat_lit 112, nat_lit 121])) 1573)])) (Array.mk []))
noncomputable def o890 (P : Params) : Obj := (fo (@Value.type PySem.W.SL.s7174869446012820540x8) none (Array.mk []) (Str.mk (Array.mk [nat_lit 95, nat_lit 95, nat_lit 105, nat_lit 110, nat_lit 105, nat_lit 116, nat_lit 95, nat_lit 95])) (Str.mk (Array.mk [nat_lit 83, nat_lit 112, nat_lit 97, nat_lit 99, nat_lit 101, nat_lit 46, nat_lit 95, nat_lit 95, nat_lit 105, nat_lit 110, nat_lit 105, nat_lit 116, nat_lit 95, nat_lit 95])) (mt 145 0) 3 [] Value.none Value.none Value.none (.str (Str.mk (Array.mk [nat_lit 113, nat_lit 117, nat_lit 105, nat_lit 99, nat_lit 46, nat_lit 115, nat_lit 112, nat_lit 97, nat_lit 99, nat_lit 101, nat_lit 115])) 1508) none (.ref 889) Value.none 0)
noncomputable def o931 (P : Params) : Obj := (@Obj.mk (@Value.type PySem.W.SL.s5856160107412720595x4) none (@Data.fields (Array.mk [(.str (Str.mk (Array.mk [nat_lit 116, nat_lit 97, nat_lit 107, nat_lit 101, nat_lit 95, nat_lit 110, nat_lit 117, nat_lit 109, nat_lit 98, nat_lit 101, nat_lit 114])) 1619), (.str (Str.mk (Array.mk [nat_lit 83, nat_lit 112, nat_lit 97, nat_lit 99, nat_lit 101, nat_lit 46, nat_lit 116, nat_lit 97, nat_lit 107, nat_lit 101, nat_lit 95, nat_lit 110, nat_lit 117, nat_lit 109, nat_lit 98, nat_lit 101, nat_lit 114])) 1620), (.str (Str.mk (Array.mk [nat_lit 47, nat_lit 99, nat_lit 108, nat_lit 97, nat_lit 105, nat_lit 109, nat_lit 47, nat_lit 99, nat_lit 117, nat_lit 116, nat_lit 46, nat_lit 112, nat_lit 121])) 1621), (@Value.int 710 0), (@Value.int 1 0), (@Value.int 0 0), (@Value.int 0 0), (@Value.int 3 0), (.ref 926), (@Value.bool true), (@Value.int 181 0), (.ref 927), Value.none, (.ref 928), (.ref 929), (.ref 930), (@Value.int 1623 0), (@Value.int 710 0), (.str (Str.mk (Array.mk [nat_lit 47, nat_lit 99, nat_lit 108, nat_lit 97, nat_lit 105, nat_lit 109, nat_lit 47, nat_lit 99, nat_lit 117, nat_lit 116, nat_lit 46, nat_lit 112, nat_lit 121])) 1624)])) (Array.mk []))
noncomputable def o932 (P : Params) : Obj := (fo (@Value.type PySem.W.SL.s7174869446012820540x8) none (Array.mk []) (Str.mk (Array.mk [nat_lit 116, nat_lit 97, nat_lit 107, nat_lit 101, nat_lit 95, nat_lit 110, nat_lit 117, nat_lit 109, nat_lit 98, nat_lit 101, nat_lit 114])) (Str.mk (Array.mk [nat_lit 83, nat_lit 112, nat_lit 97, nat_lit 99, nat_lit 101, nat_lit 46, nat_lit 116, nat_lit 97, nat_lit 107, nat_lit 101, nat_lit 95, nat_lit 110, nat_lit 117, nat_lit 109, nat_lit 98, nat_lit 101, nat_lit 114])) (mt 145 6) 3 [] Value.none Value.none Value.none (.str (Str.mk (Array.mk [nat_lit 113, nat_lit 117, nat_lit 105, nat_lit 99, nat_lit 46, nat_lit 115, nat_lit 112, nat_lit 97, nat_lit 99, nat_lit 101, nat_lit 115])) 1508) none (.ref 931) Value.none 0)
noncomputable def o938 (P : Params) : Obj := (@Obj.mk (@Value.type PySem.W.SL.s5856160107412720595x4) none (@Data.fields (Array.mk [(.str (Str.mk (Array.mk [nat_lit 111, nat_lit 110, nat_lit 95, nat_lit 115, nat_lit 101, nat_lit 110, nat_lit 116])) 1626), (.str (Str.mk (Array.mk [nat_lit 83, nat_lit 112, nat_lit 97, nat_lit 99, nat_lit 101, nat_lit 46, nat_lit 111, nat_lit 110, nat_lit 95, nat_lit 115, nat_lit 101, nat_lit 110, nat_lit 116])) 1627), (.str (Str.mk (Array.mk [nat_lit 47, nat_lit 99, nat_lit 108, nat_lit 97, nat_lit 105, nat_lit 109, nat_lit 47, nat_lit 99, nat_lit 117, nat_lit 116, nat_lit 46, nat_lit 112, nat_lit 121])) 1628), (@Value.int 714 0), (@Value.int 5 0), (@Value.int 0 0), (@Value.int 0 0), (@Value.int 3 0), (.ref 933), (@Value.bool true), (@Value.int 181 0), (.ref 934), Value.none, (.ref 935), (.ref 936), (.ref 937), (@Value.int 1635 0), (@Value.int 714 0), (.str (Str.mk (Array.mk [nat_lit 47, nat_lit 99, nat_lit 108, nat_lit 97, nat_lit 105, nat_lit 109, nat_lit 47, nat_lit 99, nat_lit 117, nat_lit 116, nat_lit 46, nat_lit 112, nat_lit 121])) 1636)])) (Array.mk []))
noncomputable def o939 (P : Params) : Obj := (fo (@Value.type PySem.W.SL.s7174869446012820540x8) none (Array.mk []) (Str.mk (Array.mk [nat_lit 111, nat_lit 110, nat_lit 95, nat_lit 115, nat_lit 101, nat_lit 110, nat_lit 116])) (Str.mk (Array.mk [nat_lit 83, nat_lit 112, nat_lit 97, nat_lit 99, nat_lit 101, nat_lit 46, nat_lit 111, nat_lit 110, nat_lit 95, nat_lit 115, nat_lit 101, nat_lit 110, nat_lit 116])) (mt 145 7) 3 [] Value.none Value.none Value.none (.str (Str.mk (Array.mk [nat_lit 113, nat_lit 117, nat_lit 105, nat_lit 99, nat_lit 46, nat_lit 115, nat_lit 112, nat_lit 97, nat_lit 99, nat_lit 101, nat_lit 115])) 1508) none (.ref 938) Value.none 0)
noncomputable def o983 (P : Params) : Obj := (@Obj.mk (@Value.type PySem.W.SL.s5856160107412720595x4) none (@Data.fields (Array.mk [(.str (Str.mk (Array.mk [nat_lit 101, nat_lit 108, nat_lit 105, nat_lit 99, nat_lit 105, nat_lit 116, nat_lit 105, nat_lit 110, nat_lit 103, nat_lit 95, nat_lit 108, nat_lit 101, nat_lit 102, nat_lit 116])) 1684), (.str (Str.mk (Array.mk [nat_lit 83, nat_lit 112, nat_lit 97, nat_lit 99, nat_lit 101, nat_lit 46, nat_lit 101, nat_lit 108, nat_lit 105, nat_lit 99, nat_lit 105, nat_lit 116, nat_lit 105, nat_lit 110, nat_lit 103, nat_lit 95, nat_lit 108, nat_lit 101, nat_lit 102, nat_lit 116])) 1685), (.str (Str.mk (Array.mk [nat_lit 47, nat_lit 99, nat_lit 108, nat_lit 97, nat_lit 105, nat_lit 109, nat_lit 47, nat_lit 99, nat_lit 117, nat_lit 116, nat_lit 46, nat_lit 112, nat_lit 121])) 1686), (@Value.int 740 0), (@Value.int 1 0), (@Value.int 0 0), (@Value.int 0 0), (@Value.int 3 0), (.ref 980), (@Value.bool true), (@Value.int 181 0), (.ref 981), Value.none, Value.none, Value.none, (.ref 982), (@Value.int 1687 0), (@Value.int 740 0), (.str (Str.mk (Array.mk [nat_lit 47, nat_lit 99, nat_lit 108, nat_lit 97, nat_lit 105, nat_lit 109, nat_lit 47, nat_lit 99, nat_lit 117, nat_lit 116, nat_lit 46, nat_lit 112, nat_lit 121])) 1688)])) (Array.mk []))
noncomputable def o984 (P : Params) : Obj := (fo (@Value.type PySem.W.SL.s7174869446012820540x8) none (Array.mk []) (Str.mk (Array.mk [nat_lit 101, nat_lit 108, nat_lit 105, nat_lit 99, nat_lit 105, nat_lit 116, nat_lit 105, nat_lit 110, nat_lit 103, nat_lit 95, nat_lit 108, nat_lit 101, nat_lit 102, nat_lit 116])) (Str.mk (Array.mk [nat_lit 83, nat_lit 112, nat_lit 97, nat_lit 99, nat_lit 101, nat_lit 46, nat_lit 101, nat_lit 108, nat_lit 105, nat_lit 99, nat_lit 105, nat_lit 116, nat_lit 105, nat_lit 110, nat_lit 103, nat_lit 95, nat_lit 108, nat_lit 101, nat_lit 102, nat_lit 116])) (mt 145 14) 3 [] Value.none Value.none Value.none (.str (Str.mk (Array.mk [nat_lit 113, nat_lit 117, nat_lit 105, nat_lit 99, nat_lit 46, nat_lit 115, nat_lit 112, nat_lit 97, nat_lit 99, nat_lit 101, nat_lit 115])) 1508) none (.ref 983) Value.none 0)
noncomputable def o1012 (P : Params) : Obj := (@Obj.mk (@Value.type PySem.W.SL.s14018661285674007319x4) none (@Data.dict (Array.mk [⟨(@PySem.PyData.keyHash P (Str.mk (Array.mk [nat_lit 95, nat_lit 95, nat_lit 109, nat_lit 111, nat_lit 100, nat_lit 117, nat_lit 108, nat_lit 101, nat_lit 95, nat_lit 95]))), .str (Str.mk (Array.mk [nat_lit 95, nat_lit 95, nat_lit 109, nat_lit 111, nat_lit 100, nat_lit 117, nat_lit 108, nat_lit 101, nat_lit 95, nat_lit 95])) 1562, (.str (Str.mk (Array.mk [nat_lit 113, nat_lit 117, nat_lit 105, nat_lit 99, nat_lit 46, nat_lit 115, nat_lit 112, nat_lit 97, nat_lit 99, nat_lit 101, nat_lit 115])) 1508)⟩, ⟨(@PySem.PyData.keyHash P (Str.mk (Array.mk [nat_lit 95, nat_lit 95, nat_lit 102, nat_lit 105, nat_lit 114, nat_lit 115, nat_lit 116, nat_lit 108, nat_lit 105, nat_lit 110, nat_lit 101, nat_lit 110, nat_lit 111, nat_lit 95, nat_lit 95]))), .str (Str.mk (Array.mk [nat_lit 95, nat_lit 95, nat_lit 102, nat_lit 105, nat_lit 114, nat_lit 115, nat_lit 116, nat_lit 108, nat_lit 105, nat_lit 110, nat_lit 101, nat_lit 110, nat_lit 111, nat_lit 95, nat_lit 95])) 1566, (@Value.int 657 1565)⟩, ⟨(@PySem.PyData.keyHash P (Str.mk (Array.mk [nat_lit 95, nat_lit 95, nat_lit 105, nat_lit 110, nat_lit 105, nat_lit 116, nat_lit 95, nat_lit 95]))), .str (Str.mk (Array.mk [nat_lit 95, nat_lit 95, nat_lit 105, nat_lit 110, nat_lit 105, nat_lit 116, nat_lit 95, nat_lit 95])) 1574, (.ref 890)⟩, ⟨(@PySem.PyData.keyHash P (Str.mk (Array.mk [nat_lit 105, nat_lit 115, nat_lit 95, nat_lit 107, nat_lit 110, nat_lit 111, nat_lit 119, nat_lit 110]))), .str (Str.mk (Array.mk [nat_lit 105, nat_lit 115, nat_lit 95, nat_lit 107, nat_lit 110, nat_lit 111, nat_lit 119, nat_lit 110])) 1582, (.ref 897)⟩, ⟨(@PySem.PyData.keyHash P (Str.mk (Array.mk [nat_lit 111, nat_lit 110, nat_lit 95, nat_lit 114, nat_lit 101, nat_lit 99, nat_lit 101, nat_lit 105, nat_lit 118, nat_lit 101, nat_lit 100]))), .str (Str.mk (Array.mk [nat_lit 111, nat_lit 110, nat_lit 95, nat_lit 114, nat_lit 101, nat_lit 99, nat_lit 101, nat_lit 105, nat_lit 118, nat_lit 101, nat_lit 100])) 1595, (.ref 904)⟩, ⟨(@PySem.PyData.keyHash P (Str.mk (Array.mk [nat_lit 97, nat_lit 99, nat_lit 107, nat_lit 95, nat_lit 102, nat_lit 114, nat_lit 97, nat_lit 109, nat_lit 101]))), .str (Str.mk (Array.mk [nat_lit 97, nat_lit 99, nat_lit 107, nat_lit 95, nat_lit 102, nat_lit 114, nat_lit 97, nat_lit 109, nat_lit 101])) 1604, (.ref 911)⟩, ⟨(@PySem.PyData.keyHash P (Str.mk (Array.mk [nat_lit 111, nat_lit 110, nat_lit 95, nat_lit 97, nat_lit 99, nat_lit 107, nat_lit 95, nat_lit 115, nat_lit 101, nat_lit 110, nat_lit 116]))), .str (Str.mk (Array.mk [nat_lit 111, nat_lit 110, nat_lit 95, nat_lit 97, nat_lit 99, nat_lit 107, nat_lit 95, nat_lit 115, nat_lit 101, nat_lit 110, nat_lit 116])) 1611, (.ref 918)⟩, ⟨(@PySem.PyData.keyHash P (Str.mk (Array.mk [nat_lit 111, nat_lit 119, nat_lit 101, nat_lit 115, nat_lit 95, nat_lit 97, nat_lit 99, nat_lit 107]))), .str (Str.mk (Array.mk [nat_lit 111, nat_lit 119, nat_lit 101, nat_lit 115, nat_lit 95, nat_lit 97, nat_lit 99, nat_lit 107])) 1618, (.ref 925)⟩, ⟨(@PySem.PyData.keyHash P (Str.mk (Array.mk [nat_lit 116, nat_lit 97, nat_lit 107, nat_lit 101, nat_lit 95, nat_lit 110, nat_lit 117, nat_lit 109, nat_lit 98, nat_lit 101, nat_lit 114]))), .str (Str.mk (Array.mk [nat_lit 116, nat_lit 97, nat_lit 107, nat_lit 101, nat_lit 95, nat_lit 110, nat_lit 117, nat_lit 109, nat_lit 98, nat_lit 101, nat_lit 114])) 1625, (.ref 932)⟩, ⟨(@PySem.PyData.keyHash P (Str.mk (Array.mk [nat_lit 111, nat_lit 110, nat_lit 95, nat_lit 115, nat_lit 101, nat_lit 110, nat_lit 116]))), .str (Str.mk (Array.mk [nat_lit 111, nat_lit 110, nat_lit 95, nat_lit 115, nat_lit 101, nat_lit 110, nat_lit 116])) 1637, (.ref 939)⟩, ⟨(@PySem.PyData.keyHash P (Str.mk (Array.mk [nat_lit 116, nat_lit 97, nat_lit 107, nat_lit 101]))), .str (Str.mk (Array.mk [nat_lit 116, nat_lit 97, nat_lit 107, nat_lit 101])) 1643, (.ref 944)⟩, ⟨(@PySem.PyData.keyHash P (Str.mk (Array.mk [nat_lit 97, nat_lit 99, nat_lit 107, nat_lit 101, nat_lit 100, nat_lit 95, nat_lit 98, nat_lit 121]))), .str (Str.mk (Array.mk [nat_lit 97, nat_lit 99, nat_lit 107, nat_lit 101, nat_lit 100, nat_lit 95, nat_lit 98, nat_lit 121])) 1651, (.ref 951)⟩, ⟨(@PySem.PyData.keyHash P (Str.mk (Array.mk [nat_lit 110, nat_lit 111, nat_lit 116, nat_lit 101, nat_lit 95, nat_lit 97, nat_lit 99, nat_lit 107, nat_lit 101, nat_lit 100]))), .str (Str.mk (Array.mk [nat_lit 110, nat_lit 111, nat_lit 116, nat_lit 101, nat_lit 95, nat_lit 97, nat_lit 99, nat_lit 107, nat_lit 101, nat_lit 100])) 1659, (.ref 958)⟩, ⟨(@PySem.PyData.keyHash P (Str.mk (Array.mk [nat_lit 110, nat_lit 111, nat_lit 116, nat_lit 101, nat_lit 95, nat_lit 114, nat_lit 97, nat_lit 110, nat_lit 103, nat_lit 101, nat_lit 115]))), .str (Str.mk (Array.mk [nat_lit 110, nat_lit 111, nat_lit 116, nat_lit 101, nat_lit 95, nat_lit 114, nat_lit 97, nat_lit 110, nat_lit 103, nat_lit 101, nat_lit 115])) 1667, (.ref 965)⟩, ⟨(@PySem.PyData.keyHash P (Str.mk (Array.mk [nat_lit 105, nat_lit 115, nat_lit 95, nat_lit 98, nat_lit 101, nat_lit 121, nat_lit 111, nat_lit 110, nat_lit 100]))), .str (Str.mk (Array.mk [nat_lit 105, nat_lit 115, nat_lit 95, nat_lit 98, nat_lit 101, nat_lit 121, nat_lit 111, nat_lit 110, nat_lit 100])) 1675, (.ref 972)⟩, ⟨(@PySem.PyData.keyHash P (Str.mk (Array.mk [nat_lit 110, nat_lit 111, nat_lit 116, nat_lit 101, nat_lit 95, nat_lit 108, nat_lit 97, nat_lit 114, nat_lit 103, nat_lit 101, nat_lit 115, nat_lit 116]))), .str (Str.mk (Array.mk [nat_lit 110, nat_lit 111, nat_lit 116, nat_lit 101, nat_lit 95, nat_lit 108, nat_lit 97, nat_lit 114, nat_lit 103, nat_lit 101, nat_lit 115, nat_lit 116])) 1683, (.ref 979)⟩, ⟨(@PySem.PyData.keyHash P (Str.mk (Array.mk [nat_lit 101, nat_lit 108, nat_lit 105, nat_lit 99, nat_lit 105, nat_lit 116, nat_lit 105, nat_lit 110, nat_lit 103, nat_lit 95, nat_lit 108, nat_lit 101, nat_lit 102, nat_lit 116]))), .str (Str.mk (Array.mk [nat_lit 101, nat_lit 108, nat_lit 105, nat_lit 99, nat_lit 105, nat_lit 116, nat_lit 105, nat_lit 110, nat_lit 103, nat_lit 95, nat_lit 108, nat_lit 101, nat_lit 102, nat_lit 116])) 1689, (.ref 984)⟩, ⟨(@PySem.PyData.keyHash P (Str.mk (Array.mk [nat_lit 98, nat_lit 97, nat_lit 114, nat_lit 101, nat_lit 95, nat_lit 110, nat_lit 117, nat_lit 109, nat_lit 98, nat_lit 101, nat_lit 114, nat_lit 115]))), .str (Str.mk (Array.mk [nat_lit 98, nat_lit 97, nat_lit 114, nat_lit 101, nat_lit 95, nat_lit 110, nat_lit 117, nat_lit 109, nat_lit 98, nat_lit 101, nat_lit 114, nat_lit 115])) 1695, (.ref 989)⟩, ⟨(@PySem.PyData.keyHash P (Str.mk (Array.mk [nat_lit 111, nat_lit 99, nat_lit 116, nat_lit 101, nat_lit 116, nat_lit 115, nat_lit 95, nat_lit 111, nat_lit 117, nat_lit 116]))), .str (Str.mk (Array.mk [nat_lit 111, nat_lit 99, nat_lit 116, nat_lit 101, nat_lit 116, nat_lit 115, nat_lit 95, nat_lit 111, nat_lit 117, nat_lit 116])) 1702, (.ref 996)⟩, ⟨(@PySem.PyData.keyHash P (Str.mk (Array.mk [nat_lit 115, nat_lit 101, nat_lit 110, nat_lit 116, nat_lit 95, nat_lit 114, nat_lit 111, nat_lit 119, nat_lit 115]))), .str (Str.mk (Array.mk [nat_lit 115, nat_lit 101, nat_lit 110, nat_lit 116, nat_lit 95, nat_lit 114, nat_lit 111, nat_lit 119, nat_lit 115])) 1709, (.ref 1003)⟩, ⟨(@PySem.PyData.keyHash P (Str.mk (Array.mk [nat_lit 102, nat_lit 111, nat_lit 114, nat_lit 103, nat_lit 101, nat_lit 116]))), .str (Str.mk (Array.mk [nat_lit 102, nat_lit 111, nat_lit 114, nat_lit 103, nat_lit 101, nat_lit 116])) 1716, (.ref 1010)⟩, ⟨(@PySem.PyData.keyHash P (Str.mk (Array.mk [nat_lit 95, nat_lit 95, nat_lit 115, nat_lit 116, nat_lit 97, nat_lit 116, nat_lit 105, nat_lit 99, nat_lit 95, nat_lit 97, nat_lit 116, nat_lit 116, nat_lit 114, nat_lit 105, nat_lit 98, nat_lit 117, nat_lit 116, nat_lit 101, nat_lit 115, nat_lit 95, nat_lit 95]))), .str (Str.mk (Array.mk [nat_lit 95, nat_lit 95, nat_lit 115, nat_lit 116, nat_lit 97, nat_lit 116, nat_lit 105, nat_lit 99, nat_lit 95, nat_lit 97, nat_lit 116, nat_lit 116, nat_lit 114, nat_lit 105, nat_lit 98, nat_lit 117, nat_lit 116, nat_lit 101, nat_lit 115, nat_lit 95, nat_lit 95])) 1734, (.ref 1011)⟩, ⟨(@PySem.PyData.keyHash P (Str.mk (Array.mk [nat_lit 95, nat_lit 95, nat_lit 100, nat_lit 105, nat_lit 99, nat_lit 116, nat_lit 95, nat_lit 95]))), .str (Str.mk (Array.mk [nat_lit 95, nat_lit 95, nat_lit 100, nat_lit 105, nat_lit 99, nat_lit 116, nat_lit 95, nat_lit 95])) 1736, (.ref 1014)⟩, ⟨(@PySem.PyData.keyHash P (Str.mk (Array.mk [nat_lit 95, nat_lit 95, nat_lit 119, nat_lit 101, nat_lit 97, nat_lit 107, nat_lit 114, nat_lit 101, nat_lit 102, nat_lit 95, nat_lit 95]))), .str (Str.mk (Array.mk [nat_lit 95, nat_lit 95, nat_lit 119, nat_lit 101, nat_lit 97, nat_lit 107, nat_lit 114, nat_lit 101, nat_lit 102, nat_lit 95, nat_lit 95])) 1738, (.ref 1015)⟩, ⟨(@PySem.PyData.keyHash P (Str.mk (Array.mk [nat_lit 95, nat_lit 95, nat_lit 100, nat_lit 111, nat_lit 99, nat_lit 95, nat_lit 95]))), .str (Str.mk (Array.mk [nat_lit 95, nat_lit 95, nat_lit 100, nat_lit 111, nat_lit 99, nat_lit 95, nat_lit 95])) 1739, Value.none⟩]) 4) (Array.mk []))
noncomputable def o1013 (P : Params) : Obj := (@Obj.mk (@Value.type PySem.W.SL.s17162191345867700912x4) none (@Data.cls (@ClassData.mk (Str.mk (Array.mk [nat_lit 83, nat_lit 112, nat_lit 97, nat_lit 99, nat_lit 101])) [(@Value.type PySem.W.SL.s2742458400755230247x6)] [(.ref 1013), (@Value.type PySem.W.SL.s2742458400755230247x6)] 1012 (Str.mk (Array.mk [nat_lit 83, nat_lit 112, nat_lit 97, nat_lit 99, nat_lit 101])) true [] [] false none false)) (Array.mk [none, none, (some (.str (Str.mk (Array.mk [nat_lit 83, nat_lit 112, nat_lit 97, nat_lit 99, nat_lit 101])) 1555)), (some (.str (Str.mk (Array.mk [nat_lit 83, nat_lit 112, nat_lit 97, nat_lit 99, nat_lit 101])) 1563)), (some (@Value.builtin PySem.W.SL.s11443829558043349243x14)), (some (@Value.bool true))]))
noncomputable def o1030 (P : Params) : Obj := (@Obj.mk (@Value.type PySem.W.SL.s5856160107412720595x4) none (@Data.fields (Array.mk [(.str (Str.mk (Array.mk [nat_lit 95, nat_lit 108, nat_lit 97, nat_lit 119, nat_lit 95, nat_lit 116, nat_lit 97, nat_lit 107, nat_lit 101])) 1751), (.str (Str.mk (Array.mk [nat_lit 95, nat_lit 108, nat_lit 97, nat_lit 119, nat_lit 95, nat_lit 116, nat_lit 97, nat_lit 107, nat_lit 101])) 1752), (.str (Str.mk (Array.mk [nat_lit 47, nat_lit 99, nat_lit 108, nat_lit 97, nat_lit 105, nat_lit 109, nat_lit 47, nat_lit 99, nat_lit 117, nat_lit 116, nat_lit 46, nat_lit 112, nat_lit 121])) 1753), (@Value.int 759 0), (@Value.int 2 0), (@Value.int 0 0), (@Value.int 0 0), (@Value.int 3 0), (.ref 1025), (@Value.bool true), (@Value.int 181 0), (.ref 1026), Value.none, (.ref 1027), (.ref 1028), (.ref 1029), (@Value.int 1756 0), (@Value.int 759 0), (.str (Str.mk (Array.mk [nat_lit 47, nat_lit 99, nat_lit 108, nat_lit 97, nat_lit 105, nat_lit 109, nat_lit 47, nat_lit 99, nat_lit 117, nat_lit 116, nat_lit 46, nat_lit 112, nat_lit 121])) 1757)])) (Array.mk []))
noncomputable def o1031 (P : Params) : Obj := (fo (@Value.type PySem.W.SL.s7174869446012820540x8) none (Array.mk []) (Str.mk (Array.mk [nat_lit 95, nat_lit 108, nat_lit 97, nat_lit 119, nat_lit 95, nat_lit 116, nat_lit 97, nat_lit 107, nat_lit 101])) (Str.mk (Array.mk [nat_lit 95, nat_lit 108, nat_lit 97, nat_lit 119, nat_lit 95, nat_lit 116, nat_lit 97, nat_lit 107, nat_lit 101])) (tp 148) 3 [] Value.none Value.none Value.none (.str (Str.mk (Array.mk [nat_lit 108, nat_lit 97, nat_lit 119, nat_lit 95, nat_lit 112, nat_lit 102, nat_lit 48, nat_lit 50, nat_lit 56, nat_lit 49, nat_lit 95, nat_lit 48, nat_lit 49])) 1749) none (.ref 1030) Value.none 0)
noncomputable def o1033 (P : Params) : Obj := (@Obj.mk Value.none none (@Data.fields (Array.mk [])) (Array.mk []))
noncomputable def o1035 (P : Params) : Obj := (@Obj.mk (@Value.type PySem.W.SL.s5856160107412720595x4) none (@Data.fields (Array.mk [(.str (Str.mk (Array.mk [nat_lit 95, nat_lit 108, nat_lit 97, nat_lit 119, nat_lit 95, nat_lit 115, nat_lit 116, nat_lit 97, nat_lit 116, nat_lit 101])) 1759), (.str (Str.mk (Array.mk [nat_lit 95, nat_lit 108, nat_lit 97, nat_lit 119, nat_lit 95, nat_lit 115, nat_lit 116, nat_lit 97, nat_lit 116, nat_lit 101])) 1760), (.str (Str.mk (Array.mk [nat_lit 47, nat_lit 99, nat_lit 108, nat_lit 97, nat_lit 105, nat_lit 109, nat_lit 47, nat_lit 99, nat_lit 117, nat_lit 116, nat_lit 46, nat_lit 112, nat_lit 121])) 1761), (@Value.int 764 0), (@Value.int 1 0), (@Value.int 0 0), (@Value.int 0 0), (@Value.int 3 0), (.ref 1032), (@Value.bool true), (@Value.int 181 0), (.ref 1033), Value.none, Value.none, Value.none, (.ref 1034), (@Value.int 1762 0), (@Value.int 764 0), (.str (Str.mk (Array.mk [nat_lit 47, nat_lit 99, nat_lit 108, nat_lit 97, nat_lit 105, nat_lit 109, nat_lit 47, nat_lit 99, nat_lit 117, nat_lit 116, nat_lit 46, nat_lit 112, nat_lit 121])) 1763)])) (Array.mk []))
noncomputable def o1036 (P : Params) : Obj := (fo (@Value.type PySem.W.SL.s7174869446012820540x8) none (Array.mk []) (Str.mk (Array.mk [nat_lit 95, nat_lit 108, nat_lit 97, nat_lit 119, nat_lit 95, nat_lit 115, nat_lit 116, nat_lit 97, nat_lit 116, nat_lit 101])) (Str.mk (Array.mk [nat_lit 95, nat_lit 108, nat_lit 97, nat_lit 119, nat_lit 95, nat_lit 115, nat_lit 116, nat_lit 97, nat_lit 116, nat_lit 101])) (tp 149) 3 [] Value.none Value.none Value.none (.str (Str.mk (Array.mk [nat_lit 108, nat_lit 97, nat_lit 119, nat_lit 95, nat_lit 112, nat_lit 102, nat_lit 48, nat_lit 50, nat_lit 56, nat_lit 49, nat_lit 95, nat_lit 48, nat_lit 49])) 1749) none (.ref 1035) Value.none 0)
noncomputable def o1042 (P : Params) : Obj := (@Obj.mk (@Value.type PySem.W.SL.s5856160107412720595x4) none (@Data.fields (Array.mk [(.str (Str.mk (Array.mk [nat_lit 95, nat_lit 108, nat_lit 97, nat_lit 119, nat_lit 95, nat_lit 103, nat_lit 111, nat_lit 101, nat_lit 115, nat_lit 95, nat_lit 114, nat_lit 105, nat_lit 103, nat_lit 104, nat_lit 116])) 1765), (.str (Str.mk (Array.mk [nat_lit 95, nat_lit 108, nat_lit 97, nat_lit 119, nat_lit 95, nat_lit 103, nat_lit 111, nat_lit 101, nat_lit 115, nat_lit 95, nat_lit 114, nat_lit 105, nat_lit 103, nat_lit 104, nat_lit 116])) 1766), (.str (Str.mk (Array.mk [nat_lit 47, nat_lit 99, nat_lit 108, nat_lit 97, nat_lit 105, nat_lit 109, nat_lit 47, nat_lit 99, nat_lit 117, nat_lit 116, nat_lit 46, nat_lit 112, nat_lit 121])) 1767), (@Value.int 785 0), (@Value.int 3 0), (@Value.int 0 0), (@Value.int 0 0), (@Value.int 3 0), (.ref 1037), (@Value.bool true), (@Value.int 181 0), (.ref 1038), Value.none, (.ref 1039), (.ref 1040), (.ref 1041), (@Value.int 1774 0), (@Value.int 785 0), (.str (Str.mk (Array.mk [nat_lit 47, nat_lit 99, nat_lit 108, nat_lit 97, nat_lit 105, nat_lit 109, nat_lit 47, nat_lit 99, nat_lit 117, nat_lit 116, nat_lit 46, nat_lit 112, nat_lit 121])) 1775)])) (Array.mk []))
noncomputable def o1043 (P : Params) : Obj := (fo (@Value.type PySem.W.SL.s7174869446012820540x8) none (Array.mk []) (Str.mk (Array.mk [nat_lit 95, nat_lit 108, nat_lit 97, nat_lit 119, nat_lit 95, nat_lit 103, nat_lit 111, nat_lit 101, nat_lit 115, nat_lit 95, nat_lit 114, nat_lit 105, nat_lit 103, nat_lit 104, nat_lit 116])) (Str.mk (Array.mk [nat_lit 95, nat_lit 108, nat_lit 97, nat_lit 119, nat_lit 95, nat_lit 103, nat_lit 111, nat_lit 101, nat_lit 115, nat_lit 95, nat_lit 114, nat_lit 105, nat_lit 103, nat_lit 104, nat_lit 116])) (tp 150) 3 [] Value.none Value.none Value.none (.str (Str.mk (Array.mk [nat_lit 108, nat_lit 97, nat_lit 119, nat_lit 95, nat_lit 112, nat_lit 102, nat_lit 48, nat_lit 50, nat_lit 56, nat_lit 49, nat_lit 95, nat_lit 48, nat_lit 49])) 1749) none (.ref 1042) Value.none 0)
noncomputable def o1049 (P : Params) : Obj := (@Obj.mk (@Value.type PySem.W.SL.s5856160107412720595x4) none (@Data.fields (Array.mk [(.str (Str.mk (Array.mk [nat_lit 108, nat_lit 97, nat_lit 119])) 1777), (.str (Str.mk (Array.mk [nat_lit 108, nat_lit 97, nat_lit 119])) 1778), (.str (Str.mk (Array.mk [nat_lit 47, nat_lit 99, nat_lit 108, nat_lit 97, nat_lit 105, nat_lit 109, nat_lit 47, nat_lit 99, nat_lit 117, nat_lit 116, nat_lit 46, nat_lit 112, nat_lit 121])) 1779), (@Value.int 794 0), (@Value.int 1 0), (@Value.int 0 0), (@Value.int 0 0), (@Value.int 3 0), (.ref 1044), (@Value.bool true), (@Value.int 181 0), (.ref 1045), Value.none, (.ref 1046), (.ref 1047), (.ref 1048), (@Value.int 1790 0), (@Value.int 794 0), (.str (Str.mk (Array.mk [nat_lit 47, nat_lit 99, nat_lit 108, nat_lit 97, nat_lit 105, nat_lit 109, nat_lit 47, nat_lit 99, nat_lit 117, nat_lit 116, nat_lit 46, nat_lit 112, nat_lit 121])) 1791)])) (Array.mk []))
noncomputable def o1050 (P : Params) : Obj := (fo (@Value.type PySem.W.SL.s7174869446012820540x8) none (Array.mk []) (Str.mk (Array.mk [nat_lit 108, nat_lit 97, nat_lit 119])) (Str.mk (Array.mk [nat_lit 108, nat_lit 97, nat_lit 119])) (tp 151) 3 [] Value.none Value.none Value.none (.str (Str.mk (Array.mk [nat_lit 108, nat_lit 97, nat_lit 119, nat_lit 95, nat_lit 112, nat_lit 102, nat_lit 48, nat_lit 50, nat_lit 56, nat_lit 49, nat_lit 95, nat_lit 48, nat_lit 49])) 1749) none (.ref 1049) Value.none 0)
noncomputable def pairs0 (P : Params) (l : List (Nat × Obj)) : List (Nat × Obj) := (0, o0 P) :: (2, o2 P) :: (3, o3 P) :: (4, o4 P) :: (27, o27 P) :: (28, o28 P) :: (41, o41 P) :: (42, o42 P) :: (69, o69 P) :: (70, o70 P) :: l
noncomputable def pairs1 (P : Params) (l : List (Nat × Obj)) : List (Nat × Obj) := (114, o114 P) :: (115, o115 P) :: (120, o120 P) :: (126, o126 P) :: (127, o127 P) :: (133, o133 P) :: (134, o134 P) :: (140, o140 P) :: (141, o141 P) :: (145, o145 P) :: l
noncomputable def pairs2 (P : Params) (l : List (Nat × Obj)) : List (Nat × Obj) := (146, o146 P) :: (152, o152 P) :: (153, o153 P) :: (159, o159 P) :: (160, o160 P) :: (175, o175 P) :: (181, o181 P) :: (182, o182 P) :: (188, o188 P) :: (189, o189 P) :: l
noncomputable def pairs3 (P : Params) (l : List (Nat × Obj)) : List (Nat × Obj) := (216, o216 P) :: (217, o217 P) :: (219, o219 P) :: (220, o220 P) :: (237, o237 P) :: (238, o238 P) :: (244, o244 P) :: (245, o245 P) :: (251, o251 P) :: (252, o252 P) :: l
noncomputable def pairs4 (P : Params) (l : List (Nat × Obj)) : List (Nat × Obj) := (263, o263 P) :: (264, o264 P) :: (265, o265 P) :: (271, o271 P) :: (272, o272 P) :: (278, o278 P) :: (279, o279 P) :: (283, o283 P) :: (284, o284 P) :: (288, o288 P) :: l
noncomputable def pairs5 (P : Params) (l : List (Nat × Obj)) : List (Nat × Obj) := (289, o289 P) :: (330, o330 P) :: (336, o336 P) :: (337, o337 P) :: (343, o343 P) :: (344, o344 P) :: (350, o350 P) :: (351, o351 P) :: (352, o352 P) :: (356, o356 P) :: l
noncomputable def pairs6 (P : Params) (l : List (Nat × Obj)) : List (Nat × Obj) := (357, o357 P) :: (405, o405 P) :: (406, o406 P) :: (412, o412 P) :: (413, o413 P) :: (417, o417 P) :: (418, o418 P) :: (446, o446 P) :: (447, o447 P) :: (453, o453 P) :: l
noncomputable def pairs7 (P : Params) (l : List (Nat × Obj)) : List (Nat × Obj) := (454, o454 P) :: (460, o460 P) :: (461, o461 P) :: (467, o467 P) :: (468, o468 P) :: (474, o474 P) :: (475, o475 P) :: (481, o481 P) :: (482, o482 P) :: (488, o488 P) :: l
noncomputable def pairs8 (P : Params) (l : List (Nat × Obj)) : List (Nat × Obj) := (489, o489 P) :: (495, o495 P) :: (496, o496 P) :: (500, o500 P) :: (501, o501 P) :: (507, o507 P) :: (508, o508 P) :: (514, o514 P) :: (515, o515 P) :: (521, o521 P) :: l
noncomputable def pairs9 (P : Params) (l : List (Nat × Obj)) : List (Nat × Obj) := (522, o522 P) :: (528, o528 P) :: (529, o529 P) :: (535, o535 P) :: (536, o536 P) :: (542, o542 P) :: (543, o543 P) :: (549, o549 P) :: (550, o550 P) :: (556, o556 P) :: l
noncomputable def pairs10 (P : Params) (l : List (Nat × Obj)) : List (Nat × Obj) := (557, o557 P) :: (558, o558 P) :: (564, o564 P) :: (565, o565 P) :: (571, o571 P) :: (572, o572 P) :: (576, o576 P) :: (577, o577 P) :: (583, o583 P) :: (584, o584 P) :: l
noncomputable def pairs11 (P : Params) (l : List (Nat × Obj)) : List (Nat × Obj) := (590, o590 P) :: (591, o591 P) :: (597, o597 P) :: (598, o598 P) :: (602, o602 P) :: (603, o603 P) :: (609, o609 P) :: (610, o610 P) :: (614, o614 P) :: (615, o615 P) :: l
noncomputable def pairs12 (P : Params) (l : List (Nat × Obj)) : List (Nat × Obj) := (621, o621 P) :: (622, o622 P) :: (626, o626 P) :: (627, o627 P) :: (633, o633 P) :: (634, o634 P) :: (647, o647 P) :: (648, o648 P) :: (654, o654 P) :: (655, o655 P) :: l
noncomputable def pairs13 (P : Params) (l : List (Nat × Obj)) : List (Nat × Obj) := (661, o661 P) :: (662, o662 P) :: (668, o668 P) :: (669, o669 P) :: (675, o675 P) :: (676, o676 P) :: (682, o682 P) :: (683, o683 P) :: (689, o689 P) :: (690, o690 P) :: l
noncomputable def pairs14 (P : Params) (l : List (Nat × Obj)) : List (Nat × Obj) := (696, o696 P) :: (697, o697 P) :: (703, o703 P) :: (704, o704 P) :: (710, o710 P) :: (711, o711 P) :: (713, o713 P) :: (714, o714 P) :: (731, o731 P) :: (732, o732 P) :: l
noncomputable def pairs15 (P : Params) (l : List (Nat × Obj)) : List (Nat × Obj) := (738, o738 P) :: (739, o739 P) :: (745, o745 P) :: (746, o746 P) :: (752, o752 P) :: (753, o753 P) :: (759, o759 P) :: (760, o760 P) :: (801, o801 P) :: (802, o802 P) :: l
noncomputable def pairs16 (P : Params) (l : List (Nat × Obj)) : List (Nat × Obj) := (808, o808 P) :: (809, o809 P) :: (827, o827 P) :: (828, o828 P) :: (830, o830 P) :: (831, o831 P) :: (868, o868 P) :: (869, o869 P) :: (871, o871 P) :: (872, o872 P) :: l
noncomputable def pairs17 (P : Params) (l : List (Nat × Obj)) : List (Nat × Obj) := (889, o889 P) :: (890, o890 P) :: (931, o931 P) :: (932, o932 P) :: (938, o938 P) :: (939, o939 P) :: (983, o983 P) :: (984, o984 P) :: (1012, o1012 P) :: (1013, o1013 P) :: l
noncomputable def pairs18 (P : Params) (l : List (Nat × Obj)) : List (Nat × Obj) := (1030, o1030 P) :: (1031, o1031 P) :: (1033, o1033 P) :: (1035, o1035 P) :: (1036, o1036 P) :: (1042, o1042 P) :: (1043, o1043 P) :: (1049, o1049 P) :: (1050, o1050 P) :: l
noncomputable def pairs (P : Params) : List (Nat × Obj) := (pairs0 P (pairs1 P (pairs2 P (pairs3 P (pairs4 P (pairs5 P (pairs6 P (pairs7 P (pairs8 P (pairs9 P (pairs10 P (pairs11 P (pairs12 P (pairs13 P (pairs14 P (pairs15 P (pairs16 P (pairs17 P (pairs18 P [])))))))))))))))))))

noncomputable def getsOf (r : Ans PySem.Fin) (l : List (Nat × Obj)) : List (Option Obj) :=
  Ans.rec (motive := fun _ => List (Option Obj)) (fun _ _ T _ _ _ => l.map fun p => T.get p.1) (fun _ _ _ _ _ _ => []) (fun _ => []) r
noncomputable def litsOf (l : List (Nat × Obj)) : List (Option Obj) := l.map fun p => some p.2
noncomputable def putPairs : List (Nat × Obj) → OT → OT :=
  List.rec (motive := fun _ => OT → OT) (fun T => T) (fun p _ ih T => OT.rec (motive := fun _ => OT) (ih .nil) (fun v l r _ _ => ih (.node v l r)) (T.put (some p.2) p.1))
theorem putPairs_cons (p : Nat × Obj) (l : List (Nat × Obj)) (T : OT) : putPairs (p :: l) T = putPairs l (T.put (some p.2) p.1) := by
  show OT.rec (motive := fun _ => OT) (putPairs l .nil) (fun v l' r _ _ => putPairs l (.node v l' r)) (T.put (some p.2) p.1) = _
  cases T.put (some p.2) p.1 <;> rfl
theorem putPairs_get : ∀ (l : List (Nat × Obj)) (T : OT) (a : Nat) (o : Obj), (putPairs l T).get a = some o → (a, o) ∈ l ∨ T.get a = some o
  | [], T, a, o, h => .inr h
  | p :: l, T, a, o, h => by
    rw [putPairs_cons] at h
    rcases putPairs_get l _ a o h with q | q
    · exact .inl (List.mem_cons_of_mem _ q)
    · rcases OT.get_put _ _ _ _ _ q with ⟨ha, q'⟩ | ⟨_, q'⟩
      · obtain ⟨x, y⟩ := p
        have hy : y = o := Option.some.inj q'
        have hx : a = x := ha
        rw [hx, ← hy]
        exact .inl List.mem_cons_self
      · exact .inr q'
theorem gets_mem {T : OT} : ∀ {l : List (Nat × Obj)}, (l.map fun p => T.get p.1) = litsOf l → ∀ a o, (a, o) ∈ l → T.get a = some o
  | [], _, a, o, h => by cases h
  | p :: l, e, a, o, h => by
    unfold litsOf at e
    rw [List.map_cons, List.map_cons] at e
    injection e with e1 e2
    rcases List.mem_cons.mp h with q | q
    · subst q; exact e1
    · exact gets_mem (l := l) e2 a o q
noncomputable def skel : Nat → OT := Nat.rec (motive := fun _ => OT) .nil (fun _ ih => .node none ih ih)
theorem skel_get : ∀ (n a : Nat), (skel n).get a = none
  | 0, a => rfl
  | n + 1, a => by
    show (OT.node none (skel n) (skel n)).get a = none
    rw [OT.get_node, skel_get n, skel_get n]
    split
    · rfl
    · split <;> rfl
noncomputable def treeX (P : Params) : OT := putPairs (pairs P) (skel 11)
theorem treeX_get {w : World} {fin : PySem.Fin} {p : PP} {T : OT} {m b i : Nat} (hT : topAns w = .ok fin p T m b i) (h : getsOf (topAns w) (pairs w.params) = litsOf (pairs w.params)) (a : Nat) (o : Obj) (e : (treeX w.params).get a = some o) : T.get a = some o := by
  rw [hT] at h
  rcases putPairs_get _ _ _ _ e with q | q
  · exact gets_mem h a o q
  · rw [skel_get] at q; cases q
end Mine
open PySem PySem.W PySem.Spec PySem.Calls PyProof.Rows PySem.SeqAt
set_option Elab.async false
set_option maxRecDepth 100000
namespace Mine
set_option genInjectivity false
set_option genSizeOf false
set_option maxHeartbeats 1000000
set_option linter.unusedVariables false

/-! the call of the law, on the tree that the top leaves, by the script's first four residues -/
noncomputable def alX (a : Nat) : Bool := (Nat.ble 1052 a && !(Nat.beq a 1054 || Nat.beq a 1055)) || Nat.beq a 1033
noncomputable def defL (j : Nat) : Int := Int.ofNat (bif Nat.beq j 0 then 3 else bif Nat.beq j 1 then 2 else 1)
noncomputable def opL (j : Nat) : CmpOp := bif Nat.beq j 0 then .NotEq else .Eq
noncomputable def yL (j : Nat) : Int := Int.ofNat (bif Nat.beq j 1 then 1 else 2)
noncomputable def bitL (a b c : Bool) (j : Nat) : Bool := bif Nat.beq j 0 then a else bif Nat.beq j 1 then b else c
noncomputable def resL (r : Nat → Int) (o : Option Nat) (j : Nat) : Int := match o with
  | some n => bif Nat.beq j 3 then Int.ofNat n else r j
  | none => r j
structure Cs where
  w : World
  u : Nat
  k : Nat
  X : Nat → Int
  tk : Nat → Nat
  r : Nat → Int
  ins : Nat → Bool
  neg : Nat → Bool
noncomputable def pinL (x : Cs) (a b c : Bool) (o : Option Nat) : Pin := ⟨1055, x.k, x.X, x.tk, resL x.r o, defL, x.ins, x.neg, opL, yL, bitL a b c⟩
noncomputable def scrL : Scr := ⟨1051, 1054⟩
noncomputable def goL (x : Cs) (P : Pin) : Ar → Code → Run := evR (macL alX ⟨prog, x.w.params⟩ scrL P) alX ⟨prog, x.w.params⟩ 1000000000
noncomputable def lawAns (x : Cs) (P : Pin) (T : OT) : Ans PySem.Fin :=
  leaf alX ⟨prog, x.w.params⟩ (goL x P) ar0 callerC (callStub lawName [.ref 1051]).cur (some default) (T.put none 1051) 1052 x.u 0
noncomputable def finTrue : PySem.Fin → Bool
  | .done (.ret (.bool b)) => b
  | _ => false
noncomputable def isTab (o : Obj) : Bool := decide (o.cls = .none) && (o.dict.isNone && (Nat.beq o.slots.size 0 && match o.data with
  | .fields _ => true
  | _ => false))
noncomputable def isTab0 (o : Obj) : Bool := isTab o && match o.data with
  | .fields vs => Nat.beq vs.size 0
  | _ => false
noncomputable def optB (x : Option Obj) (f : Obj → Bool) : Bool := Option.rec (motive := fun _ => Bool) false (fun o => f o) x
noncomputable def tabOk (T T' : OT) : Bool := optB (T.get 1033) isTab0 && optB (T'.get 1033) isTab
noncomputable def wayOk (x : Cs) (P : Pin) (T : OT) : Bool :=
  Ans.rec (motive := fun _ => Bool) (fun fin _ T' _ _ _ => finTrue fin && tabOk T T') (fun _ _ _ _ _ _ => false) (fun _ => false) (lawAns x P T)
noncomputable def way (a b c : Bool) (o : Option Nat) (x : Cs) : Bool := wayOk x (pinL x a b c o) (treeX x.w.params)
noncomputable def world0 : World := { draws := fun _ _ => 0, params := { strHash := fun _ => 0, shareClass := fun _ => 0, mergeTok := id, idOf := fun _ => 0, idOfShared := fun _ _ => 0, followText := fun _ => false, idOfImm := fun _ => 0 } }
noncomputable def cs0 : Cs := ⟨world0, 0, 0, fun _ => 0, fun _ => 0, fun _ => 0, fun _ => false, fun _ => false⟩
/-- a world at which the top's run is as ill as anywhere -/
noncomputable def worldT : World := (Classical.choice (worst world0 topOk)).val
theorem top_all_of (h : topOk worldT = true) (w : World) : topOk w = true := (Classical.choice (worst world0 topOk)).property h w
end Mine
open PySem PySem.W PySem.Spec PySem.Calls PyProof.Rows PySem.SeqAt
set_option Elab.async false
set_option maxRecDepth 100000
namespace Mine
set_option genInjectivity false
set_option genSizeOf false
set_option maxHeartbeats 1000000
set_option linter.unusedVariables false

/-! the script as it is laid -/
noncomputable def intsAt : Nat → List Int → List Value
  | _, [] => []
  | t, n :: r => .int n t :: intsAt (t + 1) r
theorem intsAt_length : ∀ (t : Nat) (ns : List Int), (intsAt t ns).length = ns.length
  | _, [] => rfl
  | t, n :: r => by simp [intsAt, intsAt_length (t + 1) r]
theorem intsAt_get : ∀ (t : Nat) (ns : List Int) (j : Nat), j < ns.length → (intsAt t ns)[j]? = some (Value.int (ns.getD j 0) (t + j))
  | _, [], j, h => by simp at h
  | t, n :: r, 0, _ => by simp [intsAt]
  | t, n :: r, j + 1, h => by
    have := intsAt_get (t + 1) r j (by simpa using h)
    simp only [intsAt, List.getElem?_cons_succ, List.getD_cons_succ]
    rw [this, show t + 1 + j = t + (j + 1) by omega]
theorem lay_intsAt {R : WRecords} {cl : Str → Option Addr} {P : Params} {ord : List DictEntry → List DictEntry} : ∀ (ns : List Int) (s : Shared), layAllW R cl P ord (ns.map WData.int) s = some (intsAt s.toks ns, { s with toks := s.toks + ns.length })
  | [], s => by simp [layAllW, intsAt]
  | n :: r, s => by
    simp only [List.map_cons, layAllW, layW]
    rw [lay_intsAt r]
    simp only [intsAt, List.length_cons]
    rw [show s.toks + 1 + r.length = s.toks + (r.length + 1) by omega]
noncomputable def scriptS (ns : List Int) (s : Shared) : Shared := { s with toks := s.toks + ns.length, heap := s.heap.push { cls := .type "list", data := .seq (intsAt s.toks ns).toArray } }
theorem lay_script {R : WRecords} {cl : Str → Option Addr} {P : Params} {ord : List DictEntry → List DictEntry} (ns : List Int) (s : Shared) : layAllW R cl P ord [.list (ns.map WData.int)] s = some ([.ref s.heap.objs.size], scriptS ns s) := by
  simp only [layAllW, layW]
  rw [lay_intsAt ns s]
  rfl
theorem filter_range (X : Array Value) : ∀ m, m ≤ X.size → (List.range m).filterMap (X[·]?) = X.toList.take m
  | 0, _ => by simp
  | m + 1, h => by
    rw [List.range_succ, List.filterMap_append, filter_range X m (by omega), List.take_add_one]
    congr 1
    have : X[m]? = some X[m] := Array.getElem?_eq_getElem (by omega)
    simp [this]
theorem pick_ten (X : Array Value) : slicePick X none (some 10) none = (X.toList.take 10).toArray := by
  unfold slicePick
  congr 1
  have hr : sliceRange (sliceBounds none (some 10) none X.size).1 (sliceBounds none (some 10) none X.size).2.1 (sliceBounds none (some 10) none X.size).2.2 = List.range (min 10 X.size) := by
    have e1 : (sliceBounds none (some 10) none X.size).1 = 0 := rfl
    have e2 : (sliceBounds none (some 10) none X.size).2.1 = max 0 (min 10 (X.size : Int)) := rfl
    have e3 : (sliceBounds none (some 10) none X.size).2.2 = 1 := rfl
    rw [e1, e2, e3]
    unfold sliceRange
    have hc : (if (1 : Int) > 0 then (if (0 : Int) < max 0 (min 10 (X.size : Int)) then (max 0 (min 10 (X.size : Int)) - 0 + 1 - 1) / 1 else 0) else (if (0 : Int) > max 0 (min 10 (X.size : Int)) then (0 - max 0 (min 10 (X.size : Int)) - 1 - 1) / (-1) else 0)).toNat = min 10 X.size := by
      rw [if_pos (by decide)]
      split <;> omega
    dsimp only
    rw [hc]
    conv => rhs; rw [← List.map_id (List.range (min 10 X.size))]
    refine List.map_congr_left fun k _ => ?_
    show ((0 : Int) + 1 * (k : Int)).toNat = k
    omega
  rw [hr, filter_range X _ (by omega)]
  by_cases h : 10 ≤ X.size
  · rw [Nat.min_eq_left h]
  · rw [Nat.min_eq_right (by omega), List.take_of_length_le (by simp), List.take_of_length_le (by simp; omega)]

/-! the residues -/
noncomputable def resOf (ns : List Int) (j : Nat) : Int := if j < min ns.length 10 then (absI (ns.getD j 0)).fmod 4 else defL j
theorem resOf_range (ns : List Int) (j : Nat) (hj : j < 4) : 0 ≤ resOf ns j ∧ resOf ns j < 4 := by
  unfold resOf
  split
  · exact ⟨Int.fmod_nonneg_of_pos _ (by decide), Int.fmod_lt_of_pos _ (by decide)⟩
  · have : j = 0 ∨ j = 1 ∨ j = 2 ∨ j = 3 := by omega
    rcases this with rfl | rfl | rfl | rfl <;> decide
noncomputable def csOf (w : World) (u t : Nat) (ns : List Int) : Cs :=
  ⟨w, u, min ns.length 10, fun j => ns.getD j 0, fun j => t + j, resOf ns, fun j => decide (j < min ns.length 10), fun j => decide (ns.getD j 0 < 0)⟩
theorem resL_none (r : Nat → Int) (j : Nat) : resL r none j = r j := rfl
theorem resL_some (r : Nat → Int) (n j : Nat) (h : r 3 = Int.ofNat n) : resL r (some n) j = r j := by
  show (bif Nat.beq j 3 then Int.ofNat n else r j) = r j
  cases e : Nat.beq j 3 with
  | false => rfl
  | true =>
    have := Nat.eq_of_beq_eq_true e
    subst this
    exact h.symm
theorem pin_ok {w : World} {u t : Nat} {ns : List Int} {a b c : Bool} {o : Option Nat} {F : Frame} (hal : F.al 1055 = false) (hl : F.h₀.IsList 1055 (slicePick (intsAt t ns).toArray none (some 10) none))
    (ha : a = (resOf ns 0 != 2)) (hb : b = (resOf ns 1 == 1)) (hc : c = (resOf ns 2 == 2)) (ho : ∀ n, o = some n → resOf ns 3 = Int.ofNat n) : PinOk F (pinL (csOf w u t ns) a b c o) := by
  have hr : ∀ j, (pinL (csOf w u t ns) a b c o).res j = resOf ns j := by
    intro j
    cases o with
    | none => rfl
    | some n => exact resL_some _ _ _ (ho n rfl)
  rw [pick_ten] at hl
  refine ⟨hal, ⟨_, ?_, hl, fun j hj => ?_⟩, ?_, fun _ => rfl, fun _ => rfl, fun j hj h4 => ?_, fun j hj h4 => ?_, fun j h3 => ?_⟩
  · show (List.toArray _).size = min ns.length 10
    simp only [List.size_toArray, List.length_take, intsAt_length]
    omega
  · have hj : j < min ns.length 10 := hj
    show (List.toArray _)[j]? = some (Value.int (ns.getD j 0) (t + j))
    rw [← intsAt_get t ns j (by omega)]
    simp only [List.getElem?_toArray]
    rw [List.getElem?_take_of_lt (by omega)]
  · show ((min ns.length 10 : Nat) : Int) < 2 ^ 63
    omega
  · rw [hr]
    have hj : j < min ns.length 10 := hj
    unfold resOf
    rw [if_pos hj]
    rfl
  · rw [hr]
    have hj : ¬ j < min ns.length 10 := hj
    unfold resOf
    rw [if_neg hj]
    rfl
  · rw [hr]
    have : j = 0 ∨ j = 1 ∨ j = 2 := by omega
    rcases this with rfl | rfl | rfl
    · rw [ha]; rfl
    · rw [hb]; rfl
    · rw [hc]; rfl

/-! the run of the call -/
theorem alX_low {b : Nat} (h : alX b = true) (hb : b < 1052) : b = 1033 := by
  unfold alX at h
  simp only [Bool.or_eq_true, Bool.and_eq_true] at h
  rcases h with ⟨h, _⟩ | h
  · exact absurd (Nat.le_of_ble_eq_true h) (by omega)
  · exact Nat.eq_of_beq_eq_true h
theorem isTab_data {o : Obj} (h : isTab o = true) : ∃ vs, o = { cls := .none, data := .fields vs } := by
  obtain ⟨c, d, da, sl⟩ := o
  unfold isTab at h
  simp only [Bool.and_eq_true, decide_eq_true_eq, Option.isNone_iff_eq_none] at h
  obtain ⟨rfl, rfl, h3, h4⟩ := h
  have h3 := Nat.eq_of_beq_eq_true h3
  have h3 := Array.eq_empty_of_size_eq_zero h3
  subst h3
  cases da <;> first | exact ⟨_, rfl⟩ | cases h4
theorem isTab0_data {o : Obj} (h : isTab0 o = true) : o = { cls := .none, data := .fields #[] } := by
  unfold isTab0 at h
  rw [Bool.and_eq_true] at h
  obtain ⟨h1, h2⟩ := h
  obtain ⟨vs, rfl⟩ := isTab_data h1
  have h2 := Nat.eq_of_beq_eq_true h2
  have h2 := Array.eq_empty_of_size_eq_zero h2
  subst h2
  rfl
theorem optB_ok {x : Option Obj} {f : Obj → Bool} (h : optB x f = true) : ∃ o, x = some o ∧ f o = true := by
  cases x with
  | none => cases h
  | some o => exact ⟨o, rfl, h⟩
theorem finTrue_ok {fin : PySem.Fin} (h : finTrue fin = true) : fin = .done (.ret (.bool true)) := by
  unfold finTrue at h
  split at h
  · rw [h]
  · cases h
theorem law_run {w : World} {s₁ : Shared} {os : OsState} {h₀ : Heap} {T : OT} {b₁ i₁ : Nat} {fin : PySem.Fin} {p : PP} (D : Rep (topF os h₀) s₁ T 1051 b₁ i₁) (hT : topAns w = .ok fin p T 1051 b₁ i₁) (hc : isCodeTable s₁.heap 1033) (hTr : getsOf (topAns w) (pairs w.params) = litsOf (pairs w.params))
    (ns : List Int) (hn : ns.length ≤ 1048576) {a b c : Bool} {o : Option Nat} (hw : way a b c o (csOf w (scriptS ns s₁).toks s₁.toks ns) = true)
    (ha : a = (resOf ns 0 != 2)) (hb : b = (resOf ns 1 == 1)) (hcc : c = (resOf ns 2 == 2)) (ho : ∀ n, o = some n → resOf ns 3 = Int.ofNat n) :
    Sem.wp (model prog w) ctx0 (callStub lawName [.ref 1051]).cur (fun fin _ s' => fin = .done (.ret (.bool true)) ∧ OldK (scriptS ns s₁).heap s'.heap ∧ s'.os = (scriptS ns s₁).os ∧ s'.gens = #[]) (fun _ _ _ => False) default (scriptS ns s₁) := by
  have hsz : s₁.heap.objs.size = 1051 := D.size
  have hkeep : ∀ a o, s₁.heap.get? a = some o → (scriptS ns s₁).heap.get? a = some o := fun a o e => Heap.get?_push_of_some _ e
  have hsz2 : (scriptS ns s₁).heap.objs.size = 1052 := by
    show (s₁.heap.push _).objs.size = 1052
    rw [Heap.size_push, hsz]
  have hscr : (scriptS ns s₁).heap.get? 1051 = some { cls := .type "list", data := .seq (intsAt s₁.toks ns).toArray } := by
    have := Heap.get?_push_size s₁.heap (o := { cls := .type "list", data := .seq (intsAt s₁.toks ns).toArray }) rfl
    rw [hsz] at this
    exact this
  unfold way at hw
  have hw : wayOk (csOf w (scriptS ns s₁).toks s₁.toks ns) (pinL (csOf w (scriptS ns s₁).toks s₁.toks ns) a b c o) (treeX w.params) = true := hw
  have hget := treeX_get hT hTr
  unfold wayOk at hw
  let F : Frame := ⟨alX, (scriptS ns s₁).heap, #[], (scriptS ns s₁).drawn, (scriptS ns s₁).os⟩
  have D2 : Rep F (scriptS ns s₁) ((treeX w.params).put none 1051) 1052 (scriptS ns s₁).toks 0 := by
    refine ⟨hsz2, fun a o e => ?_, rfl, fun _ _ _ e => e, fun a o e => ⟨o, e⟩, Nat.le_of_eq hsz2, rfl, D.gens, rfl, rfl⟩
    rcases OT.get_put _ _ _ _ _ e with ⟨_, q⟩ | ⟨_, q⟩
    · cases q
    · exact hkeep _ _ (D.get _ _ (hget _ _ q))
  have HS : ScrOk F scrL (intsAt s₁.toks ns).toArray := by
    refine ⟨rfl, ⟨_, hscr, rfl, _, rfl⟩, ?_⟩
    rw [sizeLine_eq]
    simp only [List.size_toArray, intsAt_length]
    omega
  have G : Sound (model prog w) F (goL (csOf w (scriptS ns s₁).toks s₁.toks ns) (pinL (csOf w (scriptS ns s₁).toks s₁.toks ns) a b c o)) := by
    refine evR_sound (F := F) (macL_ok (c := scrL) HS rfl ?_ fun F' hF' hl => pin_ok (by rw [hF']; rfl) hl ha hb hcc ho) 1000000000
    rw [pick_ten, sizeLine_eq]
    simp only [List.size_toArray, List.length_take, intsAt_length]
    omega
  have S := snd_leaf (A := ar0) (c₀ := callerC) G (callStub lawName [.ref 1051]).cur (some default) ((treeX w.params).put none 1051) 1052 (scriptS ns s₁).toks 0 default (scriptS ns s₁) (posOk_some _) D2 ctx0 at0
    (fun fin _ s' => fin = .done (.ret (.bool true)) ∧ OldK (scriptS ns s₁).heap s'.heap ∧ s'.os = (scriptS ns s₁).os ∧ s'.gens = #[]) (fun _ _ _ => False)
  refine S ?_
  show Pays _ _ _ (lawAns (csOf w (scriptS ns s₁).toks s₁.toks ns) (pinL (csOf w (scriptS ns s₁).toks s₁.toks ns) a b c o) (treeX w.params))
  cases z : lawAns (csOf w (scriptS ns s₁).toks s₁.toks ns) (pinL (csOf w (scriptS ns s₁).toks s₁.toks ns) a b c o) (treeX w.params) with
  | err e p T m b i => rw [z] at hw; cases hw
  | stuck n => rw [z] at hw; cases hw
  | ok fin' p' T' m' b' i' =>
    rw [z] at hw
    dsimp only at hw
    unfold tabOk at hw
    simp only [Bool.and_eq_true] at hw
    obtain ⟨w1, w2, w3⟩ := hw
    obtain ⟨o₀, e0, t0⟩ := optB_ok w2
    obtain ⟨o₁, e1, t1⟩ := optB_ok w3
    have t0 := isTab0_data t0
    obtain ⟨vs, t1⟩ := isTab_data t1
    subst t0 t1
    intro q s' _ D'
    refine ⟨finTrue_ok w1, ⟨fun b o e => ?_, fun b o e => D'.there b o e⟩, D'.os, D'.gens⟩
    cases hal : alX b with
    | false => exact .inl (D'.keep b o hal e)
    | true =>
      have hlt : b < 1052 := by have := Heap.lt_size e; rw [hsz2] at this; exact this
      have hb := alX_low hal hlt
      subst hb
      have e2 := hkeep _ _ (D.get _ _ (hget _ _ e0))
      rw [e2] at e
      obtain rfl := Option.some.inj e
      obtain ⟨ca, co, cvs, c1, c2, c3, c4⟩ := hc
      exact .inr (.inl ⟨⟨ca, co, cvs, hkeep _ _ c1, c2, c3, c4⟩, rfl, #[], vs, rfl, by rw [D'.get _ _ e1]; simp⟩)
end Mine
open PySem PySem.W PySem.Spec PySem.Calls PyProof.Rows PySem.SeqAt
set_option Elab.async false
set_option maxRecDepth 100000
namespace Mine
set_option genInjectivity false
set_option genSizeOf false
set_option maxHeartbeats 4000000
set_option linter.unusedVariables false

/-- all scripts go one of the ways -/
theorem ways_all (h7 : ∀ a b c, (a && (!b && !c)) = false → ∀ x, way a b c none x = true) (h4 : ∀ n, n < 4 → ∀ x, way true false false (some n) x = true) (w : World) (u t : Nat) (ns : List Int) :
    ∃ a b c o, way a b c o (csOf w u t ns) = true ∧ a = (resOf ns 0 != 2) ∧ b = (resOf ns 1 == 1) ∧ c = (resOf ns 2 == 2) ∧ ∀ n, o = some n → resOf ns 3 = Int.ofNat n := by
  cases hx : ((resOf ns 0 != 2) && (!(resOf ns 1 == 1) && !(resOf ns 2 == 2))) with
  | false => exact ⟨_, _, _, none, h7 _ _ _ hx _, rfl, rfl, rfl, fun n h => by cases h⟩
  | true =>
    simp only [Bool.and_eq_true, Bool.not_eq_true'] at hx
    obtain ⟨x1, x2, x3⟩ := hx
    obtain ⟨r0, r1⟩ := resOf_range ns 3 (by decide)
    refine ⟨true, false, false, some (resOf ns 3).toNat, h4 _ (by omega) _, x1.symm, x2.symm, x3.symm, fun n h => ?_⟩
    obtain rfl := Option.some.inj h
    show resOf ns 3 = ((resOf ns 3).toNat : Int)
    omega

abbrev theRow : OpenRow := PySem.Challenge.rw_pf0281_01.row
abbrev theClaim : ClaimW := theRow.toRowW.claim
theorem claim_args {args : List WData} (h : theClaim.pre args = true) : ∃ ns : List Int, args = [.list (ns.map .int)] := by
  have h := (pre_splitW (r := theRow.toRowW) h).1
  have h : WShape.hasAll [] args [.list .int] = true := h
  obtain ⟨d, r, rfl, h1, h2⟩ := hasAllW_cons h
  obtain rfl := hasAllW_nil h2
  obtain ⟨xs, rfl, h3⟩ := hasW_list h1
  obtain ⟨ns, rfl⟩ := items_int h3
  exact ⟨ns, rfl⟩
theorem script_short {ns : List Int} (h : WData.layableAll [.list (ns.map .int)] = true) : ns.length ≤ 1048576 := by
  have : (WData.list (ns.map .int)).layable = true := by simpa [WData.layableAll] using h
  simpa using length_le_of_layableW this
theorem boot_start (w : World) : ∃ s, AfterRun (opening prog) w s ∧ ∀ s', AfterRun (opening prog) w s' → s' = s ∧ ∃ s₀, fenceModules? prog s' = some s₀ ∧ s₀.heap = boot_heap w.params ∧ s₀.gens = #[] ∧ s₀.drawn = boot_drawn ∧ s₀.toks = boot_toks ∧ s₀.asleep := by
  have h := boot_open (p := prog) (N := 600) rfl rfl (fun s => rfl) w
  rw [← table_eq_tree] at h
  obtain ⟨s₀, h1, h2⟩ := Option.map_eq_some_iff.mp h
  unfold fencedOpening at h1
  obtain ⟨s, h4, h5⟩ := Option.bind_eq_some_iff.mp h1
  have A : AfterImport (opening prog) w s := AfterImport.of_importEnds h4
  refine ⟨s, A, fun s' hs' => ?_⟩
  obtain rfl : s' = s := AfterImport.unique hs' A
  simp only [Prod.mk.injEq] at h2
  exact ⟨rfl, s₀, h5, h2.1, h2.2.1, h2.2.2.1, h2.2.2.2, Shared.asleep_of_life (fence_lifeW h5) A.life⟩
theorem post_true (args : List WData) : theClaim.post args (.bool true) args = true := by kernel_rfl
theorem law_name : theRow.name = lawName := rfl

theorem call_from (hTr : ∀ w, getsOf (topAns w) (pairs w.params) = litsOf (pairs w.params)) (h7 : ∀ a b c, (a && (!b && !c)) = false → ∀ x, way a b c none x = true) (h4 : ∀ n, n < 4 → ∀ x, way true false false (some n) x = true) {w : World} {s₁ : Shared} {os : OsState} {h₀ : Heap} {T : OT} {b₁ i₁ : Nat} {fin : PySem.Fin} {p : PP}
    (D : Rep (topF os h₀) s₁ T 1051 b₁ i₁) (hT : topAns w = .ok fin p T 1051 b₁ i₁) (hc : isCodeTable s₁.heap 1033) (hz : s₁.asleep) {free : Addr → Prop} {gens : Prop} {kept : Heap → Prop} (hk : ∀ h, kept h) :
    theClaim.CallFrom (callStub lawName) w free gens kept s₁ := by
  intro args hpre hlay ord hord
  obtain ⟨ns, rfl⟩ := claim_args hpre
  have hl := lay_script (R := theClaim.records) (cl := classAt s₁.heap) (P := w.params) (ord := ord) ns s₁
  have hg : s₁.gens = #[] := D.gens
  have hal := layAllW_rest _ _ _ hl
  have keeps := layAllW_keeps _ _ _ hl
  obtain ⟨as, hrd, hin, hold⟩ := reads_layAllW hord _ _ _ hl hlay (scriptS ns s₁).heap (fun _ _ e => e)
  have L : Laid theClaim.records w s₁ (scriptS ns s₁) [.list (ns.map .int)] [.ref s₁.heap.objs.size] as := ⟨⟨ord, hord, hl⟩, hrd, hin, hold, keeps, hal.1.trans hg, hal.2.2.1⟩
  obtain ⟨a, b, c, o, hw, ha, hb, hcc, ho⟩ := ways_all h7 h4 w (scriptS ns s₁).toks s₁.toks ns
  have hrun := law_run D hT hc (hTr w) ns (script_short hlay) hw ha hb hcc ho
  have hsz : s₁.heap.objs.size = 1051 := D.size
  have hh : Sem.wp (model prog w) ctx0 (callStub lawName [.ref 1051]).cur (Sem.finPost (model prog w) ctx0 fun r s' => (theClaim.Ends s₁ [.list (ns.map .int)] [.ref s₁.heap.objs.size] (scriptS ns s₁) r s' ∧ s'.os = s₁.os) ∧ leftWithCleanup s'.gens = false)
      (fun e _ s' => (theClaim.Ends s₁ [.list (ns.map .int)] [.ref s₁.heap.objs.size] (scriptS ns s₁) (.error e) s' ∧ s'.os = s₁.os) ∧ leftWithCleanup s'.gens = false) default (scriptS ns s₁) := by
    refine Sem.wp_mono _ _ _ (fun fin p s' x => ?_) (fun _ _ _ x => x.elim) _ _ hrun
    obtain ⟨rfl, hK, hos, hgg⟩ := x
    have g : GoodWG theClaim (classAt s₁.heap) (ExcName.means s₁.heap) [.list (ns.map .int)] (scriptS ns s₁) (.ok (.ret (.bool true))) s' :=
      ⟨.inl ⟨_, _, [], rfl, fun _ => rfl, ReadsW.bool true, post_true _, fun _ => ⟨List.nodup_nil, fun _ hm => (nomatch hm)⟩⟩, hK, hos, by rw [hgg]; exact AllBare.empty⟩
    have z := g.laid (c := theClaim) rfl rfl (ident_freeW (r := theRow.toRowW) rfl rfl rfl) L
    exact ⟨⟨z.1, z.2.1⟩, by rw [hgg]; simp [leftWithCleanup]⟩
  obtain ⟨n, r, s', s'', hs, hn, hfo, hcase, hos⟩ := wp_halts_full (M := model prog w) (Shared.asleep_of_life hal.2.2.2 hz) hh
  obtain ⟨eh, _, _, eo, _⟩ := Shared.forget_eq hfo
  have hcase := hcase.congr eh
  rw [← eo] at hos
  have hlife : s''.heap.life = s₁.heap.life := (runN_life _ _ _ hn).trans hal.2.2.2
  refine ⟨_, _, hl, n, _, s'', by rw [hsz]; exact hs, ?_, (fun _ i x hx => by rw [hg] at hx; simp at hx), hk _, by rw [hlife], Shared.rest_eq hos⟩
  rcases hcase with ⟨v, rfl, d1, d2, d3, d4, d5⟩ | ⟨e, ob, cls, rfl, d1, d2, d3, d4, d5⟩
  · exact .inl ⟨v, rfl, d1, d2, d3, fun b o y _ => d4 b o y, d5⟩
  · exact .inr ⟨e, ob, cls, rfl, d1, d2, d3, d4, fun b o y _ => d5 b o y⟩
theorem the_def {w : World} {s₁ : Shared} {os : OsState} {h₀ : Heap} {T : OT} {b₁ i₁ : Nat} {fin : PySem.Fin} {p : PP} (D : Rep (topF os h₀) s₁ T 1051 b₁ i₁) (hT : topAns w = .ok fin p T 1051 b₁ i₁)
    (hTr : getsOf (topAns w) (pairs w.params) = litsOf (pairs w.params)) (hg : globalOf s₁.heap lawName = some (.ref 1050)) : isTheDefsW prog s₁.heap lawName := by
  have hm : (1050, o1050 w.params) ∈ pairs w.params := List.mem_of_getElem? (show (pairs w.params)[188]? = some (1050, o1050 w.params) from rfl)
  rw [hT] at hTr
  have h1 := gets_mem (T := T) hTr _ _ hm
  refine ⟨1050, o1050 w.params, _, dArgs (tp 151), dBody (tp 151), dScope (tp 151), hg, D.get _ _ h1, rfl, by kernel_rfl, rfl, rfl, rfl, rfl, rfl, rfl, rfl, rfl, .inl ⟨by kernel_rfl, rfl⟩, [], by kernel_rfl, .inl ⟨rfl, rfl⟩⟩
theorem holds_by (hT : ∀ w, topOk w = true) (hTr : ∀ w, getsOf (topAns w) (pairs w.params) = litsOf (pairs w.params)) (h7 : ∀ a b c, (a && (!b && !c)) = false → ∀ x, way a b c none x = true) (h4 : ∀ n, n < 4 → ∀ x, way true false false (some n) x = true) (hb : prog.bare) (ho : opensWell prog = true) (hp : theRow.toRowW.promised) :
    theClaim.HoldsOpenBy (callStub theRow.name) (if theRow.pinned then [theRow.name] else []) theRow.keeps theRow.writes := by
  refine ⟨⟨hb, ho, rfl⟩, hp.witness, fun w => ?_⟩
  obtain ⟨s, A, hs⟩ := boot_start w
  refine ⟨⟨s, A⟩, fun s' hs' => ?_⟩
  obtain ⟨_, s₀, h1, h2, h3, h4', h5, h6⟩ := hs s' hs'
  obtain ⟨s₁, fin, p, T, b, i, e1, e2, e3, e4, e5, e6⟩ := head (hT w) h2 h3 h4' h5 h6
  refine ⟨s₀, h1, h3, s₁, e2, fun n hn => ?_, (fun x hx => by cases hx), (fun x hx => by cases hx), call_from hTr h7 h4 e3 e1 e5 e6 fun h q => by cases q⟩
  have : n = lawName := List.mem_singleton.mp (show n ∈ [lawName] from hn)
  subst this
  exact the_def e3 e1 (hTr w) e4
end Mine
open PySem PySem.W PySem.Spec PySem.Calls PyProof.Rows
set_option Elab.async false
set_option maxRecDepth 100000
namespace Mine
set_option genInjectivity false
set_option genSizeOf false
set_option maxHeartbeats 0
theorem topT : topOk worldT = true := by k_qdec
theorem pairsSeen : (!(pairs worldT.params).isEmpty) = true := by k_qdec
theorem treeTw (w : World) : getsOf (PySem.W.Fast.tw1293571927941065957 w) (PySem.W.Fast.tw17378719765536143660 w.params) = litsOf (PySem.W.Fast.tw17378719765536143660 w.params) := by kernel_rfl
theorem tree_ok (w : World) : getsOf (topAns w) (pairs w.params) = litsOf (pairs w.params) := by
  rw [PySem.W.Fast.te1293571927941065957, PySem.W.Fast.te17378719765536143660]
  exact treeTw w
end Mine
open PySem PySem.W PySem.Spec PySem.Calls PyProof.Rows
set_option Elab.async false
set_option maxRecDepth 100000
namespace Mine
set_option genInjectivity false
set_option genSizeOf false
set_option maxHeartbeats 0
/-! the ways, one by one -/
noncomputable def wayA (x : Cs) : Bool := way true true true none x
noncomputable def wayB (x : Cs) : Bool := way true true false none x
noncomputable def wayC (x : Cs) : Bool := way true false true none x
noncomputable def wayD (x : Cs) : Bool := way false true true none x
noncomputable def wayE (x : Cs) : Bool := way false true false none x
noncomputable def wayF (x : Cs) : Bool := way false false true none x
noncomputable def wayG (x : Cs) : Bool := way false false false none x
noncomputable def form0 (x : Cs) : Bool := way true false false (some 0) x
noncomputable def form1 (x : Cs) : Bool := way true false false (some 1) x
noncomputable def form2 (x : Cs) : Bool := way true false false (some 2) x
noncomputable def form3 (x : Cs) : Bool := way true false false (some 3) x
noncomputable def csA : Cs := (Classical.choice (worst cs0 wayA)).val
noncomputable def csB : Cs := (Classical.choice (worst cs0 wayB)).val
noncomputable def csC : Cs := (Classical.choice (worst cs0 wayC)).val
noncomputable def csD : Cs := (Classical.choice (worst cs0 wayD)).val
noncomputable def csE : Cs := (Classical.choice (worst cs0 wayE)).val
noncomputable def csF : Cs := (Classical.choice (worst cs0 wayF)).val
noncomputable def csG : Cs := (Classical.choice (worst cs0 wayG)).val
noncomputable def csF0 : Cs := (Classical.choice (worst cs0 form0)).val
noncomputable def csF1 : Cs := (Classical.choice (worst cs0 form1)).val
noncomputable def csF2 : Cs := (Classical.choice (worst cs0 form2)).val
noncomputable def csF3 : Cs := (Classical.choice (worst cs0 form3)).val
theorem okA : wayA csA = true := by k_qdec
theorem okB : wayB csB = true := by k_qdec
theorem okC : wayC csC = true := by k_qdec
theorem okD : wayD csD = true := by k_qdec
theorem okE : wayE csE = true := by k_qdec
theorem okF : wayF csF = true := by k_qdec
theorem okG : wayG csG = true := by k_qdec
theorem okF0 : form0 csF0 = true := by k_qdec
theorem okF3 : form3 csF3 = true := by k_qdec
theorem okF1 : form1 csF1 = true := by k_qdec
theorem okF2 : form2 csF2 = true := by k_qdec
theorem seven (a b c : Bool) (h : (a && (!b && !c)) = false) (x : Cs) : way a b c none x = true := by
  cases a with
  | true =>
    cases b with
    | true =>
      cases c with
      | true => exact (Classical.choice (worst cs0 wayA)).property okA x
      | false => exact (Classical.choice (worst cs0 wayB)).property okB x
    | false =>
      cases c with
      | true => exact (Classical.choice (worst cs0 wayC)).property okC x
      | false => cases h
  | false =>
    cases b with
    | true =>
      cases c with
      | true => exact (Classical.choice (worst cs0 wayD)).property okD x
      | false => exact (Classical.choice (worst cs0 wayE)).property okE x
    | false =>
      cases c with
      | true => exact (Classical.choice (worst cs0 wayF)).property okF x
      | false => exact (Classical.choice (worst cs0 wayG)).property okG x
theorem four (n : Nat) (h : n < 4) (x : Cs) : way true false false (some n) x = true := by
  have : n = 0 ∨ n = 1 ∨ n = 2 ∨ n = 3 := by omega
  rcases this with rfl | rfl | rfl | rfl
  · exact (Classical.choice (worst cs0 form0)).property okF0 x
  · exact (Classical.choice (worst cs0 form1)).property okF1 x
  · exact (Classical.choice (worst cs0 form2)).property okF2 x
  · exact (Classical.choice (worst cs0 form3)).property okF3 x
end Mine
set_option maxRecDepth 100000 in
set_option maxHeartbeats 0 in
theorem PySem.Challenge.cw_pf0281_01_holds : PySem.Challenge.rw_pf0281_01.Holds := by
  o_law
  rename_i said
  refine ⟨said, ⟨[.list []], by decide +kernel, by decide +kernel⟩, Mine.holds_by (Mine.top_all_of Mine.topT) Mine.tree_ok Mine.seven Mine.four ⟨rfl, rfl, rfl, rfl, rfl, by decide +kernel⟩ (by decide +kernel) ⟨[.list []], by decide +kernel, by decide +kernel⟩⟩
