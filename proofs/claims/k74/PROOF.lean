import PyProof.Rows.All
import Wide.All
import OpenK.AllK
import Wide.FinOn
import PyProof.EqAt
import PyProof.EqKinds
import PyProof.TupleCall
import PyProof.ReprRoads
import KE.GoesEnum
import HandS.ForMost
import HandS.Exc
import HandS.ExcOwn
import HandS.TryOnly
import HandS.WordsExc
import HandS.IsInst
import HandS.TupAny
import HandS.Walk
import HandS.Wide
import HandS.Zip
import HandS.EndBits
import HandS.TryMany
import HandS.ExcInit
import HandS.ExcField
import HandS.ExcIs
import KE.KeyNested
import HandS.TupMul
import PySem.Challenge.RW_arrivesalike_k74_programs_judged
set_option Elab.async false
set_option linter.all false
set_option maxRecDepth 100000
set_option maxHeartbeats 4000000
namespace AL
open PySem PySem.Spec PyProof.Rows L2
abbrev St := L2.St
/-! # A data layer: tuples, lists, ints, texts as plain values; draws as any number below a bound -/
/-- a value as data -/
inductive D where
  | non | bl (b : Bool) | int (i : Int) | str (s : Str) | tup (xs : List D) | lst (xs : List D) | well | raw (a : Addr) | exc (a : Addr) (d : Option Addr) (cls f : Str) (xs : List D)
/-- an error: its class, what it keeps -/
structure Exc where
  cls : Str
  arg : Option (Str × D)
/-- a run: an answer, an error, a draw below m, or no claim -/
inductive T (α : Type) where
  | ok (a : α) | exc (e : Exc) | draw (m : Int) (k : Int → T α) | fail
namespace T
def bind {α β : Type} : T α → (α → T β) → T β
  | .ok a, k => k a
  | .exc e, _ => .exc e
  | .draw m f, k => .draw m fun r => (f r).bind k
  | .fail, _ => .fail
@[simp] theorem bind_ok {α β : Type} (a : α) (k : α → T β) : (T.ok a).bind k = k a := rfl
@[simp] theorem bind_exc {α β : Type} (e : Exc) (k : α → T β) : (T.exc e : T α).bind k = .exc e := rfl
@[simp] theorem bind_fail {α β : Type} (k : α → T β) : (T.fail : T α).bind k = .fail := rfl
@[simp] theorem bind_draw {α β : Type} (m : Int) (f : Int → T α) (k : α → T β) : (T.draw m f).bind k = .draw m fun r => (f r).bind k := rfl
theorem bind_assoc {α β γ : Type} (t : T α) (k : α → T β) (l : β → T γ) : (t.bind k).bind l = t.bind fun a => (k a).bind l := by
  induction t with
  | ok a => rfl
  | exc e => rfl
  | draw m f ih => simp only [bind_draw]; exact congrArg _ (funext ih)
  | fail => rfl
@[simp] theorem bind_id {α : Type} (t : T α) : t.bind T.ok = t := by
  induction t with
  | ok a => rfl
  | exc e => rfl
  | draw m f ih => simp only [bind_draw]; exact congrArg _ (funext ih)
  | fail => rfl
/-- as many draws as are counted -/
abbrev line : Nat := 1000000000000
/-- what is wanted behind a run: n draws were made ahead of it -/
def wp {α : Type} : T α → (α → Nat → Prop) → (Exc → Nat → Prop) → Nat → Prop
  | .ok a, Q, _, n => Q a n
  | .exc e, _, E, n => E e n
  | .draw m k, Q, E, n => 0 < m ∧ n < line ∧ ∀ r, 0 ≤ r → r < m → (k r).wp Q E (n + 1)
  | .fail, _, _, _ => False
theorem wp_mono {α : Type} {t : T α} {Q Q' : α → Nat → Prop} {E E' : Exc → Nat → Prop} (hQ : ∀ a n, Q a n → Q' a n) (hE : ∀ e n, E e n → E' e n) : ∀ {n : Nat}, t.wp Q E n → t.wp Q' E' n := by
  induction t with
  | ok a => exact fun {n} h => hQ a n h
  | exc e => exact fun {n} h => hE e n h
  | draw m f ih => exact fun {n} h => ⟨h.1, h.2.1, fun r h0 h1 => ih r (h.2.2 r h0 h1)⟩
  | fail => exact fun {n} h => h.elim
theorem wp_bind {α β : Type} (t : T α) (k : α → T β) {Q : β → Nat → Prop} {E : Exc → Nat → Prop} : ∀ {n : Nat}, (t.bind k).wp Q E n ↔ t.wp (fun a m => (k a).wp Q E m) E n := by
  induction t with
  | ok a => exact fun {n} => Iff.rfl
  | exc e => exact fun {n} => Iff.rfl
  | draw m f ih =>
    intro n
    refine ⟨fun h => ⟨h.1, h.2.1, fun r h0 h1 => (ih r).mp (h.2.2 r h0 h1)⟩, fun h => ⟨h.1, h.2.1, fun r h0 h1 => (ih r).mpr (h.2.2 r h0 h1)⟩⟩
  | fail => exact fun {n} => Iff.rfl
end T
/-- a slot of a frame: nothing, a value that stays, a list of the frame's own -/
inductive Slot where
  | no | sh (d : D) | own (xs : List D)
abbrev DEnv := List Slot

/-! ## how data lie in the heap -/
section
variable (K : PySem.W.Frag) (w : Addr) (F : Addr → Prop) (H : Hp)
/-- a tuple that stands for ever: tracked, or of the written part -/
def TupAt (a : Addr) (vs : List V) : Prop := (F a ∧ H a = some (.tup vs)) ∨
  ∃ (o : Obj) (its : Array Value) (n : Nat), K.lookup a = some o ∧ o.cls = .type "tuple" ∧ o.data = .seq its n ∧ its.size ≤ sizeLine ∧ Vals vs its.toList
mutual
inductive Rep : V → D → Prop
  | non : Rep .non .non
  | bl (b : Bool) : Rep (.bl b) (.bl b)
  | int (i : Int) : Rep (.int i) (.int i)
  | str (s : Str) : Rep (.str s) (.str s)
  | tup {a : Addr} {vs : List V} {ds : List D} : TupAt K F H a vs → Reps vs ds → Rep (.ref a) (.tup ds)
  | lst {a : Addr} {vs : List V} {ds : List D} : F a → H a = some (.lst vs) → Reps vs ds → Rep (.ref a) (.lst ds)
  | well : Rep (.ref w) .well
  | raw (a : Addr) : Rep (.ref a) (.raw a)
  | exc0 {a : Addr} {cls f : Str} : Rep (.ref a) (.exc a none cls f [])
  | exc1 {a dd : Addr} {cls f : Str} {v : V} {d : D} : F dd → H dd = some (.xd [(f, v)]) → Rep v d → Rep (.ref a) (.exc a (some dd) cls f [d])
inductive Reps : List V → List D → Prop
  | nil : Reps [] []
  | cons {v : V} {d : D} {vs : List V} {ds : List D} : Rep v d → Reps vs ds → Reps (v :: vs) (d :: ds)
end
end
/-- a sequence that is read at once -/
inductive Sq where
  | t (xs : List D) | l (xs : List D)
def Sq.xs : Sq → List D
  | .t xs => xs
  | .l xs => xs
def SqAt (K : PySem.W.Frag) (w : Addr) (F : Addr → Prop) (H : Hp) (a : Addr) (vs : List V) : Sq → Prop
  | .t _ => TupAt K F H a vs
  | .l _ => a ≠ w ∧ H a = some (.lst vs)
/-- the well: three ints, the first one not below nought, the last one at most n -/
def WellAt (H : Hp) (w : Addr) (n : Nat) : Prop := ∃ x y z : Int, H w = some (.lst [.int x, .int y, .int z]) ∧ 0 ≤ x ∧ x.natAbs < 2 ^ 2000000 ∧ y.natAbs < 2 ^ 200 ∧ 0 ≤ z ∧ z ≤ n
structure Base (w : Addr) (F : Addr → Prop) (H : Hp) (n : Nat) : Prop where
  well : WellAt H w n
  nw : ¬ F w
  dom : ∀ a, F a → ∃ o, H a = some o
/-- an expression's step: all that was tracked stands, but the well -/
structure StepE (w : Addr) (F : Addr → Prop) (H : Hp) (F' : Addr → Prop) (H' : Hp) : Prop where
  keep : ∀ a o, a ≠ w → H a = some o → H' a = some o
  sub : ∀ a, F a → F' a
  new : ∀ a, F' a → F a ∨ H a = none
  dom : ∀ a, H' a = none → H a = none
section
variable {K : PySem.W.Frag} {w : Addr} {F F' F2 : Addr → Prop} {H H' H2 : Hp} {n m : Nat}
theorem StepE.refl : StepE w F H F H := ⟨fun _ _ _ h => h, fun _ h => h, fun _ h => .inl h, fun _ h => h⟩
theorem StepE.trans (a : StepE w F H F' H') (b : StepE w F' H' F2 H2) : StepE w F H F2 H2 where
  keep := fun x o n h => b.keep x o n (a.keep x o n h)
  sub := fun x h => b.sub x (a.sub x h)
  new := fun x h => (b.new x h).elim (a.new x) fun q => .inr (a.dom x q)
  dom := fun x h => a.dom x (b.dom x h)
theorem StepE.fz (s : StepE w F H F' H') (b : Base w F H n) {a : Addr} {o : HO} (f : F a) (h : H a = some o) : H' a = some o := s.keep a o (fun e => b.nw (e ▸ f)) h
theorem TupAt.step {a : Addr} {vs : List V} (s : StepE w F H F' H') (b : Base w F H n) (h : TupAt K F H a vs) : TupAt K F' H' a vs := by
  rcases h with ⟨f, h⟩ | h
  · exact .inl ⟨s.sub a f, s.fz b f h⟩
  · exact .inr h
theorem SqAt.step {a : Addr} {vs : List V} {q : Sq} (s : StepE w F H F' H') (b : Base w F H n) (h : SqAt K w F H a vs q) : SqAt K w F' H' a vs q := by
  cases q with
  | t xs => exact TupAt.step s b h
  | l xs => exact ⟨h.1, s.keep _ _ h.1 h.2⟩
theorem TupAt.seq {a : Addr} {vs : List V} (h : TupAt K F H a vs) : SqT K H a vs := by
  rcases h with ⟨f, h⟩ | h
  · exact .inl (.inl h)
  · exact .inr h
mutual
theorem Rep.step (s : StepE w F H F' H') (b : Base w F H n) : ∀ {v : V} {d : D}, Rep K w F H v d → Rep K w F' H' v d
  | _, _, .non => .non
  | _, _, .bl x => .bl x
  | _, _, .int x => .int x
  | _, _, .str x => .str x
  | _, _, .tup h r => .tup (h.step s b) (Reps.step s b r)
  | _, _, .lst f h r => .lst (s.sub _ f) (s.fz b f h) (Reps.step s b r)
  | _, _, .well => .well
  | _, _, .raw v => .raw v
  | _, _, .exc0 => .exc0
  | _, _, .exc1 f h r => .exc1 (s.sub _ f) (s.fz b f h) (Rep.step s b r)
theorem Reps.step (s : StepE w F H F' H') (b : Base w F H n) : ∀ {vs : List V} {ds : List D}, Reps K w F H vs ds → Reps K w F' H' vs ds
  | _, _, .nil => .nil
  | _, _, .cons r t => .cons (Rep.step s b r) (Reps.step s b t)
end
theorem Reps.length : ∀ {vs : List V} {ds : List D}, Reps K w F H vs ds → vs.length = ds.length
  | _, _, .nil => rfl
  | _, _, .cons _ t => congrArg Nat.succ (Reps.length t)
theorem Reps.get : ∀ {vs : List V} {ds : List D} {i : Nat} {d : D}, Reps K w F H vs ds → ds[i]? = some d → ∃ v, vs[i]? = some v ∧ Rep K w F H v d
  | _, _, _, _, .nil, e => by simp at e
  | _, _, 0, _, .cons r _, e => by
    have e := Option.some.inj e
    exact ⟨_, rfl, e ▸ r⟩
  | _, _, i + 1, d, .cons _ t, e => Reps.get (i := i) (d := d) t e
theorem Reps.getV : ∀ {vs : List V} {ds : List D} {i : Nat} {v : V}, Reps K w F H vs ds → vs[i]? = some v → ∃ d, ds[i]? = some d ∧ Rep K w F H v d
  | _, _, _, _, .nil, e => by simp at e
  | _, _, 0, _, .cons r _, e => by
    have e := Option.some.inj e
    exact ⟨_, rfl, e ▸ r⟩
  | _, _, i + 1, d, .cons _ t, e => Reps.getV (i := i) t e
theorem Reps.append : ∀ {vs us : List V} {ds es : List D}, Reps K w F H vs ds → Reps K w F H us es → Reps K w F H (vs ++ us) (ds ++ es)
  | _, _, _, _, .nil, s => s
  | _, _, _, _, .cons r t, s => .cons r (Reps.append t s)
theorem Reps.drop : ∀ {vs : List V} {ds : List D} (n : Nat), Reps K w F H vs ds → Reps K w F H (vs.drop n) (ds.drop n)
  | _, _, 0, h => h
  | _, _, _ + 1, .nil => .nil
  | _, _, n + 1, .cons _ t => Reps.drop n t
theorem Reps.take : ∀ {vs : List V} {ds : List D} (n : Nat), Reps K w F H vs ds → Reps K w F H (vs.take n) (ds.take n)
  | _, _, 0, _ => .nil
  | _, _, _ + 1, .nil => .nil
  | _, _, n + 1, .cons r t => .cons r (Reps.take n t)
/-- a new object that stays -/
theorem StepE.lay {p : Addr} {o : HO} (hp : H p = none) (hw : ∃ u, H w = some u) : StepE w F H (fun a => F a ∨ a = p) (upd H p o) where
  keep := fun a u _ h => by rw [upd_ne (ne_of_none h hp)]; exact h
  sub := fun a h => .inl h
  new := fun a h => h.elim .inl fun e => .inr (e ▸ hp)
  dom := fun a h => by
    by_cases e : a = p
    · rw [e, upd_same] at h; cases h
    · rw [upd_ne e] at h; exact h
/-- a new object of one's own -/
theorem StepE.layOwn {p : Addr} {o : HO} (hp : H p = none) : StepE w F H F (upd H p o) where
  keep := fun a u _ h => by rw [upd_ne (ne_of_none h hp)]; exact h
  sub := fun a h => h
  new := fun a h => .inl h
  dom := fun a h => by
    by_cases e : a = p
    · rw [e, upd_same] at h; cases h
    · rw [upd_ne e] at h; exact h
theorem WellAt.there {w : Addr} {n : Nat} (h : WellAt H w n) : ∃ u, H w = some u := let ⟨_, _, _, h, _⟩ := h; ⟨_, h⟩
theorem WellAt.mono (h : WellAt H w n) (k : n ≤ m) : WellAt H w m := by
  obtain ⟨x, y, z, h1, h2, h3, h4, h5, h6⟩ := h
  exact ⟨x, y, z, h1, h2, h3, h4, h5, by omega⟩
theorem Base.mono (b : Base w F H n) (k : n ≤ m) : Base w F H m := ⟨b.well.mono k, b.nw, b.dom⟩
theorem Base.pne (b : Base w F H n) {p : Addr} (hp : H p = none) : p ≠ w := fun e => by
  obtain ⟨u, h⟩ := b.well.there
  rw [← e, hp] at h
  cases h
theorem Base.pnf (b : Base w F H n) {p : Addr} (hp : H p = none) : ¬ F p := fun f => by
  obtain ⟨u, h⟩ := b.dom p f
  rw [hp] at h
  cases h
theorem Base.lay (b : Base w F H n) {p : Addr} {o : HO} (hp : H p = none) : Base w (fun a => F a ∨ a = p) (upd H p o) n := by
  refine ⟨?_, fun h => h.elim b.nw fun e => b.pne hp e.symm, fun a h => ?_⟩
  · obtain ⟨x, y, z, h1, h2⟩ := b.well
    exact ⟨x, y, z, by rw [upd_ne (b.pne hp).symm]; exact h1, h2⟩
  · by_cases e : a = p
    · exact ⟨o, by rw [e, upd_same]⟩
    · rw [upd_ne e]
      exact b.dom a (h.elim id fun z => absurd z e)
theorem Base.layOwn (b : Base w F H n) {p : Addr} {o : HO} (hp : H p = none) : Base w F (upd H p o) n := by
  refine ⟨?_, b.nw, fun a h => ?_⟩
  · obtain ⟨x, y, z, h1, h2⟩ := b.well
    exact ⟨x, y, z, by rw [upd_ne (b.pne hp).symm]; exact h1, h2⟩
  · have e : a ≠ p := fun e => b.pnf hp (e ▸ h)
    rw [upd_ne e]
    exact b.dom a h
/-- an own list is frozen -/
theorem StepE.freeze {p : Addr} (hp : H p = none) : StepE w F H (fun a => F a ∨ a = p) H := ⟨fun _ _ _ h => h, fun _ h => .inl h, fun a h => h.elim .inl fun e => .inr (e ▸ hp), fun _ h => h⟩
end

/-! ## the frame -/
structure SlotOk (K : PySem.W.Frag) (w : Addr) (F : Addr → Prop) (H : Hp) (v : Option V) (xs : List D) (a : Addr) : Prop where
  at_ : v = some (.ref a)
  nf : ¬ F a
  nw : a ≠ w
  h : ∃ vs, H a = some (.lst vs) ∧ Reps K w F H vs xs
/-- the slots' data; own lists lie apart -/
structure REnv (K : PySem.W.Frag) (w : Addr) (F : Addr → Prop) (H : Hp) (σ : St) (ρ : DEnv) : Prop where
  len : σ.length = ρ.length
  sh : ∀ (i : Nat) (d : D), ρ[i]? = some (Slot.sh d) → ∃ v, σ[i]? = some (some v) ∧ Rep K w F H v d
  own : ∀ (i : Nat) (xs : List D), ρ[i]? = some (Slot.own xs) → ∃ a, SlotOk K w F H (σ[i]?.join) xs a
  apart : ∀ (i j : Nat) (xs ys : List D) (a : Addr), i ≠ j → ρ[i]? = some (Slot.own xs) → ρ[j]? = some (Slot.own ys) → σ[i]? = some (some (V.ref a)) → σ[j]? ≠ some (some (V.ref a))
/-- the addresses of the own lists -/
def Own (σ : St) (ρ : DEnv) (a : Addr) : Prop := ∃ (i : Nat) (xs : List D), ρ[i]? = some (Slot.own xs) ∧ σ[i]? = some (some (V.ref a))
structure Cur (K : PySem.W.Frag) (w : Addr) (F : Addr → Prop) (H : Hp) (σ : St) (ρ : DEnv) (n : Nat) : Prop extends Base w F H n where
  env : REnv K w F H σ ρ
section
variable {K : PySem.W.Frag} {w : Addr} {F F' F2 : Addr → Prop} {H H' H2 : Hp} {n m : Nat} {σ : St} {ρ : DEnv}
theorem REnv.step (e : REnv K w F H σ ρ) (s : StepE w F H F' H') (b : Base w F H n) : REnv K w F' H' σ ρ where
  len := e.len
  sh := fun i d h => let ⟨v, h1, h2⟩ := e.sh i d h; ⟨v, h1, h2.step s b⟩
  own := fun i xs h => by
    obtain ⟨a, h1, h2, h3, vs, h4, h5⟩ := e.own i xs h
    exact ⟨a, h1, fun f => (s.new a f).elim h2 (fun q => by rw [h4] at q; cases q), h3, vs, s.keep a _ h3 h4, h5.step s b⟩
  apart := e.apart
theorem Cur.step (c : Cur K w F H σ ρ n) (s : StepE w F H F' H') (b : Base w F' H' m) : Cur K w F' H' σ ρ m := ⟨b, c.env.step s c.toBase⟩
end

/-! ## readings over data -/
section
variable (K : PySem.W.Frag) (mg : Str → Option Value)
/-- an error as it lies: its class, its dict -/
def RExc (w : Addr) (F : Addr → Prop) (H : Hp) (e : Exc) (c : Value) (dd : Option Addr) : Prop := ∃ C, mg e.cls = some (.ref C) ∧ c = .ref C ∧
  match e.arg with
  | none => dd = none
  | some (f, d) => ∃ a v, dd = some a ∧ F a ∧ H a = some (.xd [(f, v)]) ∧ Rep K w F H v d
def PostE (w : Addr) (F : Addr → Prop) (H : Hp) (Q : VK) : D → Nat → Prop := fun d n => ∀ F' H' v, StepE w F H F' H' → Base w F' H' n → Rep K w F' H' v d → Q v H'
def PostX (w : Addr) (F : Addr → Prop) (H : Hp) (E : XK) : Exc → Nat → Prop := fun e n => ∀ F' H' c dd, StepE w F H F' H' → Base w F' H' n → RExc K mg w F' H' e c dd → E c dd H'
/-- an expression -/
def tD (W : WX) (f : DEnv → T D) : TE := fun σ H Q => ∃ w F ρ n, Cur K w F H σ ρ n ∧ (f ρ).wp (PostE K w F H Q) (PostX K mg w F H fun c dd H' => W c dd σ H') n
/-- a test -/
def tDT (W : WX) (f : DEnv → T Bool) : TT := fun σ H Q => ∃ w F ρ n, Cur K w F H σ ρ n ∧ (f ρ).wp (fun b m => ∀ F' H', StepE w F H F' H' → Base w F' H' m → Q b H') (PostX K mg w F H fun c dd H' => W c dd σ H') n
/-- arguments -/
def tDA (W : WX) (f : DEnv → T (List D)) : TA := fun σ H Q => ∃ w F ρ n, Cur K w F H σ ρ n ∧ (f ρ).wp (fun ds m => ∀ F' H' vs, StepE w F H F' H' → Base w F' H' m → Reps K w F' H' vs ds → Q vs H') (PostX K mg w F H fun c dd H' => W c dd σ H') n
def tS (W : WX) (f : DEnv → T Sq) : TE := fun σ H Q => ∃ w F ρ n, Cur K w F H σ ρ n ∧ (f ρ).wp (fun s m => ∀ F' H' a vs, StepE w F H F' H' → Base w F' H' m → SqAt K w F' H' a vs s → Reps K w F' H' vs s.xs → Q (.ref a) H') (PostX K mg w F H fun c dd H' => W c dd σ H') n
/-- a new list -/
def tN (W : WX) (f : DEnv → T (List D)) : TE := fun σ H Q => ∃ w F ρ n, Cur K w F H σ ρ n ∧ (f ρ).wp (fun ds m => ∀ F' H' p vs, StepE w F H F' H' → Base w F' H' m → H p = none → ¬ F' p → H' p = some (.lst vs) → Reps K w F' H' vs ds → Q (.ref p) H') (PostX K mg w F H fun c dd H' => W c dd σ H') n
end
/-- a statement's end -/
inductive Fl where
  | nx (ρ : DEnv) | rt (d : D) | rs (e : Exc) (ρ : DEnv) | bk (ρ : DEnv) | ct (ρ : DEnv)
/-- a statement's step -/
structure StepS (w : Addr) (F : Addr → Prop) (H : Hp) (O : Addr → Prop) (F' : Addr → Prop) (H' : Hp) (O' : Addr → Prop) : Prop where
  keep : ∀ a o, a ≠ w → ¬ O a → H a = some o → H' a = some o
  sub : ∀ a, F a → F' a
  new : ∀ a, F' a → F a ∨ H a = none ∨ O a
  onew : ∀ a, O' a → O a ∨ H a = none
  dom : ∀ a, H' a = none → H a = none
/-- a statement -/
def sD (K : PySem.W.Frag) (mg : Str → Option Value) (W : WX) (g : DEnv → T Fl) : TS := fun D σ H => ∃ w F ρ n, Cur K w F H σ ρ n ∧ (g ρ).wp (fun fl m => match fl with
  | .nx ρ' => ∀ F' H' σ', StepS w F H (Own σ ρ) F' H' (Own σ' ρ') → Cur K w F' H' σ' ρ' m → D.nx σ' H'
  | .bk ρ' => ∀ F' H' σ', StepS w F H (Own σ ρ) F' H' (Own σ' ρ') → Cur K w F' H' σ' ρ' m → D.bk σ' H'
  | .ct ρ' => ∀ F' H' σ', StepS w F H (Own σ ρ) F' H' (Own σ' ρ') → Cur K w F' H' σ' ρ' m → D.ct σ' H'
  | .rt d => ∀ F' H' v, StepS w F H (Own σ ρ) F' H' (fun _ => False) → Base w F' H' m → Rep K w F' H' v d → D.rt v H'
  | .rs e ρ' => ∀ F' H' σ' c dd, StepS w F H (Own σ ρ) F' H' (Own σ' ρ') → Cur K w F' H' σ' ρ' m → RExc K mg w F' H' e c dd → W c dd σ' H') (fun _ _ => False) n
section
variable {w : Addr} {F F' F2 O O' O2 : Addr → Prop} {H H' H2 : Hp}
theorem StepS.refl : StepS w F H O F H O := ⟨fun _ _ _ _ h => h, fun _ h => h, fun _ h => .inl h, fun _ h => .inl h, fun _ h => h⟩
theorem StepS.trans (a : StepS w F H O F' H' O') (b : StepS w F' H' O' F2 H2 O2) : StepS w F H O F2 H2 O2 where
  keep := fun x o n h1 h => b.keep x o n (fun q => (a.onew x q).elim h1 fun z => by rw [h] at z; cases z) (a.keep x o n h1 h)
  sub := fun x h => b.sub x (a.sub x h)
  new := fun x h => by
    rcases b.new x h with q | q | q
    · exact a.new x q
    · exact .inr (.inl (a.dom x q))
    · exact (a.onew x q).elim (fun z => .inr (.inr z)) fun z => .inr (.inl z)
  onew := fun x h => by
    rcases b.onew x h with q | q
    · exact a.onew x q
    · exact .inr (a.dom x q)
  dom := fun x h => a.dom x (b.dom x h)
theorem StepE.s (s : StepE w F H F' H') : StepS w F H O F' H' O := ⟨fun x o n _ h => s.keep x o n h, s.sub, fun x h => (s.new x h).elim .inl fun q => .inr (.inl q), fun _ h => .inl h, s.dom⟩
theorem StepS.e (s : StepS w F H (fun _ => False) F' H' O') : StepE w F H F' H' := ⟨fun x o n h => s.keep x o n (fun q => q) h, s.sub, fun x h => by
  rcases s.new x h with q | q | q
  · exact .inl q
  · exact .inr q
  · exact q.elim, s.dom⟩
end
end AL
namespace AL
open PySem PySem.Spec PyProof.Rows L2
/-! ## rules of expressions -/
theorem PE.of {X : Cx} {e : Expr} {t t' : TE} (h : PE X e t) (k : ∀ σ H Q, t' σ H Q → t σ H Q) : PE X e t' := ⟨fun pins s σ H Q I q => h.run pins s σ H Q I (k σ H Q q)⟩
theorem PT.of {X : Cx} {e : Expr} {t t' : TT} (h : PT X e t) (k : ∀ σ H Q, t' σ H Q → t σ H Q) : PT X e t' := ⟨fun pins s σ H Q I q => h.run pins s σ H Q I (k σ H Q q)⟩
theorem PA.of {X : Cx} {es : List Expr} {t t' : TA} (h : PA X es t) (k : ∀ σ H Q, t' σ H Q → t σ H Q) : PA X es t' := ⟨fun pos pins s σ H Q I q => h.run pos pins s σ H Q I (k σ H Q q)⟩
theorem PS.of {X : Cx} {st : Stmt} {t t' : TS} (h : PS X st t) (k : ∀ D σ H, t' D σ H → t D σ H) : PS X st t' := ⟨fun pins s σ H D I q => h.run pins s σ H D I (k D σ H q)⟩
theorem PSs.of {X : Cx} {st : List Stmt} {t t' : TS} (h : PSs X st t) (k : ∀ D σ H, t' D σ H → t D σ H) : PSs X st t' := ⟨fun pins s σ H D I q => h.run pins s σ H D I (k D σ H q)⟩
section
variable {K : PySem.W.Frag} {mg : Str → Option Value} {w : Addr} {F F' : Addr → Prop} {H H' : Hp} {Q : VK} {E : XK} {n m : Nat} {d : D} {e : Exc}
theorem PostE.back (s : StepE w F H F' H') (p : PostE K w F H Q d n) : PostE K w F' H' Q d n := fun F2 H2 v s2 b r => p F2 H2 v (s.trans s2) b r
theorem PostX.back (s : StepE w F H F' H') (p : PostX K mg w F H E e n) : PostX K mg w F' H' E e n := fun F2 H2 c dd s2 b r => p F2 H2 c dd (s.trans s2) b r
end
section
variable {X : Cx} {W : WX}
/-- what the reading of a part gives, for the next one -/
theorem tD.go {f : DEnv → T D} {σ : St} {H : Hp} {Q : VK} {w : Addr} {F : Addr → Prop} {ρ : DEnv} {n : Nat} {E : Exc → Nat → Prop} {R : D → Nat → Prop} (c : Cur X.K w F H σ ρ n) (h : (f ρ).wp R E n)
    (hE : ∀ e m, E e m → PostX X.K X.mg w F H (fun c dd H' => W c dd σ H') e m)
    (hR : ∀ d m, R d m → ∀ F' H' v, StepE w F H F' H' → Cur X.K w F' H' σ ρ m → Rep X.K w F' H' v d → Q v H') : tD X.K X.mg W f σ H Q :=
  ⟨w, F, ρ, n, c, T.wp_mono (fun d m r F' H' v s b p => hR d m r F' H' v s (c.step s b) p) hE h⟩
/-! ### constants, names -/
def dC (d : D) : DEnv → T D := fun _ => .ok d
theorem de_c {e : Expr} {v : V} {d : D} (h : PE X e (tC v)) (r : ∀ w F H, Rep X.K w F H v d) : PE X e (tD X.K X.mg W (dC d)) := PE.of h fun σ H Q ⟨w, F, ρ, n, c, q⟩ => q F H v .refl c.toBase (r w F H)
theorem de_int {i j pos} : PE X (.Constant (.int i) j pos) (tD X.K X.mg W (dC (.int i))) := de_c pe_int fun _ _ _ => .int i
theorem de_bl {i j pos} : PE X (.Constant (.bool i) j pos) (tD X.K X.mg W (dC (.bl i))) := de_c pe_bl fun _ _ _ => .bl i
theorem de_non {j pos} : PE X (.Constant .none j pos) (tD X.K X.mg W (dC .non)) := de_c pe_non fun _ _ _ => .non
theorem de_str {i j pos} : PE X (.Constant (.str i) j pos) (tD X.K X.mg W (dC (.str i))) := de_c pe_str fun _ _ _ => .str i
def dV (i : Nat) : DEnv → T D := fun ρ => match ρ[i]? with
  | some (.sh d) => .ok d
  | _ => .fail
theorem de_var {e : Expr} (i : Nat) (h : PE X e (tVar i)) : PE X e (tD X.K X.mg W (dV i)) := PE.of h fun σ H Q ⟨w, F, ρ, n, c, q⟩ => by
  unfold dV at q
  split at q
  · rename_i d hd
    obtain ⟨v, h1, h2⟩ := c.env.sh i d hd
    exact ⟨v, h1, q F H v .refl c.toBase h2⟩
  · exact q.elim
/-! ### two parts -/
def dB (op : D → D → T D) (a b : DEnv → T D) : DEnv → T D := fun ρ => (a ρ).bind fun x => (b ρ).bind fun y => op x y
/-- an operator over data -/
def OpOk (K : PySem.W.Frag) (r : R2) (op : D → D → T D) : Prop := ∀ (w : Addr) (F : Addr → Prop) (H : Hp) (n : Nat) (x y : V) (dx dy : D) (Q : VK) (E : Exc → Nat → Prop), Base w F H n → Rep K w F H x dx → Rep K w F H y dy → (op dx dy).wp (PostE K w F H Q) E n → r x y H Q
theorem two {a b : Expr} {fa fb : DEnv → T D} {r : R2} {op : D → D → T D} (ho : OpOk X.K r op) {σ : St} {H : Hp} {Q : VK} (h : tD X.K X.mg W (dB op fa fb) σ H Q) : tOp r (tD X.K X.mg W fa) (tD X.K X.mg W fb) σ H Q := by
  obtain ⟨w, F, ρ, n, c, q⟩ := h
  refine tD.go c (T.wp_bind _ _ |>.mp q) (fun _ _ h => h) fun dx m1 q1 F1 H1 vx s1 c1 rx => ?_
  refine tD.go c1 (T.wp_bind _ _ |>.mp q1) (fun _ _ h => h.back s1) fun dy m2 q2 F2 H2 vy s2 c2 ry => ?_
  exact ho w F2 H2 m2 vx vy dx dy Q _ c2.toBase (rx.step s2 c1.toBase) ry (T.wp_mono (fun _ _ h => h.back (s1.trans s2)) (fun _ _ h => h) q2)
theorem de_bin {op : Operator} {r : R2} {f : D → D → T D} {a b : Expr} {fa fb : DEnv → T D} {pos : Pos} (hr : OpR X (binaryOp op) r) (ho : OpOk X.K r f) (ha : PE X a (tD X.K X.mg W fa)) (hb : PE X b (tD X.K X.mg W fb)) :
    PE X (.BinOp a op b pos) (tD X.K X.mg W (dB f fa fb)) := PE.of (pe_op hr ha hb) fun _ _ _ h => two (a := a) (b := b) ho h
theorem de_cmp {op : CmpOp} {r : R2} {f : D → D → T D} {a b : Expr} {fa fb : DEnv → T D} {pos : Pos} (hr : OpR X (compareOp op) r) (ho : OpOk X.K r f) (ha : PE X a (tD X.K X.mg W fa)) (hb : PE X b (tD X.K X.mg W fb))
    (hm : behindInMarks op b = false) : PE X (.Compare a [op] [b] pos) (tD X.K X.mg W (dB f fa fb)) := PE.of (pe_cmpR hr ha hb hm) fun _ _ _ h => two (a := a) (b := b) ho h
/-! ### tests -/
def dT (f : DEnv → T D) : DEnv → T Bool := fun ρ => (f ρ).bind fun d => match d with
  | .bl b => .ok b
  | _ => .fail
theorem dt_of {e : Expr} {f : DEnv → T D} (h : PE X e (tD X.K X.mg W f)) (he : ∀ whole, isTrue e X.env whole = (do let v ← whole; standAt e.pos; holding [v] (truthy v)) := by intro _; rfl) : PT X e (tDT X.K X.mg W (dT f)) :=
  PT.of (pt_val h he) fun σ H Q ⟨w, F, ρ, n, c, q⟩ => by
    refine tD.go c (T.wp_bind _ _ |>.mp q) (fun _ _ h => h) fun d m q1 F1 H1 v s1 c1 r => ?_
    cases d with
    | bl b => cases r; exact ⟨b, rfl, q1 F1 H1 s1 c1.toBase⟩
    | _ => exact q1.elim
theorem dt_cmp {op : CmpOp} {r : R2} {f : D → D → T D} {a b : Expr} {fa fb : DEnv → T D} {pos : Pos} (hr : OpR X (compareOp op) r) (ho : OpOk X.K r f) (ha : PE X a (tD X.K X.mg W fa)) (hb : PE X b (tD X.K X.mg W fb))
    (hm : behindInMarks op b = false) : PT X (.Compare a [op] [b] pos) (tDT X.K X.mg W (dT (dB f fa fb))) :=
  PT.of (pt_cmpR hr ha hb hm) fun σ H Q ⟨w, F, ρ, n, c, q⟩ => two (a := a) (b := b) (op := f) ho ⟨w, F, ρ, n, c, T.wp_mono (fun d m h F1 H1 v s1 b1 r => by
    cases d with
    | bl b => cases r; exact ⟨b, rfl, h F1 H1 s1 b1⟩
    | _ => exact h.elim) (fun _ _ h => h) (T.wp_bind _ _ |>.mp q)⟩
theorem tDT.go {f : DEnv → T Bool} {σ : St} {H : Hp} {Q : Bool → Hp → Prop} {w : Addr} {F : Addr → Prop} {ρ : DEnv} {n : Nat} {E : Exc → Nat → Prop} {R : Bool → Nat → Prop} (c : Cur X.K w F H σ ρ n) (h : (f ρ).wp R E n)
    (hE : ∀ e m, E e m → PostX X.K X.mg w F H (fun c dd H' => W c dd σ H') e m)
    (hR : ∀ b m, R b m → ∀ F' H', StepE w F H F' H' → Cur X.K w F' H' σ ρ m → Q b H') : tDT X.K X.mg W f σ H Q :=
  ⟨w, F, ρ, n, c, T.wp_mono (fun d m r F' H' s b => hR d m r F' H' s (c.step s b)) hE h⟩
def dTAnd (a b : DEnv → T Bool) : DEnv → T Bool := fun ρ => (a ρ).bind fun x => if x then b ρ else .ok false
def dTOr (a b : DEnv → T Bool) : DEnv → T Bool := fun ρ => (a ρ).bind fun x => if x then .ok true else b ρ
def dTNot (a : DEnv → T Bool) : DEnv → T Bool := fun ρ => (a ρ).bind fun x => .ok (!x)
theorem dw_and1 {a : Expr} {f : DEnv → T Bool} {pos : Pos} (h : PT X a (tDT X.K X.mg W f)) : PW X (.BoolOp .And [a] pos) (tDT X.K X.mg W f) := pw_and1 h
theorem dw_or1 {a : Expr} {f : DEnv → T Bool} {pos : Pos} (h : PT X a (tDT X.K X.mg W f)) : PW X (.BoolOp .Or [a] pos) (tDT X.K X.mg W f) := pw_or1 h
theorem PW.of {X : Cx} {e : Expr} {t t' : TT} (h : PW X e t) (k : ∀ σ H Q, t' σ H Q → t σ H Q) : PW X e t' := ⟨fun whole pins s σ H Q I q => h.run whole pins s σ H Q I (k σ H Q q)⟩
theorem dw_and {a b : Expr} {rest : List Expr} {fa fb : DEnv → T Bool} {pos : Pos} (ha : PT X a (tDT X.K X.mg W fa)) (hb : PW X (.BoolOp .And (b :: rest) pos) (tDT X.K X.mg W fb)) : PW X (.BoolOp .And (a :: b :: rest) pos) (tDT X.K X.mg W (dTAnd fa fb)) :=
  PW.of (pw_and ha hb) fun σ H Q ⟨w, F, ρ, n, c, q⟩ => tDT.go c (T.wp_bind _ _ |>.mp q) (fun _ _ h => h) fun x m q1 F1 H1 s1 c1 => by
    cases x with
    | true => exact tDT.go c1 q1 (fun _ _ h => h.back s1) fun y m2 q2 F2 H2 s2 c2 => q2 F2 H2 (s1.trans s2) c2.toBase
    | false => exact q1 F1 H1 s1 c1.toBase
theorem dw_or {a b : Expr} {rest : List Expr} {fa fb : DEnv → T Bool} {pos : Pos} (ha : PT X a (tDT X.K X.mg W fa)) (hb : PW X (.BoolOp .Or (b :: rest) pos) (tDT X.K X.mg W fb)) : PW X (.BoolOp .Or (a :: b :: rest) pos) (tDT X.K X.mg W (dTOr fa fb)) :=
  PW.of (pw_or ha hb) fun σ H Q ⟨w, F, ρ, n, c, q⟩ => tDT.go c (T.wp_bind _ _ |>.mp q) (fun _ _ h => h) fun x m q1 F1 H1 s1 c1 => by
    cases x with
    | false => exact tDT.go c1 q1 (fun _ _ h => h.back s1) fun y m2 q2 F2 H2 s2 c2 => q2 F2 H2 (s1.trans s2) c2.toBase
    | true => exact q1 F1 H1 s1 c1.toBase
theorem dt_w {e : Expr} {f : DEnv → T Bool} (h : PW X e (tDT X.K X.mg W f)) : PT X e (tDT X.K X.mg W f) := h.pt
theorem dt_not {a : Expr} {f : DEnv → T Bool} {pos : Pos} (h : PT X a (tDT X.K X.mg W f)) : PT X (.UnaryOp .Not a pos) (tDT X.K X.mg W (dTNot f)) :=
  PT.of (pt_not h) fun σ H Q ⟨w, F, ρ, n, c, q⟩ => tDT.go c (T.wp_bind _ _ |>.mp q) (fun _ _ h => h) fun x m q1 F1 H1 s1 c1 => q1 F1 H1 s1 c1.toBase
/-! ### and, or, not, if as values -/
def dAnd (a b : DEnv → T D) : DEnv → T D := fun ρ => (a ρ).bind fun x => match x with
  | .bl true => b ρ
  | .bl false => .ok (.bl false)
  | _ => .fail
def dOr (a b : DEnv → T D) : DEnv → T D := fun ρ => (a ρ).bind fun x => match x with
  | .bl false => b ρ
  | .bl true => .ok (.bl true)
  | _ => .fail
def dNot (a : DEnv → T D) : DEnv → T D := fun ρ => (a ρ).bind fun x => match x with
  | .bl b => .ok (.bl (!b))
  | _ => .fail
def dIf (t : DEnv → T Bool) (a b : DEnv → T D) : DEnv → T D := fun ρ => (t ρ).bind fun x => if x then a ρ else b ρ
theorem de_one {op} {a : Expr} {f : DEnv → T D} {pos : Pos} (h : PE X a (tD X.K X.mg W f)) : PE X (.BoolOp op [a] pos) (tD X.K X.mg W f) := pe_one h
theorem de_and {a b : Expr} {rest : List Expr} {fa fb : DEnv → T D} {pos : Pos} (ha : PE X a (tD X.K X.mg W fa)) (hb : PE X (.BoolOp .And (b :: rest) pos) (tD X.K X.mg W fb)) : PE X (.BoolOp .And (a :: b :: rest) pos) (tD X.K X.mg W (dAnd fa fb)) :=
  PE.of (pe_and ha hb) fun σ H Q ⟨w, F, ρ, n, c, q⟩ => tD.go c (T.wp_bind _ _ |>.mp q) (fun _ _ h => h) fun x m q1 F1 H1 v s1 c1 r => by
    cases x with
    | bl b =>
      cases r
      refine ⟨b, rfl, ?_⟩
      cases b with
      | true => exact tD.go c1 q1 (fun _ _ h => h.back s1) fun y m2 q2 F2 H2 v2 s2 c2 r2 => q2 F2 H2 v2 (s1.trans s2) c2.toBase r2
      | false => exact q1 F1 H1 (.bl false) s1 c1.toBase (.bl false)
    | _ => exact q1.elim
theorem de_or {a b : Expr} {rest : List Expr} {fa fb : DEnv → T D} {pos : Pos} (ha : PE X a (tD X.K X.mg W fa)) (hb : PE X (.BoolOp .Or (b :: rest) pos) (tD X.K X.mg W fb)) : PE X (.BoolOp .Or (a :: b :: rest) pos) (tD X.K X.mg W (dOr fa fb)) :=
  PE.of (pe_or ha hb) fun σ H Q ⟨w, F, ρ, n, c, q⟩ => tD.go c (T.wp_bind _ _ |>.mp q) (fun _ _ h => h) fun x m q1 F1 H1 v s1 c1 r => by
    cases x with
    | bl b =>
      cases r
      refine ⟨b, rfl, ?_⟩
      cases b with
      | false => exact tD.go c1 q1 (fun _ _ h => h.back s1) fun y m2 q2 F2 H2 v2 s2 c2 r2 => q2 F2 H2 v2 (s1.trans s2) c2.toBase r2
      | true => exact q1 F1 H1 (.bl true) s1 c1.toBase (.bl true)
    | _ => exact q1.elim
theorem de_not {a : Expr} {f : DEnv → T D} {pos : Pos} (h : PE X a (tD X.K X.mg W f)) : PE X (.UnaryOp .Not a pos) (tD X.K X.mg W (dNot f)) :=
  PE.of (pe_not h) fun σ H Q ⟨w, F, ρ, n, c, q⟩ => tD.go c (T.wp_bind _ _ |>.mp q) (fun _ _ h => h) fun x m q1 F1 H1 v s1 c1 r => by
    cases x with
    | bl b => cases r; exact ⟨b, rfl, q1 F1 H1 _ s1 c1.toBase (.bl _)⟩
    | _ => exact q1.elim
theorem de_if {t a b : Expr} {ft : DEnv → T Bool} {fa fb : DEnv → T D} {pos : Pos} (ht : PT X t (tDT X.K X.mg W ft)) (ha : PE X a (tD X.K X.mg W fa)) (hb : PE X b (tD X.K X.mg W fb)) : PE X (.IfExp t a b pos) (tD X.K X.mg W (dIf ft fa fb)) :=
  PE.of (pe_ifExp ht ha hb) fun σ H Q ⟨w, F, ρ, n, c, q⟩ => tDT.go c (T.wp_bind _ _ |>.mp q) (fun _ _ h => h) fun x m q1 F1 H1 s1 c1 => by
    cases x with
    | true => exact tD.go c1 q1 (fun _ _ h => h.back s1) fun y m2 q2 F2 H2 v2 s2 c2 r2 => q2 F2 H2 v2 (s1.trans s2) c2.toBase r2
    | false => exact tD.go c1 q1 (fun _ _ h => h.back s1) fun y m2 q2 F2 H2 v2 s2 c2 r2 => q2 F2 H2 v2 (s1.trans s2) c2.toBase r2
/-! ### arguments, displays -/
def dNil : DEnv → T (List D) := fun _ => .ok []
def dCons (a : DEnv → T D) (b : DEnv → T (List D)) : DEnv → T (List D) := fun ρ => (a ρ).bind fun x => (b ρ).bind fun r => .ok (x :: r)
theorem da_nil : PA X [] (tDA X.K X.mg W dNil) := PA.of pa_nil fun σ H Q ⟨w, F, ρ, n, c, q⟩ => q F H [] .refl c.toBase .nil
theorem tDA.go {f : DEnv → T (List D)} {σ : St} {H : Hp} {Q : List V → Hp → Prop} {w : Addr} {F : Addr → Prop} {ρ : DEnv} {n : Nat} {E : Exc → Nat → Prop} {R : List D → Nat → Prop} (c : Cur X.K w F H σ ρ n) (h : (f ρ).wp R E n)
    (hE : ∀ e m, E e m → PostX X.K X.mg w F H (fun c dd H' => W c dd σ H') e m)
    (hR : ∀ ds m, R ds m → ∀ F' H' vs, StepE w F H F' H' → Cur X.K w F' H' σ ρ m → Reps X.K w F' H' vs ds → Q vs H') : tDA X.K X.mg W f σ H Q :=
  ⟨w, F, ρ, n, c, T.wp_mono (fun d m r F' H' v s b p => hR d m r F' H' v s (c.step s b) p) hE h⟩
theorem da_cons {e : Expr} {es : List Expr} {f : DEnv → T D} {g : DEnv → T (List D)} (h : PE X e (tD X.K X.mg W f)) (hr : PA X es (tDA X.K X.mg W g)) (hs : starEach (e :: es) X.env = (false, eval e X.env) :: starEach es X.env := by rfl) :
    PA X (e :: es) (tDA X.K X.mg W (dCons f g)) := PA.of (pa_cons h hr hs) fun σ H Q ⟨w, F, ρ, n, c, q⟩ =>
  tD.go c (T.wp_bind _ _ |>.mp q) (fun _ _ h => h) fun d m q1 F1 H1 v s1 c1 r => tDA.go c1 (T.wp_bind _ _ |>.mp q1) (fun _ _ h => h.back s1) fun ds m2 q2 F2 H2 vs s2 c2 r2 =>
    q2 F2 H2 (v :: vs) (s1.trans s2) c2.toBase (.cons (r.step s2 c1.toBase) r2)
def dTup (a : DEnv → T (List D)) : DEnv → T D := fun ρ => (a ρ).bind fun xs => if xs.length ≤ sizeLine then .ok (.tup xs) else .fail
def dLst (a : DEnv → T (List D)) : DEnv → T (List D) := fun ρ => (a ρ).bind fun xs => if xs.length ≤ sizeLine then .ok xs else .fail
theorem TupAt.lay {K : PySem.W.Frag} {w : Addr} {F : Addr → Prop} {H : Hp} {p : Addr} {vs : List V} : TupAt K (fun a => F a ∨ a = p) (upd H p (.tup vs)) p vs := .inl ⟨.inr rfl, upd_same⟩
theorem tup_new {K : PySem.W.Frag} {w : Addr} {F : Addr → Prop} {H : Hp} {n : Nat} {vs : List V} {ds : List D} {p : Addr} (b : Base w F H n) (r : Reps K w F H vs ds) (hp : H p = none) :
    StepE w F H (fun a => F a ∨ a = p) (upd H p (.tup vs)) ∧ Base w (fun a => F a ∨ a = p) (upd H p (.tup vs)) n ∧ Rep K w (fun a => F a ∨ a = p) (upd H p (.tup vs)) (.ref p) (.tup ds) :=
  have s := StepE.lay (w := w) (F := F) (o := .tup vs) hp b.well.there
  ⟨s, b.lay hp, .tup (TupAt.lay (w := w)) (r.step s b)⟩
theorem de_tup {es : List Expr} {x1} {pos : Pos} {f : DEnv → T (List D)} (h : PA X es (tDA X.K X.mg W f)) : PE X (.Tuple es x1 pos) (tD X.K X.mg W (dTup f)) := PE.of (pe_tup h) fun σ H Q ⟨w, F, ρ, n, c, q⟩ =>
  tDA.go c (T.wp_bind _ _ |>.mp q) (fun _ _ h => h) fun ds m q1 F1 H1 vs s1 c1 r => by
    split at q1
    · rename_i hz
      refine ⟨by rw [r.length]; exact hz, fun p hp => ?_⟩
      obtain ⟨s2, b2, r2⟩ := tup_new c1.toBase r hp
      exact q1 _ _ _ (s1.trans s2) b2 r2
    · exact q1.elim
/-- a new list -/
theorem dn_lst {es : List Expr} {pos : Pos} {f : DEnv → T (List D)} (h : PA X es (tDA X.K X.mg W f)) : PE X (.List es pos) (tN X.K X.mg W (dLst f)) := PE.of (pe_lst h) fun σ H Q ⟨w, F, ρ, n, c, q⟩ =>
  tDA.go c (T.wp_bind _ _ |>.mp q) (fun _ _ h => h) fun ds m q1 F1 H1 vs s1 c1 r => by
    split at q1
    · rename_i hz
      refine ⟨by rw [r.length]; exact hz, fun p hp => ?_⟩
      have s2 := StepE.layOwn (w := w) (F := F1) (o := .lst vs) hp
      exact q1 F1 _ p vs (s1.trans s2) (c1.toBase.layOwn hp) (s1.dom p hp) (c1.toBase.pnf hp) upd_same (r.step s2 c1.toBase)
    · exact q1.elim
/-- a new list that stays as it is -/
def dFz (f : DEnv → T (List D)) : DEnv → T D := fun ρ => (f ρ).bind fun xs => .ok (.lst xs)
theorem StepE.freezeL {w : Addr} {F : Addr → Prop} {H F1 : _} {H1 : Hp} {p : Addr} (s : StepE w F H F1 H1) (hp : H p = none) : StepE w F H (fun a => F1 a ∨ a = p) H1 :=
  ⟨s.keep, fun a h => .inl (s.sub a h), fun a h => h.elim (s.new a) fun e => .inr (e ▸ hp), s.dom⟩
mutual
theorem Rep.sub {K : PySem.W.Frag} {w : Addr} {F F' : Addr → Prop} {H : Hp} (h : ∀ a, F a → F' a) : ∀ {v : V} {d : D}, Rep K w F H v d → Rep K w F' H v d
  | _, _, .non => .non
  | _, _, .bl x => .bl x
  | _, _, .int x => .int x
  | _, _, .str x => .str x
  | _, _, .tup q r => .tup (q.imp (fun z => ⟨h _ z.1, z.2⟩) id) (Reps.sub h r)
  | _, _, .lst f q r => .lst (h _ f) q (Reps.sub h r)
  | _, _, .well => .well
  | _, _, .raw v => .raw v
  | _, _, .exc0 => .exc0
  | _, _, .exc1 f q r => .exc1 (h _ f) q (Rep.sub h r)
theorem Reps.sub {K : PySem.W.Frag} {w : Addr} {F F' : Addr → Prop} {H : Hp} (h : ∀ a, F a → F' a) : ∀ {vs : List V} {ds : List D}, Reps K w F H vs ds → Reps K w F' H vs ds
  | _, _, .nil => .nil
  | _, _, .cons r t => .cons (Rep.sub h r) (Reps.sub h t)
end
theorem Base.fz {w : Addr} {F : Addr → Prop} {H : Hp} {n : Nat} {p : Addr} {o : HO} (b : Base w F H n) (nw : p ≠ w) (hp : H p = some o) : Base w (fun a => F a ∨ a = p) H n :=
  ⟨b.well, fun h => h.elim b.nw fun e => nw e.symm, fun a h => h.elim (b.dom a) fun e => ⟨o, e ▸ hp⟩⟩
theorem de_fz {e : Expr} {f : DEnv → T (List D)} (h : PE X e (tN X.K X.mg W f)) : PE X e (tD X.K X.mg W (dFz f)) := PE.of h fun σ H Q ⟨w, F, ρ, n, c, q⟩ =>
  ⟨w, F, ρ, n, c, T.wp_mono (fun ds m q1 F1 H1 p vs s1 b1 hp nf h1 r => q1 (fun a => F1 a ∨ a = p) H1 (.ref p) (s1.freezeL hp) (b1.fz (c.toBase.pne hp) h1) (.lst (.inr rfl) h1 (r.sub fun _ => .inl))) (fun _ _ h => h) (T.wp_bind _ _ |>.mp q)⟩
/-! ### sequences read at once -/
def dSqV (i : Nat) : DEnv → T Sq := fun ρ => match ρ[i]? with
  | some (.sh (.tup xs)) => .ok (.t xs)
  | some (.sh (.lst xs)) => .ok (.l xs)
  | some (.own xs) => .ok (.l xs)
  | _ => .fail
theorem dq_var {e : Expr} (i : Nat) (h : PE X e (tVar i)) : PE X e (tS X.K X.mg W (dSqV i)) := PE.of h fun σ H Q ⟨w, F, ρ, n, c, q⟩ => by
  unfold dSqV at q
  split at q
  · rename_i d hd
    obtain ⟨v, h1, h2⟩ := c.env.sh i _ hd
    cases h2 with
    | tup ht hr => exact ⟨_, h1, q F H _ _ .refl c.toBase ht hr⟩
  · rename_i d hd
    obtain ⟨v, h1, h2⟩ := c.env.sh i _ hd
    cases h2 with
    | lst hf ht hr => exact ⟨_, h1, q F H _ _ .refl c.toBase ⟨fun e => c.nw (e ▸ hf), ht⟩ hr⟩
  · rename_i d hd
    obtain ⟨a, h1, h2, h3, vs, h4, h5⟩ := c.env.own i _ hd
    refine ⟨.ref a, ?_, q F H a vs .refl c.toBase ⟨h3, h4⟩ h5⟩
    cases hs : σ[i]? with
    | none => rw [hs] at h1; cases h1
    | some o => rw [hs] at h1; exact congrArg some h1
  · exact q.elim
def dSq (f : DEnv → T D) : DEnv → T Sq := fun ρ => (f ρ).bind fun d => match d with
  | .tup xs => .ok (.t xs)
  | .lst xs => .ok (.l xs)
  | _ => .fail
theorem dq_of {e : Expr} {f : DEnv → T D} (h : PE X e (tD X.K X.mg W f)) : PE X e (tS X.K X.mg W (dSq f)) := PE.of h fun σ H Q ⟨w, F, ρ, n, c, q⟩ =>
  tD.go c (T.wp_bind _ _ |>.mp q) (fun _ _ h => h) fun d m q1 F1 H1 v s1 c1 r => by
    cases r with
    | tup ht hr => exact q1 F1 H1 _ _ s1 c1.toBase ht hr
    | lst hf ht hr => exact q1 F1 H1 _ _ s1 c1.toBase ⟨fun e => c1.nw (e ▸ hf), ht⟩ hr
    | _ => exact q1.elim
def dSqN (f : DEnv → T (List D)) : DEnv → T Sq := fun ρ => (f ρ).bind fun xs => .ok (.l xs)
theorem dq_new {e : Expr} {f : DEnv → T (List D)} (h : PE X e (tN X.K X.mg W f)) : PE X e (tS X.K X.mg W (dSqN f)) := PE.of h fun σ H Q ⟨w, F, ρ, n, c, q⟩ =>
  ⟨w, F, ρ, n, c, T.wp_mono (fun ds m q1 F1 H1 p vs s1 b1 hp nf h1 r => q1 F1 H1 p vs s1 b1 ⟨c.toBase.pne hp, h1⟩ r) (fun _ _ h => h) (T.wp_bind _ _ |>.mp q)⟩
theorem tS.go {f : DEnv → T Sq} {σ : St} {H : Hp} {Q : VK} {w : Addr} {F : Addr → Prop} {ρ : DEnv} {n : Nat} {E : Exc → Nat → Prop} {R : Sq → Nat → Prop} (c : Cur X.K w F H σ ρ n) (h : (f ρ).wp R E n)
    (hE : ∀ e m, E e m → PostX X.K X.mg w F H (fun c dd H' => W c dd σ H') e m)
    (hR : ∀ s m, R s m → ∀ F' H' a vs, StepE w F H F' H' → Cur X.K w F' H' σ ρ m → SqAt X.K w F' H' a vs s → Reps X.K w F' H' vs s.xs → Q (.ref a) H') : tS X.K X.mg W f σ H Q :=
  ⟨w, F, ρ, n, c, T.wp_mono (fun d m r F' H' a v s b h1 p => hR d m r F' H' a v s (c.step s b) h1 p) hE h⟩
end
end AL
namespace AL
open PySem PySem.Spec PyProof.Rows L2
/-! ## operators over data -/
section
variable {X : Cx}
def opAdd (a b : D) : T D := match a, b with
  | .int i, .int j => .ok (.int (i + j))
  | .str x, .str y => if x.length + y.length ≤ sizeLine then .ok (.str (x ++ y)) else .fail
  | .tup xs, .tup ys => if xs.length + ys.length ≤ sizeLine then .ok (.tup (xs ++ ys)) else .fail
  | _, _ => .fail
def rAdd3 (K : PySem.W.Frag) : R2 := fun x y H Q => rI0 (fun i j => .int (i + j)) x y H Q ∨ (∃ i j, x = .str i ∧ y = .str j ∧ i.length + j.length ≤ sizeLine ∧ Q (.str (i ++ j)) H) ∨ rCatA K x y H Q
theorem or_add : OpR X (binaryOp .Add) (rAdd3 X.K) := OpR.or op_add (OpR.or op_add_str op_catA)
theorem ok_add : OpOk X.K (rAdd3 X.K) opAdd := fun w F H n x y dx dy Q E b rx ry h => by
  cases rx with
  | int i =>
    cases ry with
    | int j => exact .inl ⟨i, j, rfl, rfl, h F H _ .refl b (.int _)⟩
    | _ => exact h.elim
  | str i =>
    cases ry with
    | str j =>
      unfold opAdd at h
      dsimp only at h
      split at h
      · rename_i hz
        exact .inr (.inl ⟨i, j, rfl, rfl, hz, h F H _ .refl b (.str _)⟩)
      · exact h.elim
    | _ => exact h.elim
  | tup hx qx =>
    cases ry with
    | tup hy qy =>
      unfold opAdd at h
      dsimp only at h
      split at h
      · rename_i xs a vs1 ys c vs2 hz
        refine .inr (.inr ⟨_, _, _, _, rfl, rfl, hx.seq, hy.seq, by rw [qx.length, qy.length]; exact hz, fun e => ?_, fun _ e => ?_, fun _ _ p hp => ?_⟩)
        · subst e
          cases qx
          exact h F H _ .refl b (.tup hy qy)
        · subst e
          cases qy
          rw [List.append_nil] at h
          exact h F H _ .refl b (.tup hx qx)
        · obtain ⟨s2, b2, r2⟩ := tup_new b (qx.append qy) hp
          exact h _ _ _ s2 b2 r2
      · exact h.elim
    | _ => exact h.elim
  | _ => exact h.elim
/-- two ints -/
def opI (g : Int → Int → D) (a b : D) : T D := match a, b with
  | .int i, .int j => .ok (g i j)
  | _, _ => .fail
theorem ok_int {K : PySem.W.Frag} {g : Int → Int → V} {g' : Int → Int → D} (hg : ∀ w F H i j, Rep K w F H (g i j) (g' i j)) : OpOk K (rI0 g) (opI g') := fun w F H n x y dx dy Q E b rx ry h => by
  cases rx with
  | int i =>
    cases ry with
    | int j => exact ⟨i, j, rfl, rfl, h F H _ .refl b (hg w F H i j)⟩
    | _ => exact h.elim
  | _ => exact h.elim
/-- two ints under a condition -/
def opIC (C : Int → Int → Prop) [∀ i j, Decidable (C i j)] (g : Int → Int → D) (a b : D) : T D := match a, b with
  | .int i, .int j => if C i j then .ok (g i j) else .fail
  | _, _ => .fail
theorem ok_intC {K : PySem.W.Frag} {C : Int → Int → Prop} [∀ i j, Decidable (C i j)] {g : Int → Int → V} {g' : Int → Int → D} (hg : ∀ w F H i j, Rep K w F H (g i j) (g' i j)) : OpOk K (rI C g) (opIC C g') := fun w F H n x y dx dy Q E b rx ry h => by
  cases rx with
  | int i =>
    cases ry with
    | int j =>
      unfold opIC at h
      dsimp only at h
      split at h
      · rename_i hc
        exact ⟨i, j, rfl, rfl, hc, h F H _ .refl b (hg w F H i j)⟩
      · exact h.elim
    | _ => exact h.elim
  | _ => exact h.elim
def opSub : D → D → T D := opI fun i j => .int (i - j)
theorem ok_sub : OpOk X.K (rI0 fun i j => .int (i - j)) opSub := ok_int fun _ _ _ _ _ => .int _
noncomputable instance (i j : Int) : Decidable (CMul i j) := Classical.propDecidable _
noncomputable def opMul : D → D → T D := opIC CMul fun i j => .int (i * j)
theorem ok_mul : OpOk X.K (rI CMul fun i j => .int (i * j)) opMul := ok_intC fun _ _ _ _ _ => .int _
def opMod : D → D → T D := opIC (fun _ j => 0 < j) fun i j => .int (i % j)
theorem ok_mod : OpOk X.K (rI (fun _ j => 0 < j) fun i j => .int (i % j)) opMod := ok_intC fun _ _ _ _ _ => .int _
noncomputable instance (i j : Int) : Decidable (CDiv i j) := Classical.propDecidable _
noncomputable def opDiv : D → D → T D := opIC CDiv fun i j => .int (i / j)
theorem ok_div : OpOk X.K (rI CDiv fun i j => .int (i / j)) opDiv := ok_intC fun _ _ _ _ _ => .int _
def opLt : D → D → T D := opI fun i j => .bl (decide (i < j))
def opLe : D → D → T D := opI fun i j => .bl (decide (i ≤ j))
def opGt : D → D → T D := opI fun i j => .bl (decide (j < i))
def opGe : D → D → T D := opI fun i j => .bl (decide (j ≤ i))
theorem ok_lt : OpOk X.K (rI0 fun i j => .bl (decide (i < j))) opLt := ok_int fun _ _ _ _ _ => .bl _
theorem ok_le : OpOk X.K (rI0 fun i j => .bl (decide (i ≤ j))) opLe := ok_int fun _ _ _ _ _ => .bl _
theorem ok_gt : OpOk X.K (rI0 fun i j => .bl (decide (j < i))) opGt := ok_int fun _ _ _ _ _ => .bl _
theorem ok_ge : OpOk X.K (rI0 fun i j => .bl (decide (j ≤ i))) opGe := ok_int fun _ _ _ _ _ => .bl _
end
/-! ### equality -/
namespace D
mutual
def py : D → PyData
  | .non => .none
  | .bl b => .bool b
  | .int i => .int i
  | .str s => .str s
  | .tup xs => .tuple (pys xs)
  | .lst xs => .list (pys xs)
  | .well => .none
  | .raw _ => .none
  | .exc _ _ _ _ _ => .none
def pys : List D → List PyData
  | [] => []
  | x :: r => py x :: pys r
end
mutual
/-- nothing but data -/
def plain : D → Bool
  | .non | .bl _ | .int _ => true
  | .str s => PyData.strOk s
  | .tup xs | .lst xs => plains xs
  | .well => false
  | .raw _ => false
  | .exc _ _ _ _ _ => false
def plains : List D → Bool
  | [] => true
  | x :: r => plain x && plains r
end
mutual
theorem canLay : ∀ d : D, d.plain = true → d.py.canLay0 = true
  | .non, _ => by simp [py, PyData.canLay0]
  | .bl b, _ => by simp [py, PyData.canLay0]
  | .int i, _ => by simp [py, PyData.canLay0]
  | .str s, h => by simpa [py, PyData.canLay0, plain] using h
  | .tup xs, h => by simp only [py, PyData.canLay0]; exact canLays xs (by simpa only [plain] using h)
  | .lst xs, h => by simp only [py, PyData.canLay0]; exact canLays xs (by simpa only [plain] using h)
  | .well, h => by simp [plain] at h
  | .raw _, h => by simp [plain] at h
  | .exc _ _ _ _ _, h => by simp [plain] at h
theorem canLays : ∀ ds : List D, plains ds = true → PyData.canLayAll0 (pys ds) = true
  | [], _ => by simp [pys, PyData.canLayAll0]
  | d :: r, h => by
    simp only [plains, Bool.and_eq_true] at h
    simp only [pys, PyData.canLayAll0, Bool.and_eq_true]
    exact ⟨canLay d h.1, canLays r h.2⟩
end
end D
section
variable {K : PySem.W.Frag} {w : Addr} {F : Addr → Prop} {H : Hp}
mutual
theorem Rep.dp : ∀ {v : V} {d : D}, Rep K w F H v d → d.plain = true → Dp K H v d.py
  | _, _, .non, _ => by simp only [D.py]; exact .non
  | _, _, .bl b, _ => by simp only [D.py]; exact .bl b
  | _, _, .int i, _ => by simp only [D.py]; exact .int i
  | _, _, .str s, _ => by simp only [D.py]; exact .str s
  | _, _, .tup h r, p => by simp only [D.py]; exact .tup h.seq (Reps.dp r (by simpa only [D.plain] using p))
  | _, _, .lst f h r, p => by simp only [D.py]; exact .lst (SqL.of h) (Reps.dp r (by simpa only [D.plain] using p))
  | _, _, .well, p => by simp [D.plain] at p
  | _, _, .raw _, p => by simp [D.plain] at p
  | _, _, .exc0, p => by simp [D.plain] at p
  | _, _, .exc1 _ _ _, p => by simp [D.plain] at p
theorem Reps.dp : ∀ {vs : List V} {ds : List D}, Reps K w F H vs ds → D.plains ds = true → DpAll K H vs (D.pys ds)
  | _, _, .nil, _ => by simp only [D.pys]; exact .nil
  | _, _, .cons r t, p => by
    simp only [D.plains, Bool.and_eq_true] at p
    simp only [D.pys]
    exact .cons (Rep.dp r p.1) (Reps.dp t p.2)
end
end
section
variable {X : Cx}
def rEqP (K : PySem.W.Frag) (g : Bool → Bool) : R2 := fun x y H Q => ∃ d e, Dp K H x d ∧ Dp K H y e ∧ d.canLay0 = true ∧ e.canLay0 = true ∧ min d.depth e.depth ≤ 64 ∧ Q (.bl (g (PyData.eqv d e))) H
/-- two texts -/
def rStr2 (g : Bool → Bool) : R2 := fun x y H Q => ∃ s t, x = .str s ∧ y = .str t ∧ Q (.bl (g (decide (s = t)))) H
def rEqS (K : PySem.W.Frag) (g : Bool → Bool) : R2 := fun x y H Q => rStr2 g x y H Q ∨ rEqP K g x y H Q
theorem str_dec {s t : Str} : decide (V.str s = V.str t) = decide (s = t) := by
  by_cases e : s = t
  · subst e; simp
  · rw [decide_eq_false e, decide_eq_false fun z => e (V.str.inj z)]
theorem op_eqS2 : OpR X (compareOp .Eq) (rStr2 id) := fun pins s σ H x y v u Q I rx ry ⟨a, b, e1, e2, q⟩ => by
  subst e1 e2
  exact op_eq pins s σ H _ _ v u Q I rx ry ⟨by first | rfl | simp [scal], by rw [str_dec]; exact q⟩
theorem op_neS2 : OpR X (compareOp .NotEq) (rStr2 not) := fun pins s σ H x y v u Q I rx ry ⟨a, b, e1, e2, q⟩ => by
  subst e1 e2
  exact op_ne pins s σ H _ _ v u Q I rx ry ⟨by first | rfl | simp [scal], by rw [str_dec]; exact q⟩
theorem or_eq (hu : X.A.units + 64 < cLine) : OpR X (compareOp .Eq) (rEqS X.K id) := by
  refine OpR.or op_eqS2 ?_
  intro pins s σ H x y v u Q I rx ry h
  obtain ⟨d, e, hd, he, sd, se, hm, q⟩ := h
  obtain ⟨as, r1⟩ := Dp.reads I d x v hd rx
  obtain ⟨bs, r2⟩ := Dp.reads I e y u he ry
  exact SeqAt.compareEq_reads r1 r2 sd se (by omega) ⟨.bl _, H, I, rfl, q⟩
theorem or_ne (hu : X.A.units + 64 < cLine) : OpR X (compareOp .NotEq) (rEqS X.K not) := by
  refine OpR.or op_neS2 ?_
  intro pins s σ H x y v u Q I rx ry h
  obtain ⟨d, e, hd, he, sd, se, hm, q⟩ := h
  obtain ⟨as, r1⟩ := Dp.reads I d x v hd rx
  obtain ⟨bs, r2⟩ := Dp.reads I e y u he ry
  exact SeqAt.compareNe_reads r1 r2 sd se (by omega) ⟨.bl _, H, I, rfl, q⟩
/-- two data compared: True is 1 -/
def opEqG (g : Bool → Bool) (a b : D) : T D := match a, b with
  | .str s, .str t => .ok (.bl (g (decide (s = t))))
  | a, b => if a.plain = true ∧ b.plain = true ∧ min a.py.depth b.py.depth ≤ 64 then .ok (.bl (g (PyData.eqv a.py b.py))) else .fail
def opEq : D → D → T D := opEqG id
def opNe : D → D → T D := opEqG not
theorem ok_eqG {g : Bool → Bool} : OpOk X.K (rEqS X.K g) (opEqG g) := fun w F H n x y dx dy Q E b rx ry h => by
  unfold opEqG at h
  split at h
  · cases rx
    cases ry
    exact .inl ⟨_, _, rfl, rfl, h F H _ .refl b (.bl _)⟩
  · split at h
    · rename_i hc
      exact .inr ⟨_, _, rx.dp hc.1, ry.dp hc.2.1, D.canLay _ hc.1, D.canLay _ hc.2.1, hc.2.2, h F H _ .refl b (.bl _)⟩
    · exact h.elim
theorem ok_eq : OpOk X.K (rEqS X.K id) opEq := ok_eqG
theorem ok_ne : OpOk X.K (rEqS X.K not) opNe := ok_eqG
/-- is None -/
def D.isNon : D → Bool
  | .non => true
  | _ => false
def opIs (g : Bool → Bool) (a b : D) : T D := match b with
  | .non => .ok (.bl (g a.isNon))
  | _ => .fail
theorem Rep.isNon {K : PySem.W.Frag} {w : Addr} {F : Addr → Prop} {H : Hp} {v : V} {d : D} (r : Rep K w F H v d) : decide (v = .non) = d.isNon := by
  cases r <;> simp [D.isNon]
theorem ok_is : OpOk X.K (fun x y H Q => y = .non ∧ Q (.bl (decide (x = .non))) H) (opIs id) := fun w F H n x y dx dy Q E b rx ry h => by
  cases ry with
  | non => exact ⟨rfl, by rw [rx.isNon]; exact h F H _ .refl b (.bl _)⟩
  | _ => exact h.elim
theorem ok_isnot : OpOk X.K (fun x y H Q => y = .non ∧ Q (.bl (!decide (x = .non))) H) (opIs not) := fun w F H n x y dx dy Q E b rx ry h => by
  cases ry with
  | non => exact ⟨rfl, by rw [rx.isNon]; exact h F H _ .refl b (.bl _)⟩
  | _ => exact h.elim
end
/-! ## sequences: len, items, slices, tuple(), list() -/
section
variable {X : Cx} {W : WX}
theorem arg1 {te : TE} {σ : St} {H : Hp} {R : List V → Hp → Prop} (h : te σ H fun x H1 => R [x] H1) : tCons te tNil σ H R := h
theorem SqAt.or {K : PySem.W.Frag} {w : Addr} {F : Addr → Prop} {H : Hp} {a : Addr} {vs : List V} {q : Sq} (h : SqAt K w F H a vs q) : SqL K H a vs ∨ SqT K H a vs := by
  cases q with
  | t xs => exact .inr (TupAt.seq h)
  | l xs => exact .inl (SqL.of h.2)
def dLen (f : DEnv → T Sq) : DEnv → T D := fun ρ => (f ρ).bind fun s => .ok (.int s.xs.length)
theorem de_len {a : Expr} {f : DEnv → T Sq} {p pos : Pos} (hg : Gl X "len") (hm : X.mg "len" = none) (h : PE X a (tS X.K X.mg W f)) (he : starEach (a :: []) X.env = (false, eval a X.env) :: starEach [] X.env := by rfl) (hpl : (backTo pos (starEach [] X.env)).any (·.1) = false := by rfl) :
    PE X (.Call (.Name "len" p) [a] [] pos) (tD X.K X.mg W (dLen f)) :=
  PE.of (pe_callB call_len_seq hg hm PySem.boot_len (pa_cons h pa_nil he) (he := he) (hpl := hpl)) fun σ H Q ⟨w, F, ρ, n, c, q⟩ => arg1 <|
    tS.go c (T.wp_bind _ _ |>.mp q) (fun _ _ h => h) fun s m q1 F1 H1 a vs s1 c1 hs r => ⟨a, vs, rfl, hs.or, by rw [r.length]; exact q1 F1 H1 _ s1 c1.toBase (.int _)⟩
def opIx (s : Sq) (i : D) : T D := match i with
  | .int i => match atI s.xs i with
    | some d => .ok d
    | none => .fail
  | _ => .fail
def dIx (f : DEnv → T Sq) (g : DEnv → T D) : DEnv → T D := fun ρ => (f ρ).bind fun s => (g ρ).bind fun i => opIx s i
theorem Reps.atI {K : PySem.W.Frag} {w : Addr} {F : Addr → Prop} {H : Hp} {vs : List V} {ds : List D} {i : Int} {d : D} (r : Reps K w F H vs ds) (h : L2.atI ds i = some d) : ∃ v, L2.atI vs i = some v ∧ Rep K w F H v d := by
  unfold L2.atI at h ⊢
  rw [r.length]
  cases e : ixN ds.length i with
  | none => rw [e] at h; cases h
  | some j =>
    rw [e] at h
    exact r.get h
def rIx2 (K : PySem.W.Frag) : R2 := fun x y H Q => rIxL K x y H Q ∨ rIxT K x y H Q
theorem de_ix {a b : Expr} {f : DEnv → T Sq} {g : DEnv → T D} {pos : Pos} (ha : PE X a (tS X.K X.mg W f)) (hb : PE X b (tD X.K X.mg W g)) (hs : PlainIx b := by exact fun _ _ => rfl) : PE X (.Subscript a b pos) (tD X.K X.mg W (dIx f g)) :=
  PE.of (pe_ix (r := rIx2 X.K) (IxR.or ix_list ix_tup) ha hb hs) fun σ H Q ⟨w, F, ρ, n, c, q⟩ =>
    tS.go c (T.wp_bind _ _ |>.mp q) (fun _ _ h => h) fun s m q1 F1 H1 a vs s1 c1 hs r => tD.go c1 (T.wp_bind _ _ |>.mp q1) (fun _ _ h => h.back s1) fun i m2 q2 F2 H2 v s2 c2 r2 => by
      cases r2 with
      | int i =>
        unfold opIx at q2
        dsimp only at q2
        split at q2
        · rename_i d hd
          obtain ⟨v, h1, h2⟩ := (r.step s2 c1.toBase).atI hd
          have hz := (hs.step s2 c1.toBase).or
          have q3 := q2 F2 H2 v (s1.trans s2) c2.toBase h2
          rcases hz with hz | hz
          · exact .inl ⟨a, vs, i, v, rfl, rfl, hz, h1, q3⟩
          · exact .inr ⟨a, vs, i, v, rfl, rfl, hz, h1, q3⟩
        · exact q2.elim
      | _ => exact q2.elim
/-- tuple(s) -/
def dTupOf (f : DEnv → T Sq) : DEnv → T D := fun ρ => (f ρ).bind fun s => if s.xs.length ≤ sizeLine then .ok (.tup s.xs) else .fail
theorem de_tupOf {a : Expr} {f : DEnv → T Sq} {p pos : Pos} (hg : Gl X "tuple") (hm : X.mg "tuple" = none) (h : PE X a (tS X.K X.mg W f)) (he : starEach (a :: []) X.env = (false, eval a X.env) :: starEach [] X.env := by rfl) (hpl : (backTo pos (starEach [] X.env)).any (·.1) = false := by rfl) :
    PE X (.Call (.Name "tuple" p) [a] [] pos) (tD X.K X.mg W (dTupOf f)) :=
  PE.of (pe_callTy call_tuple_of hg hm (by decide +kernel) (pa_cons h pa_nil he) (he := he) (hpl := hpl)) fun σ H Q ⟨w, F, ρ, n, c, q⟩ => arg1 <|
    tS.go c (T.wp_bind _ _ |>.mp q) (fun _ _ h => h) fun s m q1 F1 H1 a vs s1 c1 hs r => by
      split at q1
      · cases s with
        | t xs => exact ⟨a, vs, rfl, .inr ⟨TupAt.seq hs, q1 F1 H1 _ s1 c1.toBase (.tup hs r)⟩⟩
        | l xs =>
          refine ⟨a, vs, rfl, .inl ⟨SqL.of hs.2, fun p hp => ?_⟩⟩
          obtain ⟨s2, b2, r2⟩ := tup_new c1.toBase r hp
          exact q1 _ _ _ (s1.trans s2) b2 r2
      · exact q1.elim
/-- list(s) -/
def dListOf (f : DEnv → T Sq) : DEnv → T (List D) := fun ρ => (f ρ).bind fun s => .ok s.xs
theorem dn_new {K : PySem.W.Frag} {mg : Str → Option Value} {w : Addr} {F : Addr → Prop} {H : Hp} {n : Nat} {vs : List V} {ds : List D} {p : Addr} (b : Base w F H n) (r : Reps K w F H vs ds) (hp : H p = none) :
    StepE w F H F (upd H p (.lst vs)) ∧ Base w F (upd H p (.lst vs)) n ∧ ¬ F p ∧ Reps K w F (upd H p (.lst vs)) vs ds :=
  have s := StepE.layOwn (w := w) (F := F) (o := .lst vs) hp
  ⟨s, b.layOwn hp, b.pnf hp, r.step s b⟩
theorem dn_listOf {a : Expr} {f : DEnv → T Sq} {p pos : Pos} (hg : Gl X "list") (hm : X.mg "list" = none) (h : PE X a (tS X.K X.mg W f)) (he : starEach (a :: []) X.env = (false, eval a X.env) :: starEach [] X.env := by rfl) (hpl : (backTo pos (starEach [] X.env)).any (·.1) = false := by rfl) :
    PE X (.Call (.Name "list" p) [a] [] pos) (tN X.K X.mg W (dListOf f)) :=
  PE.of (pe_callTy call_list_of hg hm (by decide +kernel) (pa_cons h pa_nil he) (he := he) (hpl := hpl)) fun σ H Q ⟨w, F, ρ, n, c, q⟩ => arg1 <|
    tS.go c (T.wp_bind _ _ |>.mp q) (fun _ _ h => h) fun s m q1 F1 H1 a vs s1 c1 hs r => ⟨a, vs, rfl, hs.or, fun p hp => by
      obtain ⟨s2, b2, nf, r2⟩ := dn_new (mg := X.mg) c1.toBase r hp
      exact q1 F1 _ p vs (s1.trans s2) b2 (s1.dom p hp) nf upd_same r2⟩
/-- l + m of lists -/
def dCat (f g : DEnv → T Sq) : DEnv → T (List D) := fun ρ => (f ρ).bind fun s => (g ρ).bind fun t => match s, t with
  | .l xs, .l ys => if xs.length + ys.length ≤ sizeLine then .ok (xs ++ ys) else .fail
  | _, _ => .fail
theorem dn_cat {a b : Expr} {f g : DEnv → T Sq} {pos : Pos} (ha : PE X a (tS X.K X.mg W f)) (hb : PE X b (tS X.K X.mg W g)) : PE X (.BinOp a .Add b pos) (tN X.K X.mg W (dCat f g)) :=
  PE.of (pe_op op_cat ha hb) fun σ H Q ⟨w, F, ρ, n, c, q⟩ =>
    tS.go c (T.wp_bind _ _ |>.mp q) (fun _ _ h => h) fun s m q1 F1 H1 a vs s1 c1 hs r => tS.go c1 (T.wp_bind _ _ |>.mp q1) (fun _ _ h => h.back s1) fun t m2 q2 F2 H2 b us s2 c2 ht r2 => by
      have hs' := hs.step s2 c1.toBase
      have r' := r.step s2 c1.toBase
      cases s with
      | t xs => exact q2.elim
      | l xs =>
        cases t with
        | t ys => exact q2.elim
        | l ys =>
          dsimp only at q2
          split at q2
          · rename_i hz
            refine ⟨a, b, vs, us, rfl, rfl, hs'.2, ht.2, by rw [r.length, r2.length]; exact hz, fun p hp => ?_⟩
            obtain ⟨s3, b3, nf, r3⟩ := dn_new (mg := X.mg) c2.toBase (r'.append r2) hp
            exact q2 F2 _ p _ ((s1.trans s2).trans s3) b3 (s1.dom p (s2.dom p hp)) nf upd_same r3
          · exact q2.elim
/-- parts of a slice -/
def tDO (K : PySem.W.Frag) (mg : Str → Option Value) (W : WX) (f : DEnv → T (Option Int)) : TO := fun σ H Q => ∃ w F ρ n, Cur K w F H σ ρ n ∧ (f ρ).wp (fun b m => ∀ F' H', StepE w F H F' H' → Base w F' H' m → Q b H') (PostX K mg w F H fun c dd H' => W c dd σ H') n
def dNoP : DEnv → T (Option Int) := fun _ => .ok none
def dP (f : DEnv → T D) : DEnv → T (Option Int) := fun ρ => (f ρ).bind fun d => match d with
  | .int i => .ok (some i)
  | _ => .fail
theorem PO.of {X : Cx} {e : Option Expr} {t t' : TO} (h : PO X e t) (k : ∀ σ H Q, t' σ H Q → t σ H Q) : PO X e t' := by
  constructor
  intro pins s σ H Q I q
  exact h.run pins s σ H Q I (k σ H Q q)
theorem do_none : PO X none (tDO X.K X.mg W dNoP) := PO.of po_none fun σ H Q ⟨w, F, ρ, n, c, q⟩ => q F H .refl c.toBase
theorem do_some {e : Expr} {f : DEnv → T D} (h : PE X e (tD X.K X.mg W f)) : PO X (some e) (tDO X.K X.mg W (dP f)) := PO.of (po_some h) fun σ H Q ⟨w, F, ρ, n, c, q⟩ =>
  tD.go c (T.wp_bind _ _ |>.mp q) (fun _ _ h => h) fun d m q1 F1 H1 v s1 c1 r => by
    cases r with
    | int i => exact ⟨i, rfl, q1 F1 H1 s1 c1.toBase⟩
    | _ => exact q1.elim
def cutD (xs : List D) (lo hi : Option Int) : List D := (xs.drop (HT.sIx xs.length 0 lo)).take (HT.sIx xs.length xs.length hi - HT.sIx xs.length 0 lo)
theorem Reps.cut {K : PySem.W.Frag} {w : Addr} {F : Addr → Prop} {H : Hp} {vs : List V} {ds : List D} {lo hi : Option Int} (r : Reps K w F H vs ds) : Reps K w F H (cutV vs lo hi) (cutD ds lo hi) := by
  unfold cutV cutD
  rw [r.length]
  exact (r.drop _).take _
/-- t[lo:hi] of a tuple -/
def dSlT (f : DEnv → T Sq) (lo hi : DEnv → T (Option Int)) : DEnv → T D := fun ρ => (f ρ).bind fun s => (lo ρ).bind fun l => (hi ρ).bind fun h => match s with
  | .t xs => .ok (.tup (cutD xs l h))
  | .l _ => .fail
theorem tDO.go {f : DEnv → T (Option Int)} {σ : St} {H : Hp} {Q : Option Int → Hp → Prop} {w : Addr} {F : Addr → Prop} {ρ : DEnv} {n : Nat} {E : Exc → Nat → Prop} {R : Option Int → Nat → Prop} (c : Cur X.K w F H σ ρ n) (h : (f ρ).wp R E n)
    (hE : ∀ e m, E e m → PostX X.K X.mg w F H (fun c dd H' => W c dd σ H') e m)
    (hR : ∀ b m, R b m → ∀ F' H', StepE w F H F' H' → Cur X.K w F' H' σ ρ m → Q b H') : tDO X.K X.mg W f σ H Q :=
  ⟨w, F, ρ, n, c, T.wp_mono (fun d m r F' H' s b => hR d m r F' H' s (c.step s b)) hE h⟩
theorem de_slT {e : Expr} {lo hi : Option Expr} {f : DEnv → T Sq} {fl fh : DEnv → T (Option Int)} {p2 pos : Pos} (h : PE X e (tS X.K X.mg W f)) (hl : PO X lo (tDO X.K X.mg W fl)) (hh : PO X hi (tDO X.K X.mg W fh)) :
    PE X (.Subscript e (.Slice lo hi none p2) pos) (tD X.K X.mg W (dSlT f fl fh)) := PE.of (pe_slice sl_tupA h hl hh) fun σ H Q ⟨w, F, ρ, n, c, q⟩ =>
  tS.go c (T.wp_bind _ _ |>.mp q) (fun _ _ h => h) fun s m q1 F1 H1 a vs s1 c1 hs r => tDO.go c1 (T.wp_bind _ _ |>.mp q1) (fun _ _ h => h.back s1) fun l m2 q2 F2 H2 s2 c2 =>
    tDO.go c2 (T.wp_bind _ _ |>.mp q2) (fun _ _ h => h.back (s1.trans s2)) fun u m3 q3 F3 H3 s3 c3 => by
      cases s with
      | l xs => exact q3.elim
      | t xs =>
        have hs' := (hs.step s2 c1.toBase).step s3 c2.toBase
        have r' := (r.step s2 c1.toBase).step s3 c2.toBase
        refine ⟨a, vs, rfl, TupAt.seq hs', fun hw => ?_, fun _ p hp => ?_⟩
        · refine q3 F3 H3 _ ((s1.trans s2).trans s3) c3.toBase (.tup hs' ?_)
          have e : cutD xs l u = xs := by
            have hn : vs.length = xs.length := r.length
            rw [hn] at hw
            unfold cutD
            rw [hw.1, hw.2, Nat.sub_zero, List.drop_zero, List.take_length]
          rw [e]
          exact r'
        · obtain ⟨s4, b4, r4⟩ := tup_new c3.toBase (Reps.cut (lo := l) (hi := u) r') hp
          exact q3 _ _ _ (((s1.trans s2).trans s3).trans s4) b4 r4
/-- l[lo:hi] of a list: a new one -/
def dSlL (f : DEnv → T Sq) (lo hi : DEnv → T (Option Int)) : DEnv → T (List D) := fun ρ => (f ρ).bind fun s => (lo ρ).bind fun l => (hi ρ).bind fun h => match s with
  | .l xs => .ok (cutD xs l h)
  | .t _ => .fail
theorem dn_slL {e : Expr} {lo hi : Option Expr} {f : DEnv → T Sq} {fl fh : DEnv → T (Option Int)} {p2 pos : Pos} (h : PE X e (tS X.K X.mg W f)) (hl : PO X lo (tDO X.K X.mg W fl)) (hh : PO X hi (tDO X.K X.mg W fh)) :
    PE X (.Subscript e (.Slice lo hi none p2) pos) (tN X.K X.mg W (dSlL f fl fh)) := PE.of (pe_slice sl_list h hl hh) fun σ H Q ⟨w, F, ρ, n, c, q⟩ =>
  tS.go c (T.wp_bind _ _ |>.mp q) (fun _ _ h => h) fun s m q1 F1 H1 a vs s1 c1 hs r => tDO.go c1 (T.wp_bind _ _ |>.mp q1) (fun _ _ h => h.back s1) fun l m2 q2 F2 H2 s2 c2 =>
    tDO.go c2 (T.wp_bind _ _ |>.mp q2) (fun _ _ h => h.back (s1.trans s2)) fun u m3 q3 F3 H3 s3 c3 => by
      cases s with
      | t xs => exact q3.elim
      | l xs =>
        have hs' := (hs.step s2 c1.toBase).step s3 c2.toBase
        have r' := (r.step s2 c1.toBase).step s3 c2.toBase
        refine ⟨a, vs, rfl, SqL.of hs'.2, fun p hp => ?_⟩
        obtain ⟨s4, b4, nf, r4⟩ := dn_new (mg := X.mg) c3.toBase (Reps.cut (lo := l) (hi := u) r') hp
        exact q3 F3 _ p _ (((s1.trans s2).trans s3).trans s4) b4 (s1.dom p (s2.dom p (s3.dom p hp))) nf upd_same r4
/-! ### all, any over a list of truths -/
def asBools : List D → Option (List Bool)
  | [] => some []
  | .bl b :: r => (asBools r).map (b :: ·)
  | _ :: _ => none
theorem Reps.bools {K : PySem.W.Frag} {w : Addr} {F : Addr → Prop} {H : Hp} : ∀ {ds : List D} {vs : List V} {bs : List Bool}, Reps K w F H vs ds → asBools ds = some bs → vs = bs.map V.bl
  | [], _, _, .nil, h => by cases h; rfl
  | .bl b :: r, _, bs, .cons q t, h => by
    cases q
    simp only [asBools] at h
    cases e : asBools r with
    | none => rw [e] at h; cases h
    | some cs =>
      rw [e] at h
      cases h
      rw [Reps.bools t e]
      rfl
  | .non :: _, _, _, _, h => by cases h
  | .int _ :: _, _, _, _, h => by cases h
  | .str _ :: _, _, _, _, h => by cases h
  | .tup _ :: _, _, _, _, h => by cases h
  | .lst _ :: _, _, _, _, h => by cases h
  | .well :: _, _, _, _, h => by cases h
  | .raw _ :: _, _, _, _, h => by cases h
  | .exc _ _ _ _ _ :: _, _, _, _, h => by cases h
def dQuant (g : List Bool → Bool) (f : DEnv → T Sq) : DEnv → T D := fun ρ => (f ρ).bind fun s => match s with
  | .l xs => match asBools xs with
    | some bs => .ok (.bl (g bs))
    | none => .fail
  | .t _ => .fail
theorem quant {σ : St} {H : Hp} {Q : VK} {f : DEnv → T Sq} {g : List Bool → Bool} (h : tD X.K X.mg W (dQuant g f) σ H Q) :
    tCons (tS X.K X.mg W f) tNil σ H fun vs H' => ∃ (a : Addr) (bs : List Bool), vs = [V.ref a] ∧ SqL X.K H' a (bs.map V.bl) ∧ Q (.bl (g bs)) H' := by
  obtain ⟨w, F, ρ, n, c, q⟩ := h
  refine tS.go c (T.wp_bind _ _ |>.mp q) (fun _ _ h => h) fun s m q1 F1 H1 a vs s1 c1 hs r => ?_
  cases s with
  | t xs => exact q1.elim
  | l xs =>
    dsimp only at q1
    split at q1
    · rename_i bs hb
      have e : vs = bs.map V.bl := Reps.bools r hb
      exact ⟨a, bs, rfl, by rw [← e]; exact SqL.of hs.2, q1 F1 H1 _ s1 c1.toBase (.bl _)⟩
    · exact q1.elim
theorem de_all {a : Expr} {f : DEnv → T Sq} {p pos : Pos} (hc : X.calm = true) (hg : Gl X "all") (hm : X.mg "all" = none) (h : PE X a (tS X.K X.mg W f)) (he : starEach (a :: []) X.env = (false, eval a X.env) :: starEach [] X.env := by rfl) (hpl : (backTo pos (starEach [] X.env)).any (·.1) = false := by rfl) :
    PE X (.Call (.Name "all" p) [a] [] pos) (tD X.K X.mg W (dQuant (·.all id) f)) :=
  PE.of (pe_callB (cr_all hc) hg hm (by decide +kernel) (pa_cons h pa_nil he) (he := he) (hpl := hpl)) fun σ H Q q => quant q
theorem de_any {a : Expr} {f : DEnv → T Sq} {p pos : Pos} (hc : X.calm = true) (hg : Gl X "any") (hm : X.mg "any" = none) (h : PE X a (tS X.K X.mg W f)) (he : starEach (a :: []) X.env = (false, eval a X.env) :: starEach [] X.env := by rfl) (hpl : (backTo pos (starEach [] X.env)).any (·.1) = false := by rfl) :
    PE X (.Call (.Name "any" p) [a] [] pos) (tD X.K X.mg W (dQuant (·.any id) f)) :=
  PE.of (pe_callB (cr_any hc) hg hm (by decide +kernel) (pa_cons h pa_nil he) (he := he) (hpl := hpl)) fun σ H Q q => quant q
/-! ### isinstance of a built-in class -/
def D.ty : D → String
  | .non => "NoneType"
  | .bl _ => "bool"
  | .int _ => "int"
  | .str _ => "str"
  | .tup _ => "tuple"
  | .lst _ => "list"
  | .well => "list"
  | .raw _ => "list"
  | .exc _ _ _ _ _ => "list"
def D.known : D → Bool
  | .raw _ => false
  | .exc _ _ _ _ _ => false
  | _ => true
theorem Rep.tyX {K : PySem.W.Frag} {w : Addr} {F : Addr → Prop} {H : Hp} {n : Nat} (b : Base w F H n) {v : V} {d : D} (r : Rep K w F H v d) (kn : d.known = true) : TyX K H v (.type d.ty) := by
  cases r with
  | raw a => cases kn
  | exc0 => cases kn
  | exc1 _ _ _ => cases kn
  | non => exact .base .non
  | bl x => exact .base (.bl x)
  | int x => exact .base (.int x)
  | str x => exact .base (.str x)
  | tup h _ =>
    rcases h with ⟨_, h⟩ | ⟨o, its, n, h1, h2, _⟩
    · exact .base (.tup h)
    · exact .kTuple h1 h2
  | lst _ h _ => exact .base (.lst h)
  | well =>
    obtain ⟨x, y, z, h, _⟩ := b.well
    exact .base (.lst h)
def D.isA (Ty : String) (d : D) : Bool := (kitB d.ty Ty).getD false
def dIsi (Ty : String) (f : DEnv → T D) : DEnv → T D := fun ρ => (f ρ).bind fun d => if d.known then .ok (.bl (d.isA Ty)) else .fail
theorem kit_some (Ty : String) (h : (["NoneType", "bool", "int", "str", "tuple", "list"].all fun t => (kitB t Ty).isSome) = true) (d : D) : kitB d.ty Ty = some (d.isA Ty) := by
  have k : (kitB d.ty Ty).isSome = true := List.all_eq_true.mp h d.ty (by cases d <;> simp [D.ty])
  obtain ⟨b, e⟩ := Option.isSome_iff_exists.mp k
  unfold D.isA
  rw [e]
  rfl
theorem de_isi {a : Expr} {f : DEnv → T D} {Tn : Str} {Ts : String} {p p2 pos : Pos} (hg : Gl X "isinstance") (hm : X.mg "isinstance" = none) (hgT : Gl X Tn) (hmT : X.mg Tn = none) (hv : bootBuiltins Tn = some (.type Ts)) (hn : Tn ≠ "__name__") (hd : (Tn == ("__debug__" : Str)) = false)
    (hk : (["NoneType", "bool", "int", "str", "tuple", "list"].all fun t => (kitB t Ts).isSome) = true) (h : PE X a (tD X.K X.mg W f))
    (he : starEach (a :: [.Name Tn p2]) X.env = (false, eval a X.env) :: starEach [.Name Tn p2] X.env := by rfl) (he2 : starEach ((.Name Tn p2) :: []) X.env = (false, eval (.Name Tn p2) X.env) :: starEach [] X.env := by rfl) (hpl : (backTo pos (starEach [.Name Tn p2] X.env)).any (·.1) = false := by rfl) :
    PE X (.Call (.Name "isinstance" p) [a, .Name Tn p2] [] pos) (tD X.K X.mg W (dIsi Ts f)) :=
  PE.of (pe_callB call_isi hg hm (by decide +kernel) (pa_cons h (pa_cons (pe_bltn (v := .ty Ts) hgT hmT hv rfl hn hd) pa_nil he2) he) (he := he) (hpl := hpl)) fun σ H Q ⟨w, F, ρ, n, c, q⟩ => by
    show tD X.K X.mg W f σ H _
    refine tD.go c (T.wp_bind _ _ |>.mp q) (fun _ _ h => h) fun d m q1 F1 H1 v s1 c1 r => ?_
    split at q1
    · rename_i kn
      exact ⟨v, .ty Ts, .type d.ty, .type Ts, d.isA Ts, rfl, .ty Ts, r.tyX c1.toBase kn, kit_ty (kit_some Ts hk d), q1 F1 H1 _ s1 c1.toBase (.bl _)⟩
    · exact q1.elim
end
end AL
namespace AL
open PySem PySem.Spec PyProof.Rows L2
open Sem (wp)
open AutoSeq1 (wpAny_loadPart')
/-! ## what loops walk -/
/-! ### enumerate over a tuple -/
theorem enum_of_tuple {ta : Addr} {xs : Array Value} :
    Meets (Builtin.«enumerate.__new__» ⟨[.type "enumerate", .ref ta], []⟩) (fun _ R s => s.heap.IsTuple ta xs ∧
      R (.ok (.ret (.ref (s.heap.push { cls := .type "tuple_iterator", data := .fields #[.ref ta, .int 0 0] }).objs.size)))
        { s with heap := (s.heap.push { cls := .type "tuple_iterator", data := .fields #[.ref ta, .int 0 0] }).push { cls := .type "enumerate", data := .fields #[.none, .bool false, .ref s.heap.objs.size, rawInt 0, .none, .none] } }) := by
  apply Meets.of_wp
  intro prog w A R s h
  obtain ⟨hp, g, d, tk, os⟩ := s
  obtain ⟨ht, h⟩ := h
  have hsub := sub_enumerate
  obtain ⟨ob, hob, hcl, nn, hdt⟩ := id ht
  have it1 : ∀ {A' : Around} {E Q : Value → Shared → Prop}, Q (.ref hp.objs.size) ⟨hp.push { cls := .type "tuple_iterator", data := .fields #[.ref ta, .int 0 0] }, g, d, tk, os⟩ → wpAny (model prog w) A' (pyIter (.ref ta)) Q E ⟨hp, g, d, tk, os⟩ :=
    fun {A' E Q} q => (begins_tuple ta xs).iter prog w A' E ⟨hp, g, d, tk, os⟩ Q ht q
  wp_walk using it1
  refine wpAny_stack_any fun st => wpAny_pure ?_
  split
  · rename_i c _ _ _ _ _
    cases (c == Value.type "enumerate") <;> (wp_walk using it1; exact ⟨_, rfl, h⟩)
  · wp_walk using it1
    exact ⟨_, rfl, h⟩
theorem call_enumT {prog : Program} {w : World} {A : Around} {E : Value → Shared → Prop} {s : Shared} {ta : Addr} {xs : Array Value} {Q : Value → Shared → Prop} (ht : s.heap.IsTuple ta xs)
    (h : ∀ h', IsEnum h' (s.heap.objs.size + 1) s.heap.objs.size 0 .none → h'.IsTupleIter s.heap.objs.size ta 0 → (∀ b o, s.heap.get? b = some o → h'.get? b = some o) → Q (.ref (s.heap.objs.size + 1)) { s with heap := h' }) :
    wpAny (model prog w) A (call (.type "enumerate") [.ref ta]) Q E s := by
  refine callType_new F.called_enumerate (by decide) (F.typeCall_enumerate_1 _) (F.newCall_enumerate_1 _) (fun obj => F.args_object_init_2 obj _) F.entry_enumerate_new enum_of_tuple ⟨ht, ?_⟩
  generalize hI : ({ cls := .type "tuple_iterator", data := .fields #[.ref ta, .int 0 0] } : Obj) = oI
  have fI : oI.isFreed = false := by subst hI; rfl
  have hz : (s.heap.push oI).objs.size = s.heap.objs.size + 1 := Heap.size_push ..
  show _ ∧ _
  rw [hz]
  generalize hE : ({ cls := .type "enumerate", data := .fields #[.none, .bool false, .ref s.heap.objs.size, rawInt 0, .none, .none] } : Obj) = oE
  have fE : oE.isFreed = false := by subst hE; rfl
  have he : ((s.heap.push oI).push oE).get? (s.heap.objs.size + 1) = some oE := by
    have q := Heap.get?_push_size (s.heap.push oI) (o := oE) fE
    rw [hz] at q
    exact q
  subst hE
  have hi : ((s.heap.push oI).push { cls := .type "enumerate", data := .fields #[.none, .bool false, .ref s.heap.objs.size, rawInt 0, .none, .none] }).get? s.heap.objs.size = some oI := Heap.get?_push_of_some _ (Heap.get?_push_size _ fI)
  refine ⟨⟨_, he, rfl⟩, h _ he ?_ fun b o z => Heap.get?_push_of_some _ (Heap.get?_push_of_some _ z)⟩
  subst hI
  exact ⟨_, hi, rfl, rfl⟩
/-- the tuple at a, its items with their numbers in new pairs -/
def ItET (K : PySem.W.Frag) (a : Addr) : It where
  go := fun i H => ∃ xs x, SqT K H a xs ∧ xs[i]? = some x
  yld := fun i H v H' => ∃ T x, v = .ref T ∧ H T = none ∧ H' = upd H T (.tup [.int (i : Nat), x]) ∧ ∀ xs, SqT K H a xs → xs[i]? = some x
  stop := fun i H => ∃ xs, SqT K H a xs ∧ xs.length = i
theorem turn_enumT {P : Program} {w : World} {K : PySem.W.Frag} {elts : List Expr} {kk : Nat} {tpos : Pos} (a e it : Addr) (nea : a ≠ it) :
    Turn P w K (.Tuple elts kk tpos) (ItET K a) [e, it] e (fun i h => (∃ old, IsEnum h e it ((i : Nat) : Int) old) ∧ h.IsTupleIter it a i ∧ e ≠ it) := by
  constructor
  · exact List.mem_cons_self
  · rintro i h ⟨⟨old, he⟩, ⟨o, ho, hc, hd⟩, _⟩ b hb
    rcases List.mem_cons.mp hb with z | hb
    · rw [z]
      exact ⟨_, he, fun v q => nomatch q⟩
    · rw [List.mem_singleton.mp hb]
      exact ⟨o, ho, fun v q => by rw [hd] at q; cases q⟩
  · rintro i h h' ⟨⟨old, he⟩, hi, hne⟩ k
    exact ⟨⟨old, k e List.mem_cons_self _ he⟩, hi.at fun o q => k it (List.mem_cons_of_mem _ List.mem_cons_self) o q, hne⟩
  · intro X hP hw hK hc i pins s σ H E I hf st hg
    subst hP hw hK
    obtain ⟨⟨old, he⟩, hit, hne⟩ := st
    obtain ⟨xs, x, hq, hx⟩ := hg
    obtain ⟨its, rv, p, hz⟩ := I.tuple hq
    obtain ⟨u, hu, ru⟩ := rv.get hx
    have hel : e < s.heap.objs.size := Heap.lt_size he
    have hil : it < s.heap.objs.size := let ⟨_, q, _⟩ := hit; Heap.lt_size q
    have hlen : i < its.toArray.size := by
      rw [List.size_toArray]
      exact (List.getElem?_eq_some_iff.mp hu).1
    have hnea : e ≠ a := by
      intro z
      obtain ⟨o, ho, hc', _⟩ := id p
      rw [← z, show s.heap.get? e = _ from he] at ho
      cases ho
      exact absurd (show Value.type "enumerate" = Value.type "tuple" from hc') (by decide)
    have DT := Draws.tuple (prog := X.prog) (w := X.w) (A := X.A.in1) (show X.A.in1.handled = none from I.ok.hd hc) it a nea its.toArray
    refine wpAny_pyNext_enum_itemD DT he ⟨hit, p⟩ hlen hne (by simp [hne, hnea]) ?_
    intro y h' tk hy ho hst' hT hsz hk
    have ey : u = y := by
      have q : its.toArray[i]? = some u := by simpa using hu
      rw [q] at hy
      exact Option.some.inj hy
    subst ey
    refine ⟨_, rfl, wpAny_letOwnedTupleGo_enum (s := { s with heap := h', toks := tk + 1 }) ho fun h'' he' sb => ?_⟩
    have hT2 : h''.get? s.heap.objs.size = some { cls := .type "tuple", data := .seq #[.int i tk, u] } := (sb.2 _ (Nat.ne_of_gt hel)).trans hT
    have new : ObjOk X.prog X.w (upd H s.heap.objs.size (.tup [.int (i : Nat), x])) h'' s.heap.objs.size (.tup [.int (i : Nat), x]) :=
      ⟨by show 2 ≤ sizeLine; decide, [.int i tk, u], .cons ⟨_, rfl⟩ (.cons ru .nil), ⟨_, hT2, rfl, _, rfl⟩⟩
    have I1 : Inv X pins σ (upd H s.heap.objs.size (.tup [.int (i : Nat), x])) { s with heap := h'', toks := tk + 1 } := by
      refine I.turnedNew (ch := [e, it]) (fun b ob hb q => ?_) hf (Nat.le_refl _) new
      have b1 : b ≠ e := fun z => hb (by simp [z])
      have b2 : b ≠ it := fun z => hb (by simp [z])
      exact (sb.2 b b1).trans (hk b ob b1 b2 q)
    refine ⟨.ref s.heap.objs.size, _, I1, rfl, ⟨_, x, rfl, I.hok.fresh (Nat.le_refl _), rfl, fun ys hy => by rw [I.tuple_inj hy hq]; exact hx⟩, ⟨⟨u, ?_⟩, hst'.1.at fun o q => (sb.2 it (Ne.symm hne)).trans q, hne⟩, fun b hb => ?_⟩
    · rw [show ((i + 1 : Nat) : Int) = (i : Int) + 1 by omega]
      exact he'
    · have hb' : b < s.heap.objs.size := by
        rcases List.mem_cons.mp hb with z | hb
        · rw [z]; exact hel
        · rw [List.mem_singleton.mp hb]; exact hil
      rw [upd_ne (Nat.ne_of_lt hb')]
      exact (hf b hb).1
  · intro X hP hw hK hc i pins s σ H E I hf st hg
    subst hP hw hK
    obtain ⟨⟨old, he⟩, hit, hne⟩ := st
    obtain ⟨xs, hq, hx⟩ := hg
    obtain ⟨its, rv, p, hz⟩ := I.tuple hq
    obtain ⟨f0, f1, f2, f3, f4, f5⟩ := hf it (List.mem_cons_of_mem _ List.mem_cons_self)
    have hl := rv.length
    have DT := Draws.tuple (prog := X.prog) (w := X.w) (A := X.A.in1) (show X.A.in1.handled = none from I.ok.hd hc) it a nea its.toArray
    have hz2 : its.toArray.size = i := by
      rw [List.size_toArray, ← hl, hx]
    refine wpAny_pyNext_enum_endD DT he ?_ fun h' eb => ⟨rfl, I.turned (t' := s.toks) (fun b o hb q => eb b o hb q) f0 f1 f3 f4 f5⟩
    rw [hz2]
    exact ⟨hit, p⟩
  · rintro A i s Q E ⟨⟨_, he⟩, _⟩ h
    exact wpAny_pyIter_enum he h
/-- enumerate of a list or a tuple -/
def iEnumA (K : PySem.W.Frag) (ta : TA) : TI := fun σ H R => ta σ H fun vs H1 => ∃ a xs, vs = [.ref a] ∧ ((SqL K H1 a xs ∧ R (Ite K a) H1) ∨ (SqT K H1 a xs ∧ R (ItET K a) H1))
theorem pi_enumA {X : Cx} {e : Expr} {ta : TA} {p pos tpos : Pos} {elts : List Expr} {kk : Nat} (hg : Gl X "enumerate") (hm : X.mg "enumerate" = none) (ha : PA X [e] ta) (hs : starEach [e] X.env = [(false, eval e X.env)] := by rfl) :
    PI X (.Tuple elts kk tpos) (.Call (.Name "enumerate" p) [e] [] pos) (iEnumA X.K ta) := by
  constructor
  intro pins s σ H R I h
  refine Call_ (ld_blt I hg hm boot_enumerate (PyProof.Rows.callWith_type1 (thn (ha.run pos pins s σ H _ I h) ?_) hs rfl))
  rintro us s1 ⟨vs, H1, I1, r1, a, xs, ex, hq⟩
  subst ex
  obtain ⟨u1, rfl, hu⟩ := vals1 r1
  cases hu
  have ne2 : s1.heap.objs.size + 1 ≠ s1.heap.objs.size := Nat.succ_ne_self _
  have fps : ∀ b ∈ [s1.heap.objs.size + 1, s1.heap.objs.size], FpOk X pins H1 b := fun b hb => by
    have hle : s1.heap.objs.size ≤ b := by
      rcases List.mem_cons.mp hb with z | hb
      · rw [z]; exact Nat.le_add_right _ _
      · rw [List.mem_singleton.mp hb]; exact Nat.le_refl _
    exact I1.fpOk hle (I1.hok.fresh hle)
  rcases hq with ⟨hq, q⟩ | ⟨hq, q⟩
  · obtain ⟨its, rv, p', hz⟩ := I1.list hq
    refine call_enumerate_list p'.isList fun h' he hit hsz hk => wpAny_pyIter_enum he ?_
    exact ⟨_, _, _, _, H1, rfl, I1.kept (t' := s1.toks) hk, turn_enum a (s1.heap.objs.size + 1) s1.heap.objs.size, ⟨⟨.none, he⟩, hit, ne2⟩, fps, q⟩
  · obtain ⟨its, rv, p', hz⟩ := I1.tuple hq
    refine call_enumT (show s1.heap.IsTuple a its.toArray from p') fun h' he hit hk => wpAny_pyIter_enum he ?_
    refine ⟨_, _, _, _, H1, rfl, I1.kept (t' := s1.toks) hk, turn_enumT a (s1.heap.objs.size + 1) s1.heap.objs.size ?_, ⟨⟨.none, he⟩, hit, ne2⟩, fps, q⟩
    obtain ⟨o, ho, _⟩ := id p'
    exact Nat.ne_of_lt (Heap.lt_size ho)
/-- a list or a tuple -/
def iSeq (K : PySem.W.Frag) (tl : TE) : TI := fun σ H R => tl σ H fun x H1 => ∃ a xs, x = .ref a ∧ ((SqL K H1 a xs ∧ R (Itl K a) H1) ∨ (SqT K H1 a xs ∧ R (Itt K a) H1))
theorem pi_seq {X : Cx} {tg l : Expr} {tl : TE} (hl : PE X l tl) : PI X tg l (iSeq X.K tl) := by
  constructor
  intro pins s σ H R I h
  refine thn (hl.run pins s σ H _ I h) ?_
  rintro v s1 ⟨x, H1, I1, r1, a, xs, e, hq⟩
  subst e
  cases r1
  have fps : ∀ b ∈ [s1.heap.objs.size], FpOk X pins H1 b := fun b hb => by
    rw [List.mem_singleton.mp hb]
    exact I1.fpOk (Nat.le_refl _) (I1.hok.fresh (Nat.le_refl _))
  rcases hq with ⟨hq, q⟩ | ⟨hq, q⟩
  · obtain ⟨its, rv, p, hz⟩ := I1.list hq
    refine wpAny_pyIter_list p.isList ?_
    exact ⟨_, _, _, _, H1, rfl, I1.kept (t' := s1.toks) (fun b o e => Heap.get?_push_of_some _ e), turn_list a _, ⟨_, Heap.get?_push_size _ rfl, rfl, rfl⟩, fps, q⟩
  · obtain ⟨its, rv, p, hz⟩ := I1.tuple hq
    refine wpAny_pyIter_tuple (show s1.heap.IsTuple a its.toArray from p) ?_
    exact ⟨_, _, _, _, H1, rfl, I1.kept (t' := s1.toks) (fun b o e => Heap.get?_push_of_some _ e), turn_tuple a _, ⟨_, Heap.get?_push_size _ rfl, rfl, rfl⟩, fps, q⟩
end AL
namespace AL
open PySem PySem.Spec PyProof.Rows L2
noncomputable section
/-! ## frames that change -/
section
variable {K : PySem.W.Frag} {w : Addr} {F F2 : Addr → Prop} {H H2 : Hp} {n m : Nat} {σ : St} {ρ : DEnv}
mutual
theorem Rep.fz (sub : ∀ a, F a → F2 a) (kp : ∀ a o, F a → H a = some o → H2 a = some o) : ∀ {v : V} {d : D}, Rep K w F H v d → Rep K w F2 H2 v d
  | _, _, .non => .non
  | _, _, .bl x => .bl x
  | _, _, .int x => .int x
  | _, _, .str x => .str x
  | _, _, .tup h r => .tup (h.imp (fun z => ⟨sub _ z.1, kp _ _ z.1 z.2⟩) id) (Reps.fz sub kp r)
  | _, _, .lst f h r => .lst (sub _ f) (kp _ _ f h) (Reps.fz sub kp r)
  | _, _, .well => .well
  | _, _, .raw v => .raw v
  | _, _, .exc0 => .exc0
  | _, _, .exc1 f h r => .exc1 (sub _ f) (kp _ _ f h) (Rep.fz sub kp r)
theorem Reps.fz (sub : ∀ a, F a → F2 a) (kp : ∀ a o, F a → H a = some o → H2 a = some o) : ∀ {vs : List V} {ds : List D}, Reps K w F H vs ds → Reps K w F2 H2 vs ds
  | _, _, .nil => .nil
  | _, _, .cons r t => .cons (Rep.fz sub kp r) (Reps.fz sub kp t)
end
theorem TupAt.fz {a : Addr} {vs : List V} (sub : ∀ a, F a → F2 a) (kp : ∀ a o, F a → H a = some o → H2 a = some o) (h : TupAt K F H a vs) : TupAt K F2 H2 a vs := h.imp (fun z => ⟨sub _ z.1, kp _ _ z.1 z.2⟩) id
theorem set_get {α : Type} (l : List α) (i j : Nat) (x : α) : (l.set i x)[j]? = if i = j then (if j < l.length then some x else none) else l[j]? := by
  rw [List.getElem?_set]
  split
  · rename_i e
    subst e
    rfl
  · rfl
theorem REnv.setSh (e : REnv K w F H σ ρ) (i : Nat) {v : V} {d : D} (r : Rep K w F H v d) : REnv K w F H (σ.set i (some v)) (ρ.set i (.sh d)) where
  len := by rw [List.length_set, List.length_set, e.len]
  sh := fun j d' h => by
    rw [set_get] at h ⊢
    split at h
    · split at h
      · rename_i h1 h2
        cases h
        rw [if_pos h1, e.len, if_pos h2]
        exact ⟨v, rfl, r⟩
      · cases h
    · rename_i h1
      rw [if_neg h1]
      exact e.sh j d' h
  own := fun j xs h => by
    rw [set_get] at h ⊢
    split at h
    · split at h
      · cases h
      · cases h
    · rename_i h1
      rw [if_neg h1]
      exact e.own j xs h
  apart := fun j k xs ys a ne h1 h2 h3 => by
    rw [set_get] at h1 h2 h3 ⊢
    split at h1
    · split at h1 <;> cases h1
    · split at h2
      · split at h2 <;> cases h2
      · rename_i q1 q2
        rw [if_neg q1] at h3
        rw [if_neg q2]
        exact e.apart j k xs ys a ne h1 h2 h3
theorem Own.setSh {i : Nat} {v : Option V} {d : D} {a : Addr} (h : Own (σ.set i v) (ρ.set i (.sh d)) a) : Own σ ρ a := by
  obtain ⟨j, xs, h1, h2⟩ := h
  rw [set_get] at h1 h2
  split at h1
  · split at h1 <;> cases h1
  · rename_i q
    rw [if_neg q] at h2
    exact ⟨j, xs, h1, h2⟩
theorem REnv.at_own (e : REnv K w F H σ ρ) {i : Nat} {xs : List D} (h : ρ[i]? = some (.own xs)) : ∃ a vs, σ[i]? = some (some (.ref a)) ∧ ¬ F a ∧ a ≠ w ∧ H a = some (.lst vs) ∧ Reps K w F H vs xs := by
  obtain ⟨a, h1, h2, h3, vs, h4, h5⟩ := e.own i xs h
  refine ⟨a, vs, ?_, h2, h3, h4, h5⟩
  cases q : σ[i]? with
  | none => rw [q] at h1; cases h1
  | some o => rw [q] at h1; exact congrArg some h1
theorem REnv.own_fz (e : REnv K w F H σ ρ) {a : Addr} (h : Own σ ρ a) : ¬ F a ∧ a ≠ w ∧ ∃ vs, H a = some (.lst vs) := by
  obtain ⟨i, xs, h1, h2⟩ := h
  obtain ⟨b, vs, q1, q2, q3, q4, q5⟩ := e.at_own h1
  rw [q1] at h2
  cases h2
  exact ⟨q2, q3, vs, q4⟩
/-- what is frozen stands behind a statement -/
theorem StepS.fz {F' : Addr → Prop} {H' : Hp} {O' : Addr → Prop} (s : StepS w F H (Own σ ρ) F' H' O') (c : Cur K w F H σ ρ n) : ∀ a o, F a → H a = some o → H' a = some o := fun a o f h =>
  s.keep a o (fun z => c.nw (z ▸ f)) (fun q => (c.env.own_fz q).1 f) h
/-- a list of one's own comes into a slot -/
theorem REnv.setOwn (e : REnv K w F H σ ρ) (i : Nat) {p : Addr} {vs : List V} {xs : List D} (nf : ¬ F p) (nw : p ≠ w) (hp : H p = some (.lst vs)) (r : Reps K w F H vs xs) (no : ¬ Own σ ρ p) : REnv K w F H (σ.set i (some (.ref p))) (ρ.set i (.own xs)) where
  len := by rw [List.length_set, List.length_set, e.len]
  sh := fun j d' h => by
    rw [set_get] at h ⊢
    split at h
    · split at h <;> cases h
    · rename_i h1
      rw [if_neg h1]
      exact e.sh j d' h
  own := fun j ys h => by
    rw [set_get] at h ⊢
    split at h
    · split at h
      · rename_i h1 h2
        cases h
        rw [if_pos h1, e.len, if_pos h2]
        exact ⟨p, rfl, nf, nw, vs, hp, r⟩
      · cases h
    · rename_i h1
      rw [if_neg h1]
      exact e.own j ys h
  apart := fun j k ys zs a ne h1 h2 h3 => by
    rw [set_get] at h1 h2 h3 ⊢
    split at h1
    · rename_i q1
      split at h2
      · rename_i q2
        exact absurd (q1.symm.trans q2) ne
      · rename_i q2
        rw [if_neg q2]
        split at h1
        · rename_i q3
          rw [if_pos q1, e.len, if_pos q3] at h3
          cases h3
          exact fun z => no ⟨k, zs, h2, z⟩
        · cases h1
    · rename_i q1
      rw [if_neg q1] at h3
      split at h2
      · rename_i q2
        split at h2
        · rename_i q3
          rw [if_pos q2, e.len, if_pos q3]
          intro z
          cases z
          exact no ⟨j, ys, h1, h3⟩
        · cases h2
      · rename_i q2
        rw [if_neg q2]
        exact e.apart j k ys zs a ne h1 h2 h3
theorem Own.setOwn {i : Nat} {p : Addr} {xs : List D} {a : Addr} (h : Own (σ.set i (some (.ref p))) (ρ.set i (.own xs)) a) : Own σ ρ a ∨ a = p := by
  obtain ⟨j, ys, h1, h2⟩ := h
  rw [set_get] at h1 h2
  split at h1
  · rename_i q
    rw [if_pos q] at h2
    split at h2
    · cases h2
      exact .inr rfl
    · cases h2
  · rename_i q
    rw [if_neg q] at h2
    exact .inl ⟨j, ys, h1, h2⟩
/-- an own list gets other items -/
theorem REnv.put (e : REnv K w F H σ ρ) {i : Nat} {a : Addr} {xs ys : List D} {us : List V} (hi : ρ[i]? = some (.own xs)) (ha : σ[i]? = some (some (.ref a))) (r : Reps K w F H us ys) : REnv K w F (upd H a (.lst us)) σ (ρ.set i (.own ys)) := by
  obtain ⟨b, vs, q1, q2, q3, q4, q5⟩ := e.at_own hi
  rw [ha] at q1
  cases q1
  have kp : ∀ c o, F c → H c = some o → (upd H a (.lst us)) c = some o := fun c o f h => by
    have nc : c ≠ a := fun z => q2 (by rw [← z]; exact f)
    rw [upd_ne nc]
    exact h
  have il : i < ρ.length := (List.getElem?_eq_some_iff.mp hi).1
  refine ⟨by rw [List.length_set, e.len], fun j d h => ?_, fun j zs h => ?_, fun j k zs zs' b ne h1 h2 h3 => ?_⟩
  · rw [set_get] at h
    split at h
    · split at h <;> cases h
    · obtain ⟨v, h1, h2⟩ := e.sh j d h
      exact ⟨v, h1, h2.fz (fun _ z => z) kp⟩
  · rw [set_get] at h
    split at h
    · rename_i z
      rw [if_pos (z ▸ il)] at h
      cases h
      subst z
      refine ⟨a, by rw [ha]; rfl, q2, q3, us, upd_same, r.fz (fun _ z => z) kp⟩
    · rename_i z
      obtain ⟨b, vs', p1, p2, p3, p4, p5⟩ := e.at_own h
      have nb : b ≠ a := fun y => e.apart i j xs zs a z hi h ha (y ▸ p1)
      exact ⟨b, by rw [p1]; rfl, p2, p3, vs', by rw [upd_ne nb]; exact p4, p5.fz (fun _ z => z) kp⟩
  · rw [set_get] at h1 h2
    have g : ∀ (l : Nat) (us' : List D), (if i = l then (if l < ρ.length then some (Slot.own ys) else none) else ρ[l]?) = some (Slot.own us') → ∃ ws, ρ[l]? = some (.own ws) := fun l us' h => by
      split at h
      · rename_i z
        exact ⟨xs, z ▸ hi⟩
      · exact ⟨us', h⟩
    obtain ⟨w1, g1⟩ := g j zs h1
    obtain ⟨w2, g2⟩ := g k zs' h2
    exact e.apart j k w1 w2 b ne g1 g2 h3
theorem Own.put {i : Nat} {xs ys : List D} (hi : ρ[i]? = some (.own xs)) {a : Addr} (h : Own σ (ρ.set i (.own ys)) a) : Own σ ρ a := by
  obtain ⟨j, zs, h1, h2⟩ := h
  rw [set_get] at h1
  split at h1
  · rename_i q
    exact ⟨j, xs, q ▸ hi, h2⟩
  · exact ⟨j, zs, h1, h2⟩
/-- an own list is frozen -/
def dFreeze (i : Nat) (ρ : DEnv) : DEnv := match ρ[i]? with
  | some (.own xs) => ρ.set i (.sh (.lst xs))
  | _ => ρ
theorem Cur.freeze (c : Cur K w F H σ ρ n) (i : Nat) : ∃ F', StepS w F H (Own σ ρ) F' H (Own σ (dFreeze i ρ)) ∧ Cur K w F' H σ (dFreeze i ρ) n := by
  unfold dFreeze
  split
  · rename_i xs hi
    obtain ⟨a, vs, q1, q2, q3, q4, q5⟩ := c.env.at_own hi
    have il : i < ρ.length := (List.getElem?_eq_some_iff.mp hi).1
    have oi : Own σ ρ a := ⟨i, xs, hi, q1⟩
    have on : ∀ b, Own σ (ρ.set i (.sh (.lst xs))) b → Own σ ρ b ∧ b ≠ a := fun b h => by
      obtain ⟨j, zs, h1, h2⟩ := h
      rw [set_get] at h1
      split at h1
      · split at h1 <;> cases h1
      · rename_i z
        exact ⟨⟨j, zs, h1, h2⟩, fun y => c.env.apart i j xs zs a z hi h1 q1 (y ▸ h2)⟩
    refine ⟨fun b => F b ∨ b = a, ⟨fun _ _ _ _ h => h, fun _ => .inl, fun b h => h.elim .inl fun z => .inr (.inr (z ▸ oi)), fun b h => .inl (on b h).1, fun _ h => h⟩, c.toBase.fz q3 q4, ?_⟩
    refine ⟨by rw [List.length_set, c.env.len], fun j d h => ?_, fun j zs h => ?_, fun j k zs zs' b ne h1 h2 h3 => ?_⟩
    · rw [set_get] at h
      split at h
      · rename_i z
        rw [if_pos (z ▸ il)] at h
        cases h
        subst z
        exact ⟨.ref a, q1, .lst (.inr rfl) q4 (q5.sub fun _ => .inl)⟩
      · obtain ⟨v, h1, h2⟩ := c.env.sh j d h
        exact ⟨v, h1, h2.sub fun _ => .inl⟩
    · rw [set_get] at h
      split at h
      · split at h <;> cases h
      · rename_i z
        obtain ⟨b, vs', p1, p2, p3, p4, p5⟩ := c.env.at_own h
        refine ⟨b, by rw [p1]; rfl, fun f => f.elim p2 fun y => c.env.apart i j xs zs a z hi h q1 (y ▸ p1), p3, vs', p4, p5.sub fun _ => .inl⟩
    · rw [set_get] at h1 h2
      split at h1
      · split at h1 <;> cases h1
      · split at h2
        · split at h2 <;> cases h2
        · exact c.env.apart j k zs zs' b ne h1 h2 h3
  · exact ⟨F, .refl, c⟩
end
/-! ## what loops walk, as data -/
section
variable (K : PySem.W.Frag) (mg : Str → Option Value)
/-- a sequence that stands while what is frozen, and what G tells, stands -/
def SqSt (w : Addr) (F : Addr → Prop) (H : Hp) (G : Addr → Prop) (a : Addr) (vs : List V) (s : Sq) : Prop := ∀ F2 H2, (∀ b, F b → F2 b) → (∀ b o, F b → H b = some o → H2 b = some o) → (∀ b o, G b → H b = some o → H2 b = some o) → SqAt K w F2 H2 a vs s
def tQ (G : Addr → Addr → Prop) (W : WX) (f : DEnv → T Sq) : TE := fun σ H Q => ∃ w F ρ n, Cur K w F H σ ρ n ∧ (f ρ).wp (fun s m => ∀ F' H' a vs, StepE w F H F' H' → Base w F' H' m → SqSt K w F' H' (G w) a vs s → Reps K w F' H' vs s.xs → Q (.ref a) H') (PostX K mg w F H fun c dd H' => W c dd σ H') n
def ItOk (w : Addr) (F : Addr → Prop) (H : Hp) (G : Addr → Prop) (J : It) (xs : List D) : Prop := ∀ F2 H2 n, (∀ b, F b → F2 b) → (∀ b o, F b → H b = some o → H2 b = some o) → (∀ b o, G b → H b = some o → H2 b = some o) → Base w F2 H2 n →
  (∀ i x, xs[i]? = some x → J.go i H2 ∧ ∀ v H3, J.yld i H2 v H3 → ∃ F3, StepE w F2 H2 F3 H3 ∧ Base w F3 H3 n ∧ Rep K w F3 H3 v x) ∧ J.stop xs.length H2
def tI (G : Addr → Addr → Prop) (W : WX) (f : DEnv → T (List D)) : TI := fun σ H R => ∃ w F ρ n, Cur K w F H σ ρ n ∧ (f ρ).wp (fun xs m => ∀ F' H' J, StepE w F H F' H' → Base w F' H' m → ItOk K w F' H' (G w) J xs → R J H') (PostX K mg w F H fun c dd H' => W c dd σ H') n
/-- read while no list changes (a comprehension); read while lists of one's own change (a loop) -/
abbrev gAll : Addr → Addr → Prop := fun w a => a ≠ w
abbrev gFz : Addr → Addr → Prop := fun _ _ => False
end
section
variable {X : Cx} {W : WX} {G : Addr → Addr → Prop}
theorem PI.of {X : Cx} {tg e : Expr} {t t' : TI} (h : PI X tg e t) (k : ∀ σ H Q, t' σ H Q → t σ H Q) : PI X tg e t' := ⟨fun pins s σ H Q I q => h.run pins s σ H Q I (k σ H Q q)⟩
theorem dQ_all {e : Expr} {f : DEnv → T Sq} (h : PE X e (tS X.K X.mg W f)) : PE X e (tQ X.K X.mg gAll W f) := PE.of h fun σ H Q ⟨w, F, ρ, n, c, q⟩ =>
  tS.go c q (fun _ _ h => h) fun s m q1 F1 H1 a vs s1 c1 hs r => q1 F1 H1 a vs s1 c1.toBase (fun F2 H2 sub kp kg => by
    cases s with
    | t xs => exact TupAt.fz sub kp hs
    | l xs => exact ⟨hs.1, kg _ _ hs.1 hs.2⟩) r
theorem dQ_fz {e : Expr} {f : DEnv → T D} (h : PE X e (tD X.K X.mg W f)) : PE X e (tQ X.K X.mg G W (dSq f)) := PE.of h fun σ H Q ⟨w, F, ρ, n, c, q⟩ =>
  tD.go c (T.wp_bind _ _ |>.mp q) (fun _ _ h => h) fun d m q1 F1 H1 v s1 c1 r => by
    cases r with
    | tup ht hr => exact q1 F1 H1 _ _ s1 c1.toBase (fun F2 H2 sub kp kg => TupAt.fz sub kp ht) hr
    | lst hf ht hr => exact q1 F1 H1 _ _ s1 c1.toBase (fun F2 H2 sub kp kg => ⟨fun z => c1.nw (z ▸ hf), kp _ _ hf ht⟩) hr
    | _ => exact q1.elim
theorem tQ.go {f : DEnv → T Sq} {σ : St} {H : Hp} {Q : VK} {w : Addr} {F : Addr → Prop} {ρ : DEnv} {n : Nat} {E : Exc → Nat → Prop} {R : Sq → Nat → Prop} (c : Cur X.K w F H σ ρ n) (h : (f ρ).wp R E n)
    (hE : ∀ e m, E e m → PostX X.K X.mg w F H (fun c dd H' => W c dd σ H') e m)
    (hR : ∀ s m, R s m → ∀ F' H' a vs, StepE w F H F' H' → Cur X.K w F' H' σ ρ m → SqSt X.K w F' H' (G w) a vs s → Reps X.K w F' H' vs s.xs → Q (.ref a) H') : tQ X.K X.mg G W f σ H Q :=
  ⟨w, F, ρ, n, c, T.wp_mono (fun d m r F' H' a v s b h1 p => hR d m r F' H' a v s (c.step s b) h1 p) hE h⟩
def dItems (f : DEnv → T Sq) : DEnv → T (List D) := fun ρ => (f ρ).bind fun s => .ok s.xs
theorem SqSt.self {K : PySem.W.Frag} {w : Addr} {F : Addr → Prop} {H : Hp} {G : Addr → Prop} {a : Addr} {vs : List V} {s : Sq} (h : SqSt K w F H G a vs s) : SqAt K w F H a vs s := h F H (fun _ z => z) (fun _ _ _ z => z) fun _ _ _ z => z
theorem ItOk.list {K : PySem.W.Frag} {w : Addr} {F : Addr → Prop} {H : Hp} {G : Addr → Prop} {a : Addr} {vs : List V} {xs : List D} (h : SqSt K w F H G a vs (.l xs)) (r : Reps K w F H vs xs) : ItOk K w F H G (Itl K a) xs := fun F2 H2 n sub kp kg b => by
  have q : SqL K H2 a vs := SqL.of (h F2 H2 sub kp kg).2
  refine ⟨fun i x hx => ?_, vs, q, by rw [r.length]; exact Nat.le_refl _⟩
  obtain ⟨v, hv, rv⟩ := r.get hx
  refine ⟨⟨vs, v, q, hv⟩, fun v' H3 y => ?_⟩
  obtain ⟨rfl, y⟩ := y
  have e : v = v' := Option.some.inj (hv.symm.trans (y vs q))
  exact ⟨F2, .refl, b, e ▸ rv.fz sub kp⟩
theorem ItOk.tup {K : PySem.W.Frag} {w : Addr} {F : Addr → Prop} {H : Hp} {G : Addr → Prop} {a : Addr} {vs : List V} {xs : List D} (h : SqSt K w F H G a vs (.t xs)) (r : Reps K w F H vs xs) : ItOk K w F H G (Itt K a) xs := fun F2 H2 n sub kp kg b => by
  have q : SqT K H2 a vs := TupAt.seq (h F2 H2 sub kp kg)
  refine ⟨fun i x hx => ?_, vs, q, by rw [r.length]; exact Nat.le_refl _⟩
  obtain ⟨v, hv, rv⟩ := r.get hx
  refine ⟨⟨vs, v, q, hv⟩, fun v' H3 y => ?_⟩
  obtain ⟨rfl, y⟩ := y
  have e : v = v' := Option.some.inj (hv.symm.trans (y vs q))
  exact ⟨F2, .refl, b, e ▸ rv.fz sub kp⟩
theorem di_seq {tg e : Expr} {f : DEnv → T Sq} (h : PE X e (tQ X.K X.mg G W f)) : PI X tg e (tI X.K X.mg G W (dItems f)) := PI.of (pi_seq h) fun σ H R ⟨w, F, ρ, n, c, q⟩ =>
  tQ.go c (T.wp_bind _ _ |>.mp q) (fun _ _ h => h) fun s m q1 F1 H1 a vs s1 c1 hs r => by
    cases s with
    | l xs => exact ⟨a, vs, rfl, .inl ⟨SqL.of hs.self.2, q1 F1 H1 _ s1 c1.toBase (ItOk.list hs r)⟩⟩
    | t xs => exact ⟨a, vs, rfl, .inr ⟨TupAt.seq hs.self, q1 F1 H1 _ s1 c1.toBase (ItOk.tup hs r)⟩⟩
/-- pairs with numbers -/
def numbered (k : Nat) : List D → List D
  | [] => []
  | x :: r => .tup [.int k, x] :: numbered (k + 1) r
theorem numbered_get : ∀ (xs : List D) (k i : Nat) (x : D), (numbered k xs)[i]? = some x → ∃ y, xs[i]? = some y ∧ x = .tup [.int ((k + i : Nat) : Int), y]
  | [], _, _, _, h => by simp [numbered] at h
  | y :: r, k, 0, x, h => by
    simp only [numbered, List.getElem?_cons_zero, Option.some.injEq] at h
    exact ⟨y, rfl, h.symm⟩
  | y :: r, k, i + 1, x, h => by
    simp only [numbered, List.getElem?_cons_succ] at h
    obtain ⟨z, h1, h2⟩ := numbered_get r (k + 1) i x h
    exact ⟨z, by simpa using h1, by rw [h2, show k + 1 + i = k + (i + 1) by omega]⟩
theorem numbered_length : ∀ (xs : List D) (k : Nat), (numbered k xs).length = xs.length
  | [], _ => rfl
  | _ :: r, k => congrArg Nat.succ (numbered_length r (k + 1))
theorem pair_new {K : PySem.W.Frag} {w : Addr} {F : Addr → Prop} {H : Hp} {n : Nat} {x y : V} {dx dy : D} {T : Addr} (b : Base w F H n) (rx : Rep K w F H x dx) (ry : Rep K w F H y dy) (hT : H T = none) :
    ∃ F3, StepE w F H F3 (upd H T (.tup [x, y])) ∧ Base w F3 (upd H T (.tup [x, y])) n ∧ Rep K w F3 (upd H T (.tup [x, y])) (.ref T) (.tup [dx, dy]) := ⟨_, tup_new b (.cons rx (.cons ry .nil)) hT⟩
def dEnum (f : DEnv → T Sq) : DEnv → T (List D) := fun ρ => (f ρ).bind fun s => .ok (numbered 0 s.xs)
theorem ItOk.enumL {K : PySem.W.Frag} {w : Addr} {F : Addr → Prop} {H : Hp} {G : Addr → Prop} {a : Addr} {vs : List V} {xs : List D} (h : SqSt K w F H G a vs (.l xs)) (r : Reps K w F H vs xs) : ItOk K w F H G (Ite K a) (numbered 0 xs) := fun F2 H2 n sub kp kg b => by
  have q : SqL K H2 a vs := SqL.of (h F2 H2 sub kp kg).2
  refine ⟨fun i x hx => ?_, vs, q, by rw [r.length, numbered_length]; exact Nat.le_refl _⟩
  obtain ⟨d, hd, rfl⟩ := numbered_get xs 0 i x hx
  obtain ⟨v, hv, rv⟩ := r.get hd
  refine ⟨⟨vs, v, q, hv⟩, fun v' H3 y => ?_⟩
  obtain ⟨T, x, rfl, hT, rfl, y⟩ := y
  have e : v = x := Option.some.inj (hv.symm.trans (y vs q))
  subst e
  rw [Nat.zero_add]
  exact pair_new b (.int _) (rv.fz sub kp) hT
theorem ItOk.enumT {K : PySem.W.Frag} {w : Addr} {F : Addr → Prop} {H : Hp} {G : Addr → Prop} {a : Addr} {vs : List V} {xs : List D} (h : SqSt K w F H G a vs (.t xs)) (r : Reps K w F H vs xs) : ItOk K w F H G (ItET K a) (numbered 0 xs) := fun F2 H2 n sub kp kg b => by
  have q : SqT K H2 a vs := TupAt.seq (h F2 H2 sub kp kg)
  refine ⟨fun i x hx => ?_, vs, q, by rw [r.length, numbered_length]⟩
  obtain ⟨d, hd, rfl⟩ := numbered_get xs 0 i x hx
  obtain ⟨v, hv, rv⟩ := r.get hd
  refine ⟨⟨vs, v, q, hv⟩, fun v' H3 y => ?_⟩
  obtain ⟨T, x, rfl, hT, rfl, y⟩ := y
  have e : v = x := Option.some.inj (hv.symm.trans (y vs q))
  subst e
  rw [Nat.zero_add]
  exact pair_new b (.int _) (rv.fz sub kp) hT
theorem di_enum {e : Expr} {f : DEnv → T Sq} {p pos tpos : Pos} {elts : List Expr} {kk : Nat} (hg : Gl X "enumerate") (hm : X.mg "enumerate" = none) (h : PE X e (tQ X.K X.mg G W f))
    (he : starEach (e :: []) X.env = (false, eval e X.env) :: starEach [] X.env := by rfl) (hs : starEach [e] X.env = [(false, eval e X.env)] := by rfl) : PI X (.Tuple elts kk tpos) (.Call (.Name "enumerate" p) [e] [] pos) (tI X.K X.mg G W (dEnum f)) :=
  PI.of (pi_enumA hg hm (pa_cons h pa_nil he) hs) fun σ H R ⟨w, F, ρ, n, c, q⟩ => arg1 <| tQ.go c (T.wp_bind _ _ |>.mp q) (fun _ _ h => h) fun s m q1 F1 H1 a vs s1 c1 hs r => by
    cases s with
    | l xs => exact ⟨a, vs, rfl, .inl ⟨SqL.of hs.self.2, q1 F1 H1 _ s1 c1.toBase (ItOk.enumL hs r)⟩⟩
    | t xs => exact ⟨a, vs, rfl, .inr ⟨TupAt.seq hs.self, q1 F1 H1 _ s1 c1.toBase (ItOk.enumT hs r)⟩⟩
/-- lo, lo + 1, .. (n of them) -/
def upFrom (lo : Int) : Nat → List D
  | 0 => []
  | n + 1 => .int lo :: upFrom (lo + 1) n
theorem upFrom_length : ∀ (n : Nat) (lo : Int), (upFrom lo n).length = n
  | 0, _ => rfl
  | n + 1, lo => congrArg Nat.succ (upFrom_length n (lo + 1))
theorem upFrom_get : ∀ (n i : Nat) (lo : Int) (x : D), (upFrom lo n)[i]? = some x → i < n ∧ x = .int (lo + i)
  | 0, _, _, _, h => by simp [upFrom] at h
  | n + 1, 0, lo, x, h => by
    simp only [upFrom, List.getElem?_cons_zero, Option.some.injEq] at h
    exact ⟨Nat.succ_pos _, by rw [← h]; congr 1; omega⟩
  | n + 1, i + 1, lo, x, h => by
    simp only [upFrom, List.getElem?_cons_succ] at h
    obtain ⟨h1, h2⟩ := upFrom_get n i (lo + 1) x h
    exact ⟨Nat.succ_lt_succ h1, by rw [h2]; congr 1; omega⟩
theorem ItOk.range {K : PySem.W.Frag} {w : Addr} {F : Addr → Prop} {H : Hp} {G : Addr → Prop} {lo : Int} {k : Nat} : ItOk K w F H G (Itr lo k) (upFrom lo k) := fun F2 H2 n sub kp kg b => by
  refine ⟨fun i x hx => ?_, by show k ≤ _; rw [upFrom_length]; exact Nat.le_refl _⟩
  obtain ⟨h1, rfl⟩ := upFrom_get k i lo x hx
  refine ⟨h1, fun v' H3 y => ?_⟩
  obtain ⟨rfl, rfl⟩ := y
  exact ⟨F2, .refl, b, .int _⟩
/-- what range takes; decided by no reckoning, so that no great number is unrolled -/
def RngOk (j : Int) : Prop := -(2 ^ 62) ≤ j ∧ j < 2 ^ 62
instance (j : Int) : Decidable (RngOk j) := Classical.propDecidable _
def dRange1 (f : DEnv → T D) : DEnv → T (List D) := fun ρ => (f ρ).bind fun d => match d with
  | .int j => if RngOk j then .ok (upFrom 0 j.toNat) else .fail
  | _ => .fail
def dRange2 (f g : DEnv → T D) : DEnv → T (List D) := fun ρ => (f ρ).bind fun d => (g ρ).bind fun e => match d, e with
  | .int i, .int j => if RngOk i ∧ RngOk j then .ok (upFrom i (j - i).toNat) else .fail
  | _, _ => .fail
theorem di_range1 {tg a : Expr} {f : DEnv → T D} {p pos : Pos} (hg : Gl X "range") (hm : X.mg "range" = none) (h : PE X a (tD X.K X.mg W f)) (he : starEach (a :: []) X.env = (false, eval a X.env) :: starEach [] X.env := by rfl) (hs : starEach [a] X.env = [(false, eval a X.env)] := by rfl) :
    PI X tg (.Call (.Name "range" p) [a] [] pos) (tI X.K X.mg G W (dRange1 f)) := PI.of (pi_range1 hg hm (pa_cons h pa_nil he) hs) fun σ H R ⟨w, F, ρ, n, c, q⟩ => arg1 <|
  tD.go c (T.wp_bind _ _ |>.mp q) (fun _ _ h => h) fun d m q1 F1 H1 v s1 c1 r => by
    cases r with
    | int j =>
      dsimp only at q1
      split at q1
      · rename_i hb
        exact ⟨j, rfl, hb.1, hb.2, q1 F1 H1 _ s1 c1.toBase ItOk.range⟩
      · exact q1.elim
    | _ => exact q1.elim
theorem di_range2 {tg a b : Expr} {f g : DEnv → T D} {p pos : Pos} (hg : Gl X "range") (hm : X.mg "range" = none) (ha : PE X a (tD X.K X.mg W f)) (hb : PE X b (tD X.K X.mg W g)) (he : starEach (a :: [b]) X.env = (false, eval a X.env) :: starEach [b] X.env := by rfl)
    (he2 : starEach (b :: []) X.env = (false, eval b X.env) :: starEach [] X.env := by rfl) (hs : starEach [a, b] X.env = [(false, eval a X.env), (false, eval b X.env)] := by rfl) (hs2 : starEach [b] X.env = [(false, eval b X.env)] := by rfl) :
    PI X tg (.Call (.Name "range" p) [a, b] [] pos) (tI X.K X.mg G W (dRange2 f g)) := PI.of (pi_range2 hg hm (pa_cons ha (pa_cons hb pa_nil he2) he) hs hs2) fun σ H R ⟨w, F, ρ, n, c, q⟩ =>
  tD.go c (T.wp_bind _ _ |>.mp q) (fun _ _ h => h) fun d m q1 F1 H1 v s1 c1 r => tD.go c1 (T.wp_bind _ _ |>.mp q1) (fun _ _ h => h.back s1) fun d2 m2 q2 F2 H2 v2 s2 c2 r2 => by
    cases r with
    | int i =>
      cases r2 with
      | int j =>
        dsimp only at q2
        split at q2
        · rename_i hb
          exact ⟨i, j, rfl, ⟨hb.1.1, hb.1.2, hb.2.1, hb.2.2⟩, q2 F2 H2 _ (s1.trans s2) c2.toBase ItOk.range⟩
        · exact q2.elim
      | _ => exact q2.elim
    | _ => exact q2.elim
end
end
end AL
namespace AL
open PySem PySem.Spec PyProof.Rows L2
noncomputable section
/-! ## targets -/
/-- what a target stores; is: the slots that it may store into -/
def tG (K : PySem.W.Frag) (is : List Nat) (fb : D → DEnv → T DEnv) : TG := fun v σ H Q => ∃ w F ρ n d, Cur K w F H σ ρ n ∧ Rep K w F H v d ∧
  (fb d ρ).wp (fun ρ' m => ∀ σ', Cur K w F H σ' ρ' m → (∀ a, Own σ' ρ' a → Own σ ρ a) → (σ'.length = σ.length ∧ ∀ j, j ∉ is → σ'[j]? = σ[j]?) → Q σ' H) (fun _ _ => False) n
def tGs (K : PySem.W.Frag) (is : List Nat) (fb : List D → DEnv → T DEnv) : TGs := fun vs σ H Q => ∃ w F ρ n ds, Cur K w F H σ ρ n ∧ Reps K w F H vs ds ∧
  (fb ds ρ).wp (fun ρ' m => ∀ σ', Cur K w F H σ' ρ' m → (∀ a, Own σ' ρ' a → Own σ ρ a) → (σ'.length = σ.length ∧ ∀ j, j ∉ is → σ'[j]? = σ[j]?) → Q σ' H) (fun _ _ => False) n
section
variable {X : Cx} {W : WX}
theorem PG.of {X : Cx} {e : Expr} {t t' : TG} (h : PG X e t) (k : ∀ v σ H Q, t' v σ H Q → t v σ H Q) : PG X e t' := by
  constructor
  intro pins s σ H v u Q I r q
  exact h.run pins s σ H v u Q I r (k v σ H Q q)
theorem PGs.of {X : Cx} {e : List Expr} {t t' : TGs} (h : PGs X e t) (k : ∀ v σ H Q, t' v σ H Q → t v σ H Q) : PGs X e t' := by
  constructor
  intro pins s σ H v u Q I r q
  exact h.run pins s σ H v u Q I r (k v σ H Q q)
def bName (i : Nat) : D → DEnv → T DEnv := fun d ρ => .ok (ρ.set i (.sh d))
theorem dg_name {i : Nat} {x : Str} {pos : Pos} (hN : X.N.Nodup) (hi : X.N[i]? = some x) (hx : Loc X.env.scope x) (hf : X.fn x = true ∨ X.env.scope.names.lookup x = some .local := by first | exact .inl rfl | exact .inr rfl | assumption) :
    PG X (.Name x pos) (tG X.K [i] (bName i)) := PG.of (pg_name hN hi hx hf) fun v σ H Q ⟨w, F, ρ, n, d, c, r, q⟩ => by
  refine q _ ⟨c.toBase, c.env.setSh i r⟩ (fun a h => h.setSh) ⟨List.length_set, fun j hj => ?_⟩
  have ne : i ≠ j := fun e => hj (by simp [e])
  exact List.getElem?_set_ne ne
def bNil : List D → DEnv → T DEnv := fun ds ρ => match ds with
  | [] => .ok ρ
  | _ => .fail
def bCons (f : D → DEnv → T DEnv) (g : List D → DEnv → T DEnv) : List D → DEnv → T DEnv := fun ds ρ => match ds with
  | d :: r => (f d ρ).bind fun ρ' => g r ρ'
  | [] => .fail
theorem dgs_nil : PGs X [] (tGs X.K [] bNil) := PGs.of pgs_nil fun vs σ H Q ⟨w, F, ρ, n, ds, c, r, q⟩ => by
  cases r with
  | nil => exact ⟨rfl, q σ c (fun _ h => h) ⟨rfl, fun _ _ => rfl⟩⟩
  | cons => exact q.elim
theorem dgs_cons {e : Expr} {es : List Expr} {is js : List Nat} {f : D → DEnv → T DEnv} {g : List D → DEnv → T DEnv} (h1 : PG X e (tG X.K is f)) (h2 : PGs X es (tGs X.K js g))
    (hs : (assignEach (e :: es) X.env).map (·.2) = assign e X.env :: (assignEach es X.env).map (·.2) := by rfl) : PGs X (e :: es) (tGs X.K (is ++ js) (bCons f g)) := PGs.of (pgs_cons h1 h2 hs) fun vs σ H Q ⟨w, F, ρ, n, ds, c, r, q⟩ => by
  cases r with
  | nil => exact q.elim
  | cons r rr =>
    refine ⟨_, _, rfl, w, F, ρ, n, _, c, r, T.wp_mono (fun ρ1 m1 q1 σ1 c1 o1 z1 => ?_) (fun _ _ h => h) (T.wp_bind _ _ |>.mp q)⟩
    refine ⟨w, F, ρ1, m1, _, c1, rr, T.wp_mono (fun ρ2 m2 q2 σ2 c2 o2 z2 => ?_) (fun _ _ h => h) q1⟩
    refine q2 σ2 c2 (fun a h => o1 a (o2 a h)) ⟨z2.1.trans z1.1, fun j hj => ?_⟩
    rw [List.mem_append, not_or] at hj
    exact (z2.2 j hj.2).trans (z1.2 j hj.1)
def bTup (n : Nat) (g : List D → DEnv → T DEnv) : D → DEnv → T DEnv := fun d ρ => match d with
  | .tup ds => if ds.length = n then g ds ρ else .fail
  | _ => .fail
theorem dg_tup {es : List Expr} {k : Nat} {is : List Nat} {g : List D → DEnv → T DEnv} {pos : Pos} {n : Nat} (hc : X.calm = true) (h : PGs X es (tGs X.K is g)) (hn : (assignEach es X.env).length = n := by rfl) (hst : (assignEach es X.env).findIdx? (·.1) = none := by rfl) :
    PG X (.Tuple es k pos) (tG X.K is (bTup n g)) := PG.of (pg_tup hc h hn hst) fun v σ H Q ⟨w, F, ρ, m, d, c, r, q⟩ => by
  cases r with
  | tup ht hr =>
    unfold bTup at q
    dsimp only at q
    split at q
    · rename_i hl
      exact ⟨_, _, rfl, ht.seq, by rw [hr.length]; exact hl, w, F, ρ, m, _, c, hr, q⟩
    · exact q.elim
  | _ => exact q.elim
end
/-! ## comprehensions -/
namespace T
/-- no error -/
def nox {α : Type} : T α → T α
  | .ok a => .ok a
  | .exc _ => .fail
  | .draw m k => .draw m fun r => (k r).nox
  | .fail => .fail
theorem wp_nox {α : Type} {t : T α} {Q : α → Nat → Prop} {E E' : Exc → Nat → Prop} : ∀ {n : Nat}, t.nox.wp Q E n → t.wp Q E' n := by
  induction t with
  | ok a => exact fun {n} h => h
  | exc e => exact fun {n} h => h.elim
  | draw m f ih => exact fun {n} h => ⟨h.1, h.2.1, fun r h0 h1 => ih r (h.2.2 r h0 h1)⟩
  | fail => exact fun {n} h => h
@[simp] theorem nox_ok {α : Type} (a : α) : (T.ok a).nox = .ok a := rfl
@[simp] theorem nox_fail {α : Type} : (T.fail : T α).nox = .fail := rfl
@[simp] theorem nox_draw {α : Type} (m : Int) (k : Int → T α) : (T.draw m k).nox = .draw m fun r => (k r).nox := rfl
@[simp] theorem nox_bind {α β : Type} (t : T α) (k : α → T β) : (t.bind k).nox = t.nox.bind fun a => (k a).nox := by
  induction t with
  | ok a => rfl
  | exc e => rfl
  | draw m f ih => simp only [bind_draw, nox_draw]; exact congrArg _ (funext ih)
  | fail => rfl
end T
def dWipe (ρ : DEnv) : List Nat → DEnv
  | [] => ρ
  | v :: vs => (dWipe ρ vs).set v .no
def lcGo (fb : D → DEnv → T DEnv) (ft : DEnv → T Bool) (fe : DEnv → T D) (ρ : DEnv) : List D → T (List D)
  | [] => .ok []
  | x :: r => (fb x ρ).nox.bind fun ρ1 => (ft ρ1).nox.bind fun b => if b then (fe ρ1).nox.bind fun y => (lcGo fb ft fe ρ r).bind fun ys => .ok (y :: ys) else lcGo fb ft fe ρ r
def dLc (fi : DEnv → T (List D)) (fb : D → DEnv → T DEnv) (ft : DEnv → T Bool) (fe : DEnv → T D) (vs : List Nat) : DEnv → T (List D) := fun ρ => (fi ρ).bind fun xs => if xs.length ≤ sizeLine then lcGo fb ft fe (dWipe ρ vs) xs else .fail
abbrev W0 : WX := fun _ _ _ _ => False
section
variable {K : PySem.W.Frag} {mg : Str → Option Value} {w : Addr} {F : Addr → Prop} {H : Hp} {n : Nat} {σ : St} {ρ : DEnv}
theorem dWipe_len : ∀ (vs : List Nat), (dWipe ρ vs).length = ρ.length
  | [] => rfl
  | v :: vs => by unfold dWipe; rw [List.length_set, dWipe_len vs]
theorem setNo (e : REnv K w F H σ ρ) (i : Nat) : REnv K w F H (σ.set i none) (ρ.set i .no) where
  len := by rw [List.length_set, List.length_set, e.len]
  sh := fun j d' h => by
    rw [set_get] at h ⊢
    split at h
    · split at h <;> cases h
    · rename_i h1
      rw [if_neg h1]
      exact e.sh j d' h
  own := fun j xs h => by
    rw [set_get] at h ⊢
    split at h
    · split at h <;> cases h
    · rename_i h1
      rw [if_neg h1]
      exact e.own j xs h
  apart := fun j k xs ys a ne h1 h2 h3 => by
    rw [set_get] at h1 h2 h3 ⊢
    split at h1
    · split at h1 <;> cases h1
    · split at h2
      · split at h2 <;> cases h2
      · rename_i q1 q2
        rw [if_neg q1] at h3
        rw [if_neg q2]
        exact e.apart j k xs ys a ne h1 h2 h3
theorem REnv.wipe (e : REnv K w F H σ ρ) : ∀ vs : List Nat, REnv K w F H (L2.wipe σ vs) (dWipe ρ vs)
  | [] => e
  | v :: vs => setNo (REnv.wipe e vs) v
theorem wipe_in : ∀ {vs : List Nat} {i : Nat}, i ∈ vs → i < σ.length → (L2.wipe σ vs)[i]? = some none
  | [], _, h, _ => by cases h
  | v :: vs, i, h, hl => by
    show ((L2.wipe σ vs).set v none)[i]? = some none
    rw [set_get]
    split
    · rename_i e
      rw [wipe_length, if_pos hl]
    · rename_i ne
      rcases List.mem_cons.mp h with e | h
      · exact absurd e.symm ne
      · exact wipe_in h hl
theorem wipe_eq {vs : List Nat} {σ' : St} (hl : σ'.length = σ.length) (h : ∀ j, j ∉ vs → σ'[j]? = (L2.wipe σ vs)[j]?) : L2.wipe σ' vs = L2.wipe σ vs := by
  apply List.ext_getElem?
  intro j
  by_cases hj : j ∈ vs
  · by_cases hz : j < σ.length
    · rw [wipe_in hj hz, wipe_in hj (by rw [hl]; exact hz)]
    · rw [List.getElem?_eq_none (by rw [wipe_length, hl]; omega), List.getElem?_eq_none (by rw [wipe_length]; omega)]
  · rw [wipe_out hj, h j hj]
end
section
variable {X : Cx} {W : WX}
theorem lc_read {fi : DEnv → T (List D)} {is : List Nat} {fb : D → DEnv → T DEnv} {ft : DEnv → T Bool} {fe : DEnv → T D} {vs : List Nat} (his : ∀ i ∈ is, i ∈ vs) {σ : St} {H : Hp} {Q : VK} (h : tN X.K X.mg W (dLc fi fb ft fe vs) σ H Q) :
    tLc (tI X.K X.mg gAll W fi) (tG X.K is fb) (tDT X.K X.mg W0 ft) (tD X.K X.mg W0 fe) vs σ H Q := by
  obtain ⟨w, F, ρ, n, c, q⟩ := h
  refine ⟨w, F, ρ, n, c, T.wp_mono (fun xs m q1 F1 H1 J s1 b1 it L hL => ?_) (fun _ _ h => h) (T.wp_bind _ _ |>.mp q)⟩
  split at q1
  rotate_left
  · exact q1.elim
  rename_i hz
  have c1 := c.step s1 b1
  have hHD : H L = none := s1.dom L hL
  have Lw : L ≠ w := c1.toBase.pne hL
  refine ⟨fun i k H2 => ∃ (F2 : Addr → Prop) (n2 : Nat) (acc : List V) (ds : List D), i + k = xs.length ∧ StepE w F H F2 H2 ∧ Base w F2 H2 n2 ∧ (∀ b, F1 b → F2 b) ∧ (∀ b o, b ≠ w → H1 b = some o → H2 b = some o) ∧ ¬ F2 L ∧ H2 L = some (.lst acc) ∧ Reps X.K w F2 H2 acc ds ∧
    REnv X.K w F2 H2 (L2.wipe σ vs) (dWipe ρ vs) ∧ acc.length ≤ i ∧
    (lcGo fb ft fe (dWipe ρ vs) (xs.drop i)).wp (fun ys m => ∀ F' H' p us, StepE w F H F' H' → Base w F' H' m → H p = none → ¬ F' p → H' p = some (.lst us) → Reps X.K w F' H' us (ds ++ ys) → Q (.ref p) H') (PostX X.K X.mg w F H fun c dd H' => W c dd σ H') n2, ⟨xs.length, F1, m, [], [], Nat.zero_add _, ?_, b1.layOwn hL, fun _ z => z, fun b o _ z => ?_, b1.pnf hL, upd_same, .nil, ?_, Nat.le_refl _, ?_⟩, fun i k H2 hW => ?_⟩
  · exact s1.trans (.layOwn hL)
  · rw [upd_ne (ne_of_none z hL)]
    exact z
  · exact (c1.env.wipe vs).step (.layOwn hL) b1
  · rw [List.drop_zero]
    exact q1
  obtain ⟨F2, n2, acc, ds, hik, s2, b2, f12, k12, nfL, hLa, ra, env, hal, q2⟩ := hW
  have kpF1 : ∀ b o, F1 b → H1 b = some o → H2 b = some o := fun b o f z => k12 b o (fun e => b1.nw (e ▸ f)) z
  have IT := it F2 H2 n2 f12 kpF1 (fun b o g z => k12 b o g z) b2
  by_cases hi : i < xs.length
  · have hx : xs[i]? = some xs[i] := List.getElem?_eq_getElem hi
    obtain ⟨go, yl⟩ := IT.1 i _ hx
    have dr : xs.drop i = xs[i] :: xs.drop (i + 1) := List.drop_eq_getElem_cons hi
    rw [dr] at q2
    simp only [lcGo] at q2
    refine .inr ⟨go, fun H' => ∃ (F2 : Addr → Prop) (n2 : Nat) (acc : List V) (ds : List D), StepE w F H F2 H' ∧ Base w F2 H' n2 ∧ (∀ b, F1 b → F2 b) ∧ (∀ b o, b ≠ w → H1 b = some o → H' b = some o) ∧ ¬ F2 L ∧ H' L = some (.lst acc) ∧ Reps X.K w F2 H' acc ds ∧
      REnv X.K w F2 H' (L2.wipe σ vs) (dWipe ρ vs) ∧ acc.length ≤ i + 1 ∧
      (lcGo fb ft fe (dWipe ρ vs) (xs.drop (i + 1))).wp (fun ys m => ∀ F' H' p us, StepE w F H F' H' → Base w F' H' m → H p = none → ¬ F' p → H' p = some (.lst us) → Reps X.K w F' H' us (ds ++ ys) → Q (.ref p) H') (PostX X.K X.mg w F H fun c dd H' => W c dd σ H') n2,
      fun H' hN => ?_, fun v H3 y => ?_⟩
    · obtain ⟨F2, n2, acc, ds, r⟩ := hN
      exact ⟨k - 1, by omega, F2, n2, acc, ds, by omega, r⟩
    · obtain ⟨F3, s3, b3, rx⟩ := yl v H3 y
      have hL3 : H3 L = some (.lst acc) := s3.keep L _ Lw hLa
      have env3 := env.step s3 b2
      refine ⟨w, F3, dWipe ρ vs, n2, _, ⟨b3, env3⟩, rx, T.wp_mono (fun ρ4 m4 q4 σ4 c4 o4 z4 => ?_) (fun _ _ h => h.elim) (T.wp_nox (E' := fun _ _ => False) (T.wp_bind _ _ |>.mp q2))⟩
      refine ⟨wipe_eq (z4.1.trans (wipe_length σ vs)) fun j hj => z4.2 j fun hm => hj (his j hm), ?_⟩
      refine ⟨w, F3, ρ4, m4, c4, T.wp_mono (fun b m5 q5 F5 H5 s5 b5 => ?_) (fun _ _ h => h.elim) (T.wp_nox (E' := fun _ _ => False) (T.wp_bind _ _ |>.mp q4))⟩
      have s25 := s3.trans s5
      have nf5 : ¬ F5 L := fun f => (s25.new L f).elim nfL fun z => by rw [hLa] at z; cases z
      have hL5 : H5 L = some (.lst acc) := s5.keep L _ Lw hL3
      cases b with
      | false =>
        rw [if_neg Bool.false_ne_true] at q5
        refine iteF ?_
        exact ⟨F5, m5, acc, ds, s2.trans s25, b5, fun b z => s25.sub b (f12 b z), fun b o nb z => s25.keep b o nb (k12 b o nb z), nf5, hL5, ra.step s25 b2, env.step s25 b2, Nat.le_succ_of_le hal, q5⟩
      | true =>
        rw [if_pos rfl] at q5
        refine iteT ?_
        refine ⟨w, F5, ρ4, m5, c4.step s5 b5, T.wp_mono (fun dy m6 q6 F6 H6 vy s6 b6 ry => ?_) (fun _ _ h => h.elim) (T.wp_nox (E' := fun _ _ => False) (T.wp_bind _ _ |>.mp q5))⟩
        have s26 := s25.trans s6
        have nf6 : ¬ F6 L := fun f => (s26.new L f).elim nfL fun z => by rw [hLa] at z; cases z
        have hL6 : H6 L = some (.lst acc) := s6.keep L _ Lw hL5
        have sub : ∀ b, F6 b → F6 b := fun _ z => z
        have kp6 : ∀ b o, F6 b → H6 b = some o → (upd H6 L (.lst (acc ++ [vy]))) b = some o := fun b o f z => by
          have nb : b ≠ L := fun e => nf6 (by rw [← e]; exact f)
          rw [upd_ne nb]
          exact z
        refine ⟨acc, hL6, by omega, F6, m6, acc ++ [vy], ds ++ [dy], ?_, ?_, fun b z => s26.sub b (f12 b z), fun b o nb z => ?_, nf6, upd_same, ?_, ?_, ?_, ?_⟩
        · have sA := s2.trans s26
          refine ⟨fun a o na z => ?_, sA.sub, sA.new, fun a z => ?_⟩
          · rw [upd_ne (ne_of_none z hHD)]
            exact sA.keep a o na z
          · by_cases e : a = L
            · rw [e]; exact hHD
            · rw [upd_ne e] at z
              exact sA.dom a z
        · obtain ⟨x, y, z, h1, h2⟩ := b6.well
          refine ⟨⟨x, y, z, by rw [upd_ne Lw.symm]; exact h1, h2⟩, b6.nw, fun a f => ?_⟩
          obtain ⟨o, ho⟩ := b6.dom a f
          exact ⟨o, kp6 a o f ho⟩
        · rw [upd_ne (ne_of_none z hL)]
          exact s26.keep b o nb (k12 b o nb z)
        · exact ((ra.step s26 b2).fz sub kp6).append (.cons (ry.fz sub kp6) .nil)
        · have e6 := env.step s26 b2
          refine ⟨e6.len, fun j d hj => ?_, fun j zs hj => ?_, e6.apart⟩
          · obtain ⟨v', h1, h2⟩ := e6.sh j d hj
            exact ⟨v', h1, h2.fz sub kp6⟩
          · obtain ⟨a, h1, h2, h3, us, h4, h5⟩ := e6.own j zs hj
            refine ⟨a, h1, h2, h3, us, ?_, h5.fz sub kp6⟩
            have na : a ≠ L := by
              intro e
              obtain ⟨a', us', p1, p2, p3, p4, p5⟩ := (c1.env.wipe vs).at_own hj
              rw [p1] at h1
              have ee : a' = a := by
                have := Option.some.inj h1
                exact V.ref.inj this
              rw [ee, e, hL] at p4
              cases p4
            rw [upd_ne na]
            exact h4
        · rw [List.length_append]
          exact Nat.succ_le_succ hal
        · refine T.wp_mono (fun ys m7 q7 F' H' p us t1 t2 t3 t4 t5 t6 => ?_) (fun _ _ h => h) (T.wp_bind _ _ |>.mp q6)
          refine q7 F' H' p us t1 t2 t3 t4 t5 ?_
          rw [List.append_assoc] at t6
          exact t6
  · have e : i = xs.length := by omega
    subst e
    refine .inl ⟨IT.2, ?_⟩
    rw [List.drop_length] at q2
    have q3 := q2 F2 H2 L acc s2 b2 hHD nfL hLa
    rw [List.append_nil] at q3
    exact q3 ra
end
end
end AL
namespace AL
open PySem PySem.Spec PyProof.Rows L2
noncomputable section
section
variable {X : Cx} {W : WX}
theorem PTs.of {X : Cx} {e : List Expr} {t t' : TT} (h : PTs X e t) (k : ∀ σ H Q, t' σ H Q → t σ H Q) : PTs X e t' := ⟨fun pins s σ H Q I q => h.run pins s σ H Q I (k σ H Q q)⟩
def dYes : DEnv → T Bool := fun _ => .ok true
theorem dts_nil : PTs X [] (tDT X.K X.mg W dYes) := PTs.of pts_nil fun σ H Q ⟨w, F, ρ, n, c, q⟩ => q F H .refl c.toBase
theorem dts_one {c : Expr} {f : DEnv → T Bool} (h : PT X c (tDT X.K X.mg W f)) : PTs X [c] (tDT X.K X.mg W f) := pts_one h
/-- [elt for target in iter if ..] -/
theorem dn_lc {elt tg iter : Expr} {ifs : List Expr} {scope : Scope} {own : List (Str × Nat)} {pos : Pos} {fi : DEnv → T (List D)} {is : List Nat} {fb : D → DEnv → T DEnv} {ft : DEnv → T Bool} {fe : DEnv → T D} (hc : X.calm = true) (hN : X.N.Nodup) (hi : PI X tg iter (tI X.K X.mg gAll W fi))
    (ok : BlkOk X.N X.env.scope scope own) (his : ∀ i ∈ is, i ∈ own.map (·.2))
    (hg : ∀ (s : Shared) (H : Hp) (C : Addr) (cl : List (Str × Addr)) (fp : List Addr), PG (X.blk s H scope (compEnvC scope cl C X.env) fp) tg (tG X.K is fb))
    (ht : ∀ (s : Shared) (H : Hp) (C : Addr) (cl : List (Str × Addr)) (fp : List Addr), PTs (X.blk s H scope (compEnvC scope cl C X.env) fp) ifs (tDT X.K X.mg W0 ft))
    (he : ∀ (s : Shared) (H : Hp) (C : Addr) (cl : List (Str × Addr)) (fp : List Addr), PE (X.blk s H scope (compEnvC scope cl C X.env) fp) elt (tD X.K X.mg W0 fe)) (hs : ∀ x, foldedSetIterable iter X.env x = pure x := by intro _; rfl) :
    PE X (.ListComp elt [⟨tg, iter, ifs, 0⟩] scope pos) (tN X.K X.mg W (dLc fi fb ft fe (own.map (·.2)))) := PE.of (pe_lc hc hN hi ok hg ht he hs) fun σ H Q h => lc_read his h
end
/-! ## defs -/
/-- a def keeps its promise where no repr runs -/
structure FnG (P : Program) (w : World) (K : PySem.W.Frag) (mg : Str → Option Value) (base : Heap) (k : Nat) (f : Addr) (fd : FuncData) (ps : List Str) (sp : Sp) : Prop where
  len : ∀ vs H Q E, sp vs H Q E → vs.length = ps.length
  run : ∀ (A : Around) (outer : List Env) (s : Shared) (H : Hp) (args : Args) (us : List Value) (vs : List V) (Q : VK) (E : XK), Room k A → A.guards = some [] → Env0 P w K mg base A outer s H → BindsTo s fd args (ps.zip us) → Vals vs us → sp vs H Q E →
    codeAny (model P w) A (.call (.ref f) args) (CR (L2.CX P w) outer P w H s Q E) s
theorem FnG.mono {P : Program} {w : World} {K : PySem.W.Frag} {mg : Str → Option Value} {base : Heap} {j k : Nat} {f : Addr} {fd : FuncData} {ps : List Str} {sp : Sp} (F : FnG P w K mg base j f fd ps sp) (h : j ≤ k) : FnG P w K mg base k f fd ps sp :=
  ⟨F.len, fun A outer s H args us vs Q E hr => F.run A outer s H args us vs Q E (hr.mono h)⟩
/-- the promise of a def whose run over data is fn -/
def spD (K : PySem.W.Frag) (mg : Str → Option Value) (ar : Nat) (fn : List D → T D) : Sp := fun vs H Q E => vs.length = ar ∧ ∃ w F n ds, Base w F H n ∧ Reps K w F H vs ds ∧ (fn ds).wp (PostE K w F H Q) (PostX K mg w F H E) n
section
variable {X : Cx} {W : WX} {k : Nat} {f : Addr} {fd : FuncData} {ps : List Str} {sp : Sp} {x : Str} {p pos : Pos} {e : Expr} {es : List Expr} {t : TA}
theorem run_G {pins : List (Addr × Obj)} {s : Shared} {σ : St} {H : Hp} {Q : VK} {us : List Value} {vs : List V} {args : Args} {E : XK} (F : FnG X.prog X.w X.K X.mg X.base k f fd ps sp) (hr : Room k X.A) (hG : X.A.guards = some []) (hb : BindsTo s fd args (ps.zip us)) (hx : PassesAt (L2.CX X.prog X.w) X σ E)
    (I : Inv X pins σ H s) (r : Vals vs us) (h : sp vs H Q E) : wpAny (model X.prog X.w) X.A (call (.ref f) args.pos args.kw) (EP X pins σ Q) X.xe s := by
  refine wpAny_call (codeAny_mono (F.run X.A X.stack s H args us vs Q E hr hG I.env0 hb r h) ?_)
  intro r s' hq
  match r, hq with
  | .error e, hq => exact hx pins H s e s' I hq
  | .ok (.ret u), hq => exact I.after hq
  | .ok .next, hq => exact hq.elim
  | .ok .brk, hq => exact hq.elim
  | .ok .cont, hq => exact hq.elim
def dCall (ar : Nat) (fn : List D → T D) (a : DEnv → T (List D)) : DEnv → T D := fun ρ => (a ρ).bind fun ds => if ds.length = ar then fn ds else .fail
theorem de_call {ar : Nat} {fn : List D → T D} {fa : DEnv → T (List D)} (F : FnG X.prog X.w X.K X.mg X.base k f fd ps (spD X.K X.mg ar fn)) (hr : Room k X.A) (hG : X.A.guards = some []) (tk : Takes X W) (hg : Gl X x) (hm : X.mg x = some (.ref f)) (hk : PySem.W.keepIn X.K (.ref f) = true) (hb : Binds X.K fd ps [])
    (ha : PA X (e :: es) (tDA X.K X.mg W fa)) (hdb : (x == ("__debug__" : Str)) = false := by decide) (he : starEach (e :: es) X.env = (false, eval e X.env) :: starEach es X.env := by rfl) (hpl : (backTo pos (starEach es X.env)).any (·.1) = false := by rfl) :
    PE X (.Call (.Name x p) (e :: es) [] pos) (tD X.K X.mg W (dCall ar fn fa)) := by
  constructor
  rintro pins s σ H Q I ⟨w, F0, ρ, n, c, q⟩
  refine wpAny_Call_Name_kw (ld_glob I hg hm ?_ hdb)
  have q' := T.wp_bind _ _ |>.mp q
  have h : tDA X.K X.mg W fa σ H fun vs H1 => spD X.K X.mg ar fn vs H1 Q (WE W σ) := tDA.go c q' (fun _ _ h => h) fun ds m q1 F1 H1 vs s1 c1 r => by
    split at q1
    · rename_i hl
      exact ⟨by rw [r.length]; exact hl, w, F1, m, ds, c1.toBase, r, T.wp_mono (fun _ _ h => h.back s1) (fun _ _ h => h.back s1) q1⟩
    · exact q1.elim
  refine PySem.W.callWith_K (h₀ := X.base) I.ok.mod.kin hk (thn (ha.run pos pins s σ H _ I h) ?_) he hpl
  rintro us s1 ⟨vs, H1, I1, r, q1⟩
  refine ⟨I1.kIn, ?_⟩
  have hl : us.length = ps.length := by rw [← r.length]; exact F.len _ _ _ _ q1
  have b := hb s1 us I1.kIn (by rw [List.append_nil]; exact hl)
  rw [List.append_nil] at b
  exact run_G (args := ⟨us, []⟩) F hr hG b (passAt tk σ) I1 r q1
end
/-- keywords -/
def dArgs (π : List Nat) (a b : DEnv → T (List D)) : DEnv → T (List D) := fun ρ => (a ρ).bind fun xs => (b ρ).bind fun ys => .ok (π.map fun i => (xs ++ ys).getD i .non)
/-- how positional values and keywords' values come to the parameters: π tells each parameter's place among them -/
def KwOk (fd : FuncData) (ps ks : List Str) (n : Nat) (π : List Nat) : Prop := ∀ us ws : List Value, us.length = n → ws.length = ks.length → bindArgs fd ⟨us, ks.zip ws⟩ = pure (ps.zip (π.map fun i => (us ++ ws).getD i .none))
theorem Reps.getD {K : PySem.W.Frag} {w : Addr} {F : Addr → Prop} {H : Hp} {vs : List V} {ds : List D} (r : Reps K w F H vs ds) (i : Nat) : Rep K w F H (vs.getD i .non) (ds.getD i .non) := by
  rw [List.getD_eq_getElem?_getD, List.getD_eq_getElem?_getD]
  cases e : ds[i]? with
  | some d =>
    obtain ⟨v, h1, h2⟩ := r.get e
    rw [h1]
    exact h2
  | none =>
    have : vs[i]? = none := by
      rw [List.getElem?_eq_none_iff] at e ⊢
      rw [r.length]
      exact e
    rw [this]
    exact .non
theorem Reps.perm {K : PySem.W.Frag} {w : Addr} {F : Addr → Prop} {H : Hp} {vs : List V} {ds : List D} (r : Reps K w F H vs ds) : ∀ π : List Nat, Reps K w F H (π.map fun i => vs.getD i .non) (π.map fun i => ds.getD i .non)
  | [] => .nil
  | i :: π => .cons (r.getD i) (Reps.perm r π)
theorem Vals.getDV {vs : List V} {us : List Value} (r : Vals vs us) (i : Nat) : RelV (vs.getD i .non) (us.getD i .none) := by
  rw [List.getD_eq_getElem?_getD, List.getD_eq_getElem?_getD]
  cases e : vs[i]? with
  | some d =>
    obtain ⟨v, h1, h2⟩ := r.get e
    rw [h1]
    exact h2
  | none =>
    rw [r.none_of e]
    rfl
theorem Vals.perm {vs : List V} {us : List Value} (r : Vals vs us) : ∀ π : List Nat, Vals (π.map fun i => vs.getD i .non) (π.map fun i => us.getD i .none)
  | [] => .nil
  | i :: π => .cons (Vals.getDV r i) (Vals.perm r π)
section
variable {X : Cx} {W : WX} {k : Nat} {f : Addr} {fd : FuncData} {ps ks : List Str} {x : Str} {p pos : Pos} {es : List Expr} {kws : List Keyword} {π : List Nat}
def tDK (K : PySem.W.Frag) (mg : Str → Option Value) (W : WX) (f : DEnv → T (List D)) : TA := tDA K mg W f
theorem PK.of {X : Cx} {es : List Keyword} {t t' : TA} (h : PK X es t) (k : ∀ σ H Q, t' σ H Q → t σ H Q) : PK X es t' := ⟨fun pos pins s σ H Q I q => h.run pos pins s σ H Q I (k σ H Q q)⟩
theorem dk_nil : PK X [] (tDA X.K X.mg W dNil) := PK.of pk_nil fun σ H Q ⟨w, F, ρ, n, c, q⟩ => q F H [] .refl c.toBase .nil
theorem dk_cons {e : Expr} {nm : Option Str} {kpos : Pos} {f : DEnv → T D} {g : DEnv → T (List D)} (h : PE X e (tD X.K X.mg W f)) (hr : PK X kws (tDA X.K X.mg W g)) : PK X (⟨nm, e, kpos⟩ :: kws) (tDA X.K X.mg W (dCons f g)) := PK.of (pk_cons h hr) fun σ H Q ⟨w, F, ρ, n, c, q⟩ =>
  tD.go c (T.wp_bind _ _ |>.mp q) (fun _ _ h => h) fun d m q1 F1 H1 v s1 c1 r => tDA.go c1 (T.wp_bind _ _ |>.mp q1) (fun _ _ h => h.back s1) fun ds m2 q2 F2 H2 vs s2 c2 r2 =>
    q2 F2 H2 (v :: vs) (s1.trans s2) c2.toBase (.cons (r.step s2 c1.toBase) r2)
/-- f(e, .., k = v, ..): n positional values -/
def dCallK (ar n kn : Nat) (π : List Nat) (fn : List D → T D) (a b : DEnv → T (List D)) : DEnv → T D := fun ρ => (a ρ).bind fun xs => (b ρ).bind fun ys => if π.length = ar ∧ xs.length = n ∧ ys.length = kn then fn (π.map fun i => (xs ++ ys).getD i .non) else .fail
theorem kw_read {ar : Nat} {fn : List D → T D} {fa fb : DEnv → T (List D)} {n kn : Nat} {σ : St} {H : Hp} {Q : VK} (h : tD X.K X.mg W (dCallK ar n kn π fn fa fb) σ H Q) :
    tDA X.K X.mg W fa σ H fun vs H1 => tDA X.K X.mg W fb σ H1 fun zs H2 => vs.length = n ∧ zs.length = kn ∧ spD X.K X.mg ar fn (π.map fun i => (vs ++ zs).getD i .non) H2 Q (WE W σ) := by
  obtain ⟨w, F, ρ, n', c, q⟩ := h
  refine tDA.go c (T.wp_bind _ _ |>.mp q) (fun _ _ h => h) fun ds m q1 F1 H1 vs s1 c1 r => tDA.go c1 (T.wp_bind _ _ |>.mp q1) (fun _ _ h => h.back s1) fun es m2 q2 F2 H2 zs s2 c2 r2 => ?_
  split at q2
  · rename_i hl
    refine ⟨by rw [r.length]; exact hl.2.1, by rw [r2.length]; exact hl.2.2, by rw [List.length_map]; exact hl.1, w, F2, m2, _, c2.toBase, ((r.step s2 c1.toBase).append r2).perm π, ?_⟩
    exact T.wp_mono (fun _ _ h => h.back (s1.trans s2)) (fun _ _ h => h.back (s1.trans s2)) q2
  · exact q2.elim
theorem de_callK0 {ar kn : Nat} {fn : List D → T D} {fb : DEnv → T (List D)} (F : FnG X.prog X.w X.K X.mg X.base k f fd ps (spD X.K X.mg ar fn)) (hr : Room k X.A) (hG : X.A.guards = some []) (tk : Takes X W) (hg : Gl X x) (hm : X.mg x = some (.ref f)) (hk : PySem.W.keepIn X.K (.ref f) = true)
    (hb : KwOk fd ps ks 0 π) (hkn : ks.length = kn) (hkw : PK X kws (tDA X.K X.mg W fb)) (hall : (backToKw pos (keywordEach kws X.env)).all (·.1.isSome) = true := by rfl) (hks : (backToKw pos (keywordEach kws X.env)).filterMap (·.1) = ks := by rfl)
    (hdb : (x == ("__debug__" : Str)) = false := by decide) (hpl : ((backTo pos (starEach [] X.env)).any (·.1) || (backToKw pos (keywordEach kws X.env)).any (·.1.isNone)) = false := by rfl) :
    PE X (.Call (.Name x p) [] kws pos) (tD X.K X.mg W (dCallK ar 0 kn π fn dNil fb)) := by
  constructor
  rintro pins s σ H Q I h
  have h := kw_read h
  refine wpAny_Call_Name_kw (ld_glob I hg hm ?_ hdb)
  have h0 := (da_nil (X := X) (W := W)).run pos pins s σ H _ I h
  refine PySem.W.callWith_KW0 (h₀ := X.base) I.ok.mod.kin hk hall ?_ hpl
  obtain ⟨w, F0, ρ, n, c, q⟩ := h
  have q := q F0 H [] .refl c.toBase .nil
  refine thn (hkw.run pos pins s σ H _ I q) ?_
  rintro ws s1 ⟨zs, H1, I1, r, l1, l2, q1⟩
  refine ⟨I1.kIn, ?_⟩
  rw [hks]
  have b : BindsTo s1 fd ⟨[], ks.zip ws⟩ (ps.zip (π.map fun i => ([] ++ ws).getD i .none)) := .of_eq (hb [] ws rfl (by rw [← r.length, l2, hkn]))
  exact run_G (args := ⟨[], ks.zip ws⟩) F hr hG b (passAt tk σ) I1 (Vals.perm r π) q1
theorem de_callK {ar n kn : Nat} {fn : List D → T D} {e : Expr} {fa fb : DEnv → T (List D)} (F : FnG X.prog X.w X.K X.mg X.base k f fd ps (spD X.K X.mg ar fn)) (hr : Room k X.A) (hG : X.A.guards = some []) (tk : Takes X W) (hg : Gl X x) (hm : X.mg x = some (.ref f)) (hk : PySem.W.keepIn X.K (.ref f) = true)
    (hb : KwOk fd ps ks n π) (hkn : ks.length = kn) (ha : PA X (e :: es) (tDA X.K X.mg W fa)) (hkw : PK X kws (tDA X.K X.mg W fb)) (hall : (backToKw pos (keywordEach kws X.env)).all (·.1.isSome) = true := by rfl) (hks : (backToKw pos (keywordEach kws X.env)).filterMap (·.1) = ks := by rfl)
    (hdb : (x == ("__debug__" : Str)) = false := by decide) (he : starEach (e :: es) X.env = (false, eval e X.env) :: starEach es X.env := by rfl) (hpl : ((backTo pos (starEach (e :: es) X.env)).any (·.1) || (backToKw pos (keywordEach kws X.env)).any (·.1.isNone)) = false := by rfl) :
    PE X (.Call (.Name x p) (e :: es) kws pos) (tD X.K X.mg W (dCallK ar n kn π fn fa fb)) := by
  constructor
  rintro pins s σ H Q I h
  have h := kw_read h
  refine wpAny_Call_Name_kw (ld_glob I hg hm ?_ hdb)
  refine PySem.W.callWith_KW (h₀ := X.base) I.ok.mod.kin hk hall (thn (ha.run pos pins s σ H _ I h) ?_) hpl he
  rintro us s1 ⟨vs, H1, I1, r1, q⟩
  refine thn (hkw.run pos pins s1 σ H1 _ I1 q) ?_
  rintro ws s2 ⟨zs, H2, I2, r, l1, l2, q1⟩
  refine ⟨I2.kIn, ?_⟩
  rw [hks]
  have b : BindsTo s2 fd ⟨us, ks.zip ws⟩ (ps.zip (π.map fun i => (us ++ ws).getD i .none)) := .of_eq (hb us ws (by rw [← r1.length, l1]) (by rw [← r.length, l2, hkn]))
  exact run_G (args := ⟨us, ks.zip ws⟩) F hr hG b (passAt tk σ) I2 (Vals.perm (r1.append r) π) q1
end
end
end AL
namespace AL
open PySem PySem.Spec PyProof.Rows L2
noncomputable section
/-! ## statements -/
/-- what is wanted of a statement's end -/
def PostS (K : PySem.W.Frag) (mg : Str → Option Value) (W : WX) (w : Addr) (F : Addr → Prop) (H : Hp) (O : Addr → Prop) (D : Ends) : Fl → Nat → Prop := fun fl m => match fl with
  | .nx ρ' => ∀ F' H' σ', StepS w F H O F' H' (Own σ' ρ') → Cur K w F' H' σ' ρ' m → D.nx σ' H'
  | .bk ρ' => ∀ F' H' σ', StepS w F H O F' H' (Own σ' ρ') → Cur K w F' H' σ' ρ' m → D.bk σ' H'
  | .ct ρ' => ∀ F' H' σ', StepS w F H O F' H' (Own σ' ρ') → Cur K w F' H' σ' ρ' m → D.ct σ' H'
  | .rt d => ∀ F' H' v, StepS w F H O F' H' (fun _ => False) → Base w F' H' m → Rep K w F' H' v d → D.rt v H'
  | .rs e ρ' => ∀ F' H' σ' c dd, StepS w F H O F' H' (Own σ' ρ') → Cur K w F' H' σ' ρ' m → RExc K mg w F' H' e c dd → W c dd σ' H'
theorem sD_iff {K : PySem.W.Frag} {mg : Str → Option Value} {W : WX} {g : DEnv → T Fl} {D : Ends} {σ : St} {H : Hp} : sD K mg W g D σ H ↔ ∃ w F ρ n, Cur K w F H σ ρ n ∧ (g ρ).wp (PostS K mg W w F H (Own σ ρ) D) (fun _ _ => False) n := Iff.rfl
section
variable {K : PySem.W.Frag} {mg : Str → Option Value} {W : WX} {w : Addr} {F F' : Addr → Prop} {H H' : Hp} {O O' : Addr → Prop} {D : Ends} {fl : Fl} {m : Nat}
theorem PostS.back (s : StepS w F H O F' H' O') (p : PostS K mg W w F H O D fl m) : PostS K mg W w F' H' O' D fl m := by
  cases fl with
  | nx ρ => exact fun F2 H2 σ2 s2 c => p F2 H2 σ2 (s.trans s2) c
  | bk ρ => exact fun F2 H2 σ2 s2 c => p F2 H2 σ2 (s.trans s2) c
  | ct ρ => exact fun F2 H2 σ2 s2 c => p F2 H2 σ2 (s.trans s2) c
  | rt d => exact fun F2 H2 v s2 b r => p F2 H2 v (s.trans s2) b r
  | rs e ρ => exact fun F2 H2 σ2 c dd s2 cu r => p F2 H2 σ2 c dd (s.trans s2) cu r
end
/-- an expression's errors become the statement's -/
def T.ex {α : Type} (ρ : DEnv) (t : T α) (k : α → T Fl) : T Fl := match t with
  | .ok a => k a
  | .exc e => .ok (.rs e ρ)
  | .draw m f => .draw m fun r => (f r).ex ρ k
  | .fail => .fail
@[simp] theorem T.ex_ok {α : Type} (ρ : DEnv) (a : α) (k : α → T Fl) : (T.ok a).ex ρ k = k a := by simp [T.ex]
@[simp] theorem T.ex_exc {α : Type} (ρ : DEnv) (e : Exc) (k : α → T Fl) : (T.exc e : T α).ex ρ k = .ok (.rs e ρ) := by simp [T.ex]
@[simp] theorem T.ex_fail {α : Type} (ρ : DEnv) (k : α → T Fl) : (T.fail : T α).ex ρ k = .fail := by simp [T.ex]
@[simp] theorem T.ex_draw {α : Type} (ρ : DEnv) (m : Int) (f : Int → T α) (k : α → T Fl) : (T.draw m f).ex ρ k = .draw m fun r => (f r).ex ρ k := by simp [T.ex]
theorem T.ex_bind {α β : Type} (ρ : DEnv) (t : T α) (k : α → T β) (l : β → T Fl) : (t.bind k).ex ρ l = t.ex ρ fun a => (k a).ex ρ l := by
  induction t with
  | ok a => simp
  | exc e => simp
  | draw m f ih => simp only [T.bind_draw, T.ex_draw]; exact congrArg _ (funext ih)
  | fail => simp
theorem T.wp_ex {α : Type} {ρ : DEnv} {t : T α} {k : α → T Fl} {Q : Fl → Nat → Prop} : ∀ {n : Nat}, (t.ex ρ k).wp Q (fun _ _ => False) n → t.wp (fun a m => (k a).wp Q (fun _ _ => False) m) (fun e m => Q (.rs e ρ) m) n := by
  induction t with
  | ok a => intro n h; rw [T.ex_ok] at h; exact h
  | exc e => intro n h; rw [T.ex_exc] at h; exact h
  | draw m f ih => intro n h; rw [T.ex_draw] at h; exact ⟨h.1, h.2.1, fun r h0 h1 => ih r (h.2.2 r h0 h1)⟩
  | fail => intro n h; simp [T.wp] at h
section
variable {X : Cx} {W : WX}
theorem PostS.exc {K : PySem.W.Frag} {mg : Str → Option Value} {w : Addr} {F : Addr → Prop} {H : Hp} {σ : St} {ρ : DEnv} {n : Nat} {e : Exc} {m : Nat} (c : Cur K w F H σ ρ n) (h : ∀ F' H' σ' cl dd, StepS w F H (Own σ ρ) F' H' (Own σ' ρ) → Cur K w F' H' σ' ρ m → RExc K mg w F' H' e cl dd → W cl dd σ' H') : PostX K mg w F H (fun c dd H' => W c dd σ H') e m :=
  fun F' H' cl dd s b r => h F' H' σ cl dd s.s (c.step s b) r
def gNil : DEnv → T Fl := fun ρ => .ok (.nx ρ)
def gSeq (g g' : DEnv → T Fl) : DEnv → T Fl := fun ρ => (g ρ).bind fun fl => match fl with
  | .nx ρ' => g' ρ'
  | fl => .ok fl
theorem dss_nil : PSs X [] (sD X.K X.mg W gNil) := PSs.of pss_nil fun D σ H ⟨w, F, ρ, n, c, q⟩ => q F H σ .refl c
theorem dss_cons {st : Stmt} {rest : List Stmt} {g g' : DEnv → T Fl} (h1 : PS X st (sD X.K X.mg W g)) (h2 : PSs X rest (sD X.K X.mg W g')) : PSs X (st :: rest) (sD X.K X.mg W (gSeq g g')) := PSs.of (pss_cons h1 h2) fun D σ H ⟨w, F, ρ, n, c, q⟩ => by
  refine ⟨w, F, ρ, n, c, T.wp_mono (fun fl m q1 => ?_) (fun _ _ h => h) (T.wp_bind _ _ |>.mp q)⟩
  cases fl with
  | nx ρ' => exact fun F' H' σ' s c' => ⟨w, F', ρ', m, c', T.wp_mono (fun _ _ h => PostS.back s h) (fun _ _ h => h) q1⟩
  | bk ρ' => exact q1
  | ct ρ' => exact q1
  | rt d => exact q1
  | rs e ρ' => exact q1
theorem dss_one {st : Stmt} {g : DEnv → T Fl} (h1 : PS X st (sD X.K X.mg W g)) : PSs X [st] (sD X.K X.mg W g) := pss_one h1
def gPass : DEnv → T Fl := fun ρ => .ok (.nx ρ)
theorem ds_pass {pos : Pos} : PS X (.Pass pos) (sD X.K X.mg W gPass) := PS.of ps_pass fun D σ H ⟨w, F, ρ, n, c, q⟩ => q F H σ .refl c
def gBreak : DEnv → T Fl := fun ρ => .ok (.bk ρ)
theorem ds_break {pos : Pos} : PS X (.Break pos) (sD X.K X.mg W gBreak) := PS.of ps_break fun D σ H ⟨w, F, ρ, n, c, q⟩ => q F H σ .refl c
def gContinue : DEnv → T Fl := fun ρ => .ok (.ct ρ)
theorem ds_continue {pos : Pos} : PS X (.Continue pos) (sD X.K X.mg W gContinue) := PS.of ps_continue fun D σ H ⟨w, F, ρ, n, c, q⟩ => q F H σ .refl c
/-- an own list is frozen ahead of a statement -/
def gFreeze (i : Nat) (g : DEnv → T Fl) : DEnv → T Fl := fun ρ => g (dFreeze i ρ)
theorem freeze_read {i : Nat} {g : DEnv → T Fl} {D : Ends} {σ : St} {H : Hp} (h : sD X.K X.mg W (gFreeze i g) D σ H) : sD X.K X.mg W g D σ H := by
  obtain ⟨w, F, ρ, n, c, q⟩ := h
  obtain ⟨F', s, c'⟩ := c.freeze i
  exact ⟨w, F', _, n, c', T.wp_mono (fun _ _ h => PostS.back s h) (fun _ _ h => h) q⟩
theorem ds_freeze (i : Nat) {st : Stmt} {g : DEnv → T Fl} (h : PS X st (sD X.K X.mg W g)) : PS X st (sD X.K X.mg W (gFreeze i g)) := PS.of h fun _ _ _ q => freeze_read q
def gExpr (f : DEnv → T D) : DEnv → T Fl := fun ρ => (f ρ).ex ρ fun _ => .ok (.nx ρ)
theorem ds_expr {e : Expr} {f : DEnv → T D} {pos : Pos} (h : PE X e (tD X.K X.mg W f)) (hs : swapsWith e none pos.line X.env = pure false := by rfl) : PS X (.Expr e pos) (sD X.K X.mg W (gExpr f)) := PS.of (ps_expr h hs) fun D σ H ⟨w, F, ρ, n, c, q⟩ =>
  tD.go c (T.wp_ex q) (fun e m h => PostS.exc c h) fun d m q1 F1 H1 v s1 c1 r => q1 F1 H1 σ s1.s c1
theorem ds_doc {x j pos pos'} : PS X (.Expr (.Constant (.str x) j pos) pos') (sD X.K X.mg W gPass) := PS.of ps_doc fun D σ H ⟨w, F, ρ, n, c, q⟩ => q F H σ .refl c
def gRet (f : DEnv → T D) : DEnv → T Fl := fun ρ => (f ρ).ex ρ fun d => .ok (.rt d)
theorem StepS.noOwn {w : Addr} {F : Addr → Prop} {H : Hp} {O F' O' : Addr → Prop} {H' : Hp} (s : StepS w F H O F' H' O') : StepS w F H O F' H' (fun _ => False) := ⟨s.keep, s.sub, s.new, fun _ h => h.elim, s.dom⟩
theorem ds_ret {e : Expr} {f : DEnv → T D} {pos : Pos} (h : PE X e (tD X.K X.mg W f)) : PS X (.Return (some e) pos) (sD X.K X.mg W (gRet f)) := PS.of (ps_ret h) fun D σ H ⟨w, F, ρ, n, c, q⟩ =>
  tD.go c (T.wp_ex q) (fun e m h => PostS.exc c h) fun d m q1 F1 H1 v s1 c1 r => q1 F1 H1 v (s1.s (O := Own σ ρ)).noOwn c1.toBase r
def gRetN : DEnv → T Fl := fun ρ => .ok (.rt .non)
theorem ds_retN {pos : Pos} : PS X (.Return none pos) (sD X.K X.mg W gRetN) := PS.of ps_retN fun D σ H ⟨w, F, ρ, n, c, q⟩ => q F H .non (StepS.refl (O := Own σ ρ)).noOwn c.toBase .non
def gIf (t : DEnv → T Bool) (a b : DEnv → T Fl) : DEnv → T Fl := fun ρ => (t ρ).ex ρ fun x => if x then a ρ else b ρ
theorem ds_if {t : Expr} {b1 b2 : List Stmt} {ft : DEnv → T Bool} {g1 g2 : DEnv → T Fl} {pos : Pos} (ht : PT X t (tDT X.K X.mg W ft)) (h1 : PSs X b1 (sD X.K X.mg W g1)) (h2 : PSs X b2 (sD X.K X.mg W g2)) : PS X (.If t b1 b2 pos) (sD X.K X.mg W (gIf ft g1 g2)) := PS.of (ps_if ht h1 h2) fun D σ H ⟨w, F, ρ, n, c, q⟩ =>
  tDT.go c (T.wp_ex q) (fun e m h => PostS.exc c h) fun x m q1 F1 H1 s1 c1 => by
    cases x with
    | true => exact iteT ⟨w, F1, ρ, m, c1, T.wp_mono (fun _ _ h => PostS.back s1.s h) (fun _ _ h => h) q1⟩
    | false => exact iteF ⟨w, F1, ρ, m, c1, T.wp_mono (fun _ _ h => PostS.back s1.s h) (fun _ _ h => h) q1⟩
/-- a name gets a value -/
def gSet (i : Nat) (f : DEnv → T D) : DEnv → T Fl := fun ρ => (f ρ).ex ρ fun d => .ok (.nx (ρ.set i (.sh d)))
theorem StepE.setSh {w : Addr} {F F' : Addr → Prop} {H H' : Hp} {σ : St} {ρ : DEnv} {i : Nat} {v : Option V} {d : D} (s : StepE w F H F' H') : StepS w F H (Own σ ρ) F' H' (Own (σ.set i v) (ρ.set i (.sh d))) :=
  ⟨fun a o n _ h => s.keep a o n h, s.sub, fun a h => (s.new a h).elim .inl fun z => .inr (.inl z), fun a h => .inl h.setSh, s.dom⟩
theorem ds_set {i : Nat} {x : Str} {e : Expr} {f : DEnv → T D} {pos pos' : Pos} (hN : X.N.Nodup) (hi : X.N[i]? = some x) (hx : Loc X.env.scope x) (h : PE X e (tD X.K X.mg W f)) (hs : swapsWith e (some (.Name x pos')) pos.line X.env = pure false := by rfl)
    (hf : X.fn x = true ∨ X.env.scope.names.lookup x = some .local := by first | exact .inl rfl | exact .inr rfl | assumption) : PS X (.Assign [.Name x pos'] e pos) (sD X.K X.mg W (gSet i f)) := PS.of (ps_set hN hi hx h hs hf) fun D σ H ⟨w, F, ρ, n, c, q⟩ =>
  tD.go c (T.wp_ex q) (fun e m h => PostS.exc c h) fun d m q1 F1 H1 v s1 c1 r => q1 F1 H1 _ s1.setSh ⟨c1.toBase, c1.env.setSh i r⟩
/-- a name gets a new list -/
def gSetN (i : Nat) (f : DEnv → T (List D)) : DEnv → T Fl := fun ρ => (f ρ).ex ρ fun xs => .ok (.nx (ρ.set i (.own xs)))
theorem setN_read {i : Nat} {f : DEnv → T (List D)} {D : Ends} {σ : St} {H : Hp} (h : sD X.K X.mg W (gSetN i f) D σ H) : tN X.K X.mg W f σ H fun x H1 => D.nx (σ.set i (some x)) H1 := by
  obtain ⟨w, F, ρ, n, c, q⟩ := h
  refine ⟨w, F, ρ, n, c, T.wp_mono (fun ds m q1 F1 H1 p vs s1 b1 hp nf h1 r => ?_) (fun e m h => PostS.exc c h) (T.wp_ex q)⟩
  have no : ¬ Own σ ρ p := fun h => by
    obtain ⟨_, _, us, hu⟩ := c.env.own_fz h
    rw [hp] at hu
    cases hu
  refine q1 F1 H1 _ ⟨fun a o n _ h => s1.keep a o n h, s1.sub, fun a h => (s1.new a h).elim .inl fun z => .inr (.inl z), fun a h => h.setOwn.imp id (fun z => by rw [z]; exact hp), s1.dom⟩ ⟨b1, ?_⟩
  exact (c.env.step s1 c.toBase).setOwn i nf (c.toBase.pne hp) h1 r no
theorem ds_setN {i : Nat} {x : Str} {e : Expr} {f : DEnv → T (List D)} {pos pos' : Pos} (hN : X.N.Nodup) (hi : X.N[i]? = some x) (hx : Loc X.env.scope x) (h : PE X e (tN X.K X.mg W f)) (hs : swapsWith e (some (.Name x pos')) pos.line X.env = pure false := by rfl)
    (hf : X.fn x = true ∨ X.env.scope.names.lookup x = some .local := by first | exact .inl rfl | exact .inr rfl | assumption) : PS X (.Assign [.Name x pos'] e pos) (sD X.K X.mg W (gSetN i f)) := PS.of (ps_set hN hi hx h hs hf) fun D σ H q => setN_read q
/-- y = [..] on one line -/
theorem ds_setLc {i : Nat} {y : Str} {py : Pos} {elt tg iter : Expr} {ifs : List Expr} {scope : Scope} {own : List (Str × Nat)} {pos spos : Pos} {fi : DEnv → T (List D)} {is : List Nat} {fb : D → DEnv → T DEnv} {ft : DEnv → T Bool} {fe : DEnv → T D} (hc : X.calm = true) (hN : X.N.Nodup) (hy : X.N[i]? = some y) (hyl : X.env.scope.names.lookup y = some .local)
    (hsw : swapsWith (.ListComp elt [⟨tg, iter, ifs, 0⟩] scope pos) (some (.Name y py)) spos.line X.env = pure true) (hi : PI X tg iter (tI X.K X.mg gAll W fi)) (ok : BlkOk X.N X.env.scope scope own) (his : ∀ i ∈ is, i ∈ own.map (·.2))
    (hg : ∀ (s : Shared) (H : Hp) (C : Addr) (cl : List (Str × Addr)) (fp : List Addr), PG (X.blk s H scope (compEnvC scope cl C X.env) fp) tg (tG X.K is fb))
    (ht : ∀ (s : Shared) (H : Hp) (C : Addr) (cl : List (Str × Addr)) (fp : List Addr), PTs (X.blk s H scope (compEnvC scope cl C X.env) fp) ifs (tDT X.K X.mg W0 ft))
    (he : ∀ (s : Shared) (H : Hp) (C : Addr) (cl : List (Str × Addr)) (fp : List Addr), PE (X.blk s H scope (compEnvC scope cl C X.env) fp) elt (tD X.K X.mg W0 fe)) (hs : ∀ x, foldedSetIterable iter X.env x = pure x := by intro _; rfl) :
    PS X (.Assign [.Name y py] (.ListComp elt [⟨tg, iter, ifs, 0⟩] scope pos) spos) (sD X.K X.mg W (gSetN i (dLc fi fb ft fe (own.map (·.2))))) := PS.of (ps_setLc hc hN hy hyl hsw hi ok hg ht he hs) fun D σ H q => lc_read his (setN_read q)
/-- a, b = e -/
def gAsg (f : DEnv → T D) (fb : D → DEnv → T DEnv) : DEnv → T Fl := fun ρ => (f ρ).ex ρ fun d => (fb d ρ).nox.bind fun ρ' => .ok (.nx ρ')
theorem ds_asg {tg e : Expr} {f : DEnv → T D} {is : List Nat} {fb : D → DEnv → T DEnv} {pos : Pos} (h : PE X e (tD X.K X.mg W f)) (hg : PG X tg (tG X.K is fb)) (hs : swapsWithSole [tg] e pos.line X.env = pure false := by rfl) (hw : swappedStores [tg] e X.env = pure none := by rfl)
    (h1 : (assignEach [tg] X.env).map (·.2) = [assign tg X.env] := by rfl) : PS X (.Assign [tg] e pos) (sD X.K X.mg W (gAsg f fb)) := PS.of (ps_asg h hg hs hw h1) fun D σ H ⟨w, F, ρ, n, c, q⟩ =>
  tD.go c (T.wp_ex q) (fun e m h => PostS.exc c h) fun d m q1 F1 H1 v s1 c1 r => ⟨w, F1, ρ, m, d, c1, r, T.wp_mono (fun ρ2 m2 q2 σ2 c2 o2 _ => q2 F1 H1 σ2 ⟨fun a o n _ h => s1.keep a o n h, s1.sub, fun a h => (s1.new a h).elim .inl fun z => .inr (.inl z), fun a h => .inl (o2 a h), s1.dom⟩ c2) (fun _ _ h => h.elim) (T.wp_nox (E' := fun _ _ => False) (T.wp_bind _ _ |>.mp q1))⟩
/-! ### the own list of a slot changes -/
theorem Cur.put {K : PySem.W.Frag} {w : Addr} {F : Addr → Prop} {H : Hp} {σ : St} {ρ : DEnv} {n : Nat} {i : Nat} {a : Addr} {xs ys : List D} {us : List V} (c : Cur K w F H σ ρ n) (hi : ρ[i]? = some (.own xs)) (ha : σ[i]? = some (some (.ref a))) (r : Reps K w F H us ys) :
    StepS w F H (Own σ ρ) F (upd H a (.lst us)) (Own σ (ρ.set i (.own ys))) ∧ Cur K w F (upd H a (.lst us)) σ (ρ.set i (.own ys)) n := by
  obtain ⟨b, vs, q1, q2, q3, q4, q5⟩ := c.env.at_own hi
  rw [ha] at q1
  cases q1
  have oa : Own σ ρ a := ⟨i, xs, hi, ha⟩
  refine ⟨⟨fun b o nb no h => ?_, fun _ h => h, fun _ h => .inl h, fun b h => .inl (h.put hi), fun b h => ?_⟩, ⟨?_, c.nw, fun b f => ?_⟩, c.env.put hi ha r⟩
  · have ne : b ≠ a := fun e => no (e ▸ oa)
    rw [upd_ne ne]
    exact h
  · by_cases e : b = a
    · rw [e, upd_same] at h; cases h
    · rw [upd_ne e] at h; exact h
  · obtain ⟨x, y, z, h1, h2⟩ := c.well
    exact ⟨x, y, z, by rw [upd_ne q3.symm]; exact h1, h2⟩
  · have ne : b ≠ a := fun e => q2 (e ▸ f)
    rw [upd_ne ne]
    exact c.dom b f
def gAppend (i : Nat) (f : DEnv → T D) : DEnv → T Fl := fun ρ => match ρ[i]? with
  | some (.own xs) => (f ρ).ex ρ fun d => if xs.length < sizeLine then .ok (.nx (ρ.set i (.own (xs ++ [d])))) else .fail
  | _ => .fail
theorem ds_append {o e : Expr} {apos pos pos' : Pos} (i : Nat) {f : DEnv → T D} (ho : PE X o (tVar i)) (h : PE X e (tD X.K X.mg W f)) (pe : ∀ t, PE X e t → PE X (.Call (.Attribute o "append" apos) [e] [] pos) (tBM X.K "list" rAppend (tVar i) (tCons t tNil))) (hs : swapsWith (.Call (.Attribute o "append" apos) [e] [] pos) none pos'.line X.env = pure false := by rfl) :
    PS X (.Expr (.Call (.Attribute o "append" apos) [e] [] pos) pos') (sD X.K X.mg W (gAppend i f)) := PS.of (ps_expr (pe _ h) hs) fun D σ H ⟨w, F, ρ, n, c, q⟩ => by
  unfold gAppend at q
  split at q
  rotate_left
  · exact q.elim
  rename_i xs hi
  obtain ⟨a, vs, q1, q2, q3, q4, q5⟩ := c.env.at_own hi
  refine ⟨.ref a, q1, .inl ⟨rfl, vs, SqL.of q4⟩, ?_⟩
  refine tD.go c (T.wp_ex q) (fun e m h => PostS.exc c h) fun d m q6 F1 H1 v s1 c1 r => ?_
  split at q6
  · rename_i hz
    have hs := q5.step s1 c.toBase
    have h1 := s1.keep a _ q3 q4
    refine ⟨a, vs, v, rfl, rfl, h1, by rw [q5.length]; exact hz, ?_⟩
    obtain ⟨s2, c2⟩ := c1.put hi q1 (hs.append (.cons r .nil))
    exact q6 F1 _ σ (s1.s.trans s2) c2
  · exact q6.elim
def gExtend (i : Nat) (f : DEnv → T Sq) : DEnv → T Fl := fun ρ => match ρ[i]? with
  | some (.own xs) => (f ρ).ex ρ fun s => match s with
    | .l ys => if xs.length + ys.length ≤ sizeLine then .ok (.nx (ρ.set i (.own (xs ++ ys)))) else .fail
    | .t _ => .fail
  | _ => .fail
theorem ds_extend {o e : Expr} {apos pos pos' : Pos} (i : Nat) {f : DEnv → T Sq} (ho : PE X o (tVar i)) (h : PE X e (tS X.K X.mg W f)) (pe : ∀ t, PE X e t → PE X (.Call (.Attribute o "extend" apos) [e] [] pos) (tBM X.K "list" rExtend (tVar i) (tCons t tNil))) (hs : swapsWith (.Call (.Attribute o "extend" apos) [e] [] pos) none pos'.line X.env = pure false := by rfl) :
    PS X (.Expr (.Call (.Attribute o "extend" apos) [e] [] pos) pos') (sD X.K X.mg W (gExtend i f)) := PS.of (ps_expr (pe _ h) hs) fun D σ H ⟨w, F, ρ, n, c, q⟩ => by
  unfold gExtend at q
  split at q
  rotate_left
  · exact q.elim
  rename_i xs hi
  obtain ⟨a, vs, q1, q2, q3, q4, q5⟩ := c.env.at_own hi
  refine ⟨.ref a, q1, .inl ⟨rfl, vs, SqL.of q4⟩, ?_⟩
  refine tS.go c (T.wp_ex q) (fun e m h => PostS.exc c h) fun s m q6 F1 H1 b us s1 c1 hq r => ?_
  cases s with
  | t ys => exact q6.elim
  | l ys =>
    dsimp only at q6
    split at q6
    · rename_i hz
      have hs := q5.step s1 c.toBase
      have h1 := s1.keep a _ q3 q4
      refine ⟨a, b, vs, us, rfl, rfl, h1, hq.2, by rw [q5.length, r.length]; exact hz, ?_⟩
      obtain ⟨s2, c2⟩ := c1.put hi q1 (hs.append r)
      exact q6 F1 _ σ (s1.s.trans s2) c2
    · exact q6.elim
/-! ### for, while -/
def forGo (fb : D → DEnv → T DEnv) (g : DEnv → T Fl) : List D → DEnv → T Fl
  | [], ρ => .ok (.nx ρ)
  | x :: r, ρ => (fb x ρ).nox.bind fun ρ1 => (g ρ1).bind fun fl => match fl with
    | .nx ρ2 => forGo fb g r ρ2
    | .ct ρ2 => forGo fb g r ρ2
    | .bk ρ2 => .ok (.nx ρ2)
    | .rt d => .ok (.rt d)
    | .rs e ρ2 => .ok (.rs e ρ2)
def gFor (fi : DEnv → T (List D)) (fb : D → DEnv → T DEnv) (g : DEnv → T Fl) : DEnv → T Fl := fun ρ => (fi ρ).ex ρ fun xs => forGo fb g xs ρ
theorem ds_for {tg iter : Expr} {body : List Stmt} {fi : DEnv → T (List D)} {is : List Nat} {fb : D → DEnv → T DEnv} {g : DEnv → T Fl} {pos : Pos} (hp : PassesOwn (model X.prog X.w) X.A X.env X.xe) (hc : X.calm = true) (hi : PI X tg iter (tI X.K X.mg gFz W fi)) (hg : PG X tg (tG X.K is fb)) (hb : PSs X body (sD X.K X.mg W g))
    (hs : ∀ x, foldedSetIterable iter X.env x = pure x := by intro _; rfl) : PS X (.For tg iter body [] pos) (sD X.K X.mg W (gFor fi fb g)) := PS.of (ps_for hp hc hi hg hb hs) fun D σ H ⟨w, F, ρ, n, c, q⟩ => by
  refine ⟨w, F, ρ, n, c, T.wp_mono (fun xs m q1 F1 H1 J s1 b1 it => ?_) (fun e m h => PostS.exc c h) (T.wp_ex q)⟩
  refine ⟨fun i k σ' H' => ∃ (F' : Addr → Prop) (ρ' : DEnv) (n' : Nat), i + k = xs.length ∧ StepS w F H (Own σ ρ) F' H' (Own σ' ρ') ∧ Cur X.K w F' H' σ' ρ' n' ∧ (∀ b, F1 b → F' b) ∧ (∀ b o, F1 b → H1 b = some o → H' b = some o) ∧ (forGo fb g (xs.drop i) ρ').wp (PostS X.K X.mg W w F H (Own σ ρ) D) (fun _ _ => False) n',
    ⟨xs.length, F1, ρ, m, Nat.zero_add _, s1.s, c.step s1 b1, fun _ z => z, fun _ _ _ z => z, by rw [List.drop_zero]; exact q1⟩, fun i k σ' H' hW => ?_⟩
  obtain ⟨F', ρ', n', hik, s', c', f1, k1, q'⟩ := hW
  have IT := it F' H' n' f1 k1 (fun _ _ z => z.elim) c'.toBase
  by_cases hlt : i < xs.length
  · have hx : xs[i]? = some xs[i] := List.getElem?_eq_getElem hlt
    obtain ⟨go, yl⟩ := IT.1 i _ hx
    rw [List.drop_eq_getElem_cons hlt] at q'
    simp only [forGo] at q'
    refine .inr ⟨go, fun σ2 H2 => ∃ (F2 : Addr → Prop) (ρ2 : DEnv) (n2 : Nat), StepS w F H (Own σ ρ) F2 H2 (Own σ2 ρ2) ∧ Cur X.K w F2 H2 σ2 ρ2 n2 ∧ (∀ b, F1 b → F2 b) ∧ (∀ b o, F1 b → H1 b = some o → H2 b = some o) ∧ (forGo fb g (xs.drop (i + 1)) ρ2).wp (PostS X.K X.mg W w F H (Own σ ρ) D) (fun _ _ => False) n2,
      fun σ2 H2 ⟨F2, ρ2, n2, r⟩ => ⟨k - 1, by omega, F2, ρ2, n2, by omega, r⟩, fun v H3 y => ?_⟩
    obtain ⟨F3, s3, b3, rx⟩ := yl v H3 y
    have c3 := c'.step s3 b3
    refine ⟨w, F3, ρ', n', _, c3, rx, T.wp_mono (fun ρ4 m4 q4 σ4 c4 o4 _ => ?_) (fun _ _ h => h.elim) (T.wp_nox (E' := fun _ _ => False) (T.wp_bind _ _ |>.mp q'))⟩
    have s4 : StepS w F' H' (Own σ' ρ') F3 H3 (Own σ4 ρ4) := ⟨fun a o n _ h => s3.keep a o n h, s3.sub, fun a h => (s3.new a h).elim .inl fun z => .inr (.inl z), fun a h => .inl (o4 a h), s3.dom⟩
    have s04 := s'.trans s4
    have kp : ∀ {F5 : Addr → Prop} {H5 : Hp} {O5 : Addr → Prop}, StepS w F3 H3 (Own σ4 ρ4) F5 H5 O5 → (∀ b, F1 b → F5 b) ∧ (∀ b o, F1 b → H1 b = some o → H5 b = some o) := fun {F5 H5 O5} s5 =>
      ⟨fun b z => s5.sub b (s3.sub b (f1 b z)), fun b o f z => s5.fz c4 b o (s3.sub b (f1 b f)) (s3.fz c'.toBase (f1 b f) (k1 b o f z))⟩
    refine ⟨w, F3, ρ4, m4, c4, T.wp_mono (fun fl m5 q5 => ?_) (fun _ _ h => h) (T.wp_bind _ _ |>.mp q4)⟩
    cases fl with
    | nx ρ5 => exact fun F5 H5 σ5 s5 c5 => ⟨F5, ρ5, m5, s04.trans s5, c5, (kp s5).1, (kp s5).2, q5⟩
    | ct ρ5 => exact fun F5 H5 σ5 s5 c5 => ⟨F5, ρ5, m5, s04.trans s5, c5, (kp s5).1, (kp s5).2, q5⟩
    | bk ρ5 => exact fun F5 H5 σ5 s5 c5 => q5 F5 H5 σ5 (s04.trans s5) c5
    | rt d => exact fun F5 H5 v5 s5 b5 r5 => q5 F5 H5 v5 (s04.trans s5) b5 r5
    | rs e ρ5 => exact fun F5 H5 σ5 cl dd s5 c5 r5 => q5 F5 H5 σ5 cl dd (s04.trans s5) c5 r5
  · have e : i = xs.length := by omega
    subst e
    rw [List.drop_length] at q'
    exact .inl ⟨IT.2, q' F' H' σ' s' c'⟩
end
end
end AL
namespace AL
open PySem PySem.Spec PyProof.Rows L2
noncomputable section
/-! ## a def's body -/
def env0 (n : Nat) (ds : List D) : DEnv := ds.map Slot.sh ++ List.replicate (n - ds.length) Slot.no
/-- the run of a body with n slots -/
def bodyT (n : Nat) (g : DEnv → T Fl) (ds : List D) : T D := (g (env0 n ds)).nox.bind fun fl => match fl with
  | .nx _ => .ok .non
  | .rt d => .ok d
  | .rs e _ => .exc e
  | .bk _ => .fail
  | .ct _ => .fail
theorem env0_get {n : Nat} {ds : List D} {i : Nat} {s : Slot} (h : (env0 n ds)[i]? = some s) : (∃ d, ds[i]? = some d ∧ s = .sh d) ∨ s = .no := by
  unfold env0 at h
  by_cases hi : i < ds.length
  · rw [List.getElem?_append_left (by rw [List.length_map]; exact hi), List.getElem?_map] at h
    cases e : ds[i]? with
    | none => rw [e] at h; cases h
    | some d =>
      rw [e] at h
      exact .inl ⟨d, rfl, (Option.some.inj h).symm⟩
  · rw [List.getElem?_append_right (by rw [List.length_map]; omega), List.getElem?_replicate] at h
    split at h
    · exact .inr (Option.some.inj h).symm
    · cases h
theorem start_env {K : PySem.W.Frag} {w : Addr} {F : Addr → Prop} {H : Hp} {N : List Str} {vs : List V} {ds : List D} (r : Reps K w F H vs ds) : REnv K w F H (L2.start N vs) (env0 N.length ds) := by
  have hl := r.length
  refine ⟨?_, fun i d h => ?_, fun i xs h => ?_, fun i j xs ys a _ h => ?_⟩
  · unfold L2.start env0
    rw [List.length_append, List.length_append, List.length_map, List.length_map, List.length_replicate, List.length_replicate, hl]
  · rcases env0_get h with ⟨d', h1, h2⟩ | h1
    · cases h2
      obtain ⟨v, h3, h4⟩ := r.get h1
      refine ⟨v, ?_, h4⟩
      have hi : i < vs.length := (List.getElem?_eq_some_iff.mp h3).1
      unfold L2.start
      rw [List.getElem?_append_left (by rw [List.length_map]; exact hi), List.getElem?_map, h3]
      rfl
    · cases h1
  · rcases env0_get h with ⟨d', h1, h2⟩ | h1
    · cases h2
    · cases h1
  · rcases env0_get h with ⟨d', h1, h2⟩ | h1
    · cases h2
    · cases h1
theorem start_own {N : List Str} {vs : List V} {ds : List D} {a : Addr} : ¬ Own (L2.start N vs) (env0 N.length ds) a := fun ⟨i, xs, h, _⟩ => by
  rcases env0_get h with ⟨d', h1, h2⟩ | h1
  · cases h2
  · cases h1
theorem StepS.toE {w : Addr} {F F' O O' : Addr → Prop} {H H' : Hp} (s : StepS w F H O F' H' O') (no : ∀ a, ¬ O a) : StepE w F H F' H' := ⟨fun a o n h => s.keep a o n (no a) h, s.sub, fun a h => by
  rcases s.new a h with q | q | q
  · exact .inl q
  · exact .inr q
  · exact (no a q).elim, s.dom⟩
/-- what a body's proof stands in -/
structure Ctx (X : Cx) (K : PySem.W.Frag) (mg : Str → Option Value) (k : Nat) : Prop where
  room : Room k X.A
  guards : X.A.guards = some []
section
variable {P : Program} {w : World} {K : PySem.W.Frag} {mg : Str → Option Value} {base : Heap}
/-- a def keeps a promise, by its body -/
theorem FnG.of {x qual : Str} {st : Stmt} {f : Addr} {fd : FuncData} {N ps : List Str} {k : Nat} {sp : Sp} (F : Fun K x qual st f fd) (S : FnScope N ps (defScope st)) (len : ∀ vs H Q E, sp vs H Q E → vs.length = ps.length)
    (hb : ∀ (cdv : Value) (A : Around) (outer : List Env) (s : Shared) (H : Hp) (vs : List V) (Q : VK) (E : XK), Room k (A.deeper (envOfC qual (defScope st) s.heap.objs.size f cdv)) → (A.deeper (envOfC qual (defScope st) s.heap.objs.size f cdv)).guards = some [] →
      (cxOf (L2.CX P w) P w K mg base N qual (defScope st) f cdv A outer s H E).A.units + 100 < cLine → Takes (cxOf (L2.CX P w) P w K mg base N qual (defScope st) f cdv A outer s H E) (fun c dd _ H => E c dd H) → sp vs H Q E →
      ∃ t, PSs (cxOf (L2.CX P w) P w K mg base N qual (defScope st) f cdv A outer s H E) (defBody st) t ∧ t { nx := fun _ H' => Q .non H', rt := Q } (L2.start N vs) H) : FnG P w K mg base (k + 1) f fd ps sp := by
  obtain ⟨oc, od, kV, doc, pm, an, cdv, ct, osl, rfl, lk, hcd⟩ := F.ex
  refine ⟨len, ?_⟩
  intro A outer s H args us vs Q E hr hG e0 hbt r hsp
  have hl := len _ _ _ _ hsp
  have KX : K.In s.heap := e0.mod.kin.keeps fun b o e => (e0.bs b o e).1
  have lim : s.heap.NoLimit := e0.mod.nolimit.keeps fun b o e => (e0.bs b o e).1
  have kinds : ∀ y ∈ ps.zip us, (defScope st).names.lookup y.1 = some .local ∨ ((defScope st).names.lookup y.1 = some .cell ∧ ((cellsFrom (s.heap.objs.size + 1) (defScope st).names []).lookup y.1).isSome = true) := by
    rintro ⟨nm, v⟩ hy
    refine (S.par nm (List.of_mem_zip hy).1).imp id fun q => ⟨q, ?_⟩
    exact PySem.W.cellsFrom_some _ _ _ (.inl q)
  refine codeAny_call_function hr.depth (KX _ _ lk) rfl S.co S.gen rfl (PySem.W.codeRec_of KX hcd) (hbt _ _ _ _ ?_)
  refine wpAny_newFunctionEnv_cells S.kind kinds ?_
  intro env he s1 x
  subst he
  refine ⟨lim.keeps x.toInCall.keep, codeAny_func ?_⟩
  obtain ⟨t, ht, hq⟩ := hb cdv A outer s H vs Q E (hr.deeper _) hG (by have := (hr.deeper (envOfC qual (defScope st) s.heap.objs.size f cdv)).un; show (A.deeper (envOfC qual (defScope st) s.heap.objs.size f cdv)).units + 100 < cLine; omega) (takes_of rfl rfl rfl rfl) hsp
  have I : Inv (cxOf (L2.CX P w) P w K mg base N qual (defScope st) f cdv A outer s H E) [] (L2.start N vs) H s1 := inv_start S hr.hd e0 hl r x
  refine wpAny_mono (ht.run [] s1 (L2.start N vs) H _ I hq) ?_ fun e s' hs => hs
  intro fl s' hs
  have fin : ∀ {σ' : St} {H' : Hp} {v : V} {u : Value}, Inv (cxOf (L2.CX P w) P w K mg base N qual (defScope st) f cdv A outer s H E) [] σ' H' s' → RelV v u → Q v H' → CE outer P w H s Q u s' :=
    fun {σ' H' v u} J rv q => ⟨v, H', J.os, J.bare, J.base, J.hok, rv, q⟩
  match fl, hs with
  | .ret u, ⟨v, σ', H', J, rv, q⟩ => exact fin J rv q
  | .next, ⟨σ', H', J, q⟩ => exact fin (v := V.non) (u := Value.none) J rfl q
  | .brk, ⟨_, _, _, q⟩ => exact q.elim
  | .cont, ⟨_, _, _, q⟩ => exact q.elim
theorem FnG.of_body {x qual : Str} {st : Stmt} {f : Addr} {fd : FuncData} {N ps : List Str} {k : Nat} (F : Fun K x qual st f fd) (S : FnScope N ps (defScope st)) (g : DEnv → T Fl) (n ar : Nat) (hn : N.length = n) (har : ps.length = ar)
    (hb : ∀ (cdv : Value) (A : Around) (outer : List Env) (s : Shared) (H : Hp) (E : XK), Room k (A.deeper (envOfC qual (defScope st) s.heap.objs.size f cdv)) → (A.deeper (envOfC qual (defScope st) s.heap.objs.size f cdv)).guards = some [] →
      (cxOf (L2.CX P w) P w K mg base N qual (defScope st) f cdv A outer s H E).A.units + 100 < cLine → Takes (cxOf (L2.CX P w) P w K mg base N qual (defScope st) f cdv A outer s H E) (fun c dd _ H => E c dd H) →
      PSs (cxOf (L2.CX P w) P w K mg base N qual (defScope st) f cdv A outer s H E) (defBody st) (sD K mg (fun c dd _ H => E c dd H) g)) : FnG P w K mg base (k + 1) f fd ps (spD K mg ar (bodyT n g)) := by
  subst hn har
  refine FnG.of F S (fun vs H Q E h => h.1) fun cdv A outer s H vs Q E hr hG hu tk hsp => ⟨_, hb cdv A outer s H E hr hG hu tk, ?_⟩
  obtain ⟨w', F0, n, ds, b, rr, q⟩ := hsp.2
  refine ⟨w', F0, _, n, ⟨b, start_env rr⟩, T.wp_mono (fun fl m q1 => ?_) (fun _ _ h => h) (T.wp_nox (E' := fun _ _ => False) (T.wp_bind _ _ |>.mp q))⟩
  cases fl with
  | nx ρ' => exact fun F' H' σ' s c => q1 F' H' .non (s.toE fun _ => start_own) c.toBase .non
  | bk ρ' => exact q1.elim
  | ct ρ' => exact q1.elim
  | rt d => exact fun F' H' v s b r => q1 F' H' v (s.toE fun _ => start_own) b r
  | rs e ρ' => exact fun F' H' σ' c dd s cu r => q1 F' H' c dd (s.toE fun _ => start_own) cu.toBase r
end
end
end AL
namespace AL
open PySem PySem.Spec PyProof.Rows L2
noncomputable section
/-! ## repr -/
def rRepr (K : PySem.W.Frag) : List V → Hp → VK → Prop := fun xs H Q => ∃ x d, xs = [x] ∧ Dp K H x d ∧ d.canLay0 = true ∧ d.showable = true ∧ d.shown.length ≤ sizeLine ∧ d.depth ≤ 64 ∧ Q (.str d.shown) H
theorem cr_repr {X : Cx} (hG : X.A.guards = some []) (hu : X.A.units + 100 < cLine) : CallR X (.builtin "repr") (rRepr X.K) := by
  intro pins s σ H xs us Q I r h
  obtain ⟨x, d, rfl, hd, hl, hsh, hz, hdp, q⟩ := h
  obtain ⟨u, rfl, ru⟩ := vals1 r
  cases hd with
  | non =>
    cases ru
    refine P.repr_of_none ⟨.str _, H, I.tok _, ⟨_, rfl⟩, ?_⟩
    simpa only [PyData.shown] using q
  | bl b =>
    cases ru
    refine P.repr_of_bool ⟨.str _, H, I.tok _, ⟨_, rfl⟩, ?_⟩
    simpa only [PyData.shown] using q
  | int i =>
    obtain ⟨t, rfl⟩ := ru
    refine P.repr_of_int (by simpa [PyData.showable] using hsh) ⟨.str _, H, I.tok _, ⟨_, rfl⟩, ?_⟩
    simpa only [PyData.shown] using q
  | str z =>
    obtain ⟨t, rfl⟩ := ru
    refine P.repr_of_str ⟨.str _, H, I.tok _, ⟨_, rfl⟩, ?_⟩ (by simpa only [PyData.shown] using hz)
    simpa only [PyData.shown] using q
  | lst hs ha =>
    cases ru
    obtain ⟨as, rd⟩ := Dp.reads I _ _ _ (.lst hs ha) (show RelV (.ref _) (Value.ref _) from rfl)
    exact repr_of_reads' rd hsh (PyData.noDict_hsm (PyData.hasDict_of_canLay _ hl)) hG (by omega) (fun _ _ e => e) (fun h' u tk hk => ⟨.str _, H, I.kept (t' := tk) hk, ⟨u, rfl⟩, q⟩) hz
  | tup hs ha =>
    cases ru
    obtain ⟨as, rd⟩ := Dp.reads I _ _ _ (.tup hs ha) (show RelV (.ref _) (Value.ref _) from rfl)
    exact repr_of_reads' rd hsh (PyData.noDict_hsm (PyData.hasDict_of_canLay _ hl)) hG (by omega) (fun _ _ e => e) (fun h' u tk hk => ⟨.str _, H, I.kept (t' := tk) hk, ⟨u, rfl⟩, q⟩) hz
def D.canShow (d : D) : Prop := d.plain = true ∧ d.py.showable = true ∧ d.py.shown.length ≤ sizeLine ∧ d.py.depth ≤ 64
instance (d : D) : Decidable d.canShow := Classical.propDecidable _
def dRepr (f : DEnv → T D) : DEnv → T D := fun ρ => (f ρ).bind fun d => if d.canShow then .ok (.str d.py.shown) else .fail
section
variable {X : Cx} {W : WX}
theorem de_repr {a : Expr} {f : DEnv → T D} {p pos : Pos} (hG : X.A.guards = some []) (hu : X.A.units + 100 < cLine) (hg : Gl X "repr") (hm : X.mg "repr" = none) (h : PE X a (tD X.K X.mg W f)) (he : starEach (a :: []) X.env = (false, eval a X.env) :: starEach [] X.env := by rfl) (hpl : (backTo pos (starEach [] X.env)).any (·.1) = false := by rfl) :
    PE X (.Call (.Name "repr" p) [a] [] pos) (tD X.K X.mg W (dRepr f)) :=
  PE.of (pe_callB (cr_repr hG hu) hg hm (by decide +kernel) (pa_cons h pa_nil he) (he := he) (hpl := hpl)) fun σ H Q ⟨w, F, ρ, n, c, q⟩ => arg1 <|
    tD.go c (T.wp_bind _ _ |>.mp q) (fun _ _ h => h) fun d m q1 F1 H1 v s1 c1 r => by
      split at q1
      · rename_i hc
        exact ⟨v, d.py, rfl, r.dp hc.1, D.canLay d hc.1, hc.2.1, hc.2.2.1, hc.2.2.2, q1 F1 H1 _ s1 c1.toBase (.str _)⟩
      · exact q1.elim
end
/-! ## several names at once -/
def RepM (K : PySem.W.Frag) (w : Addr) (H0 : Hp) (F : Addr → Prop) (H : Hp) (v : V) : Slot → Prop
  | .no => False
  | .sh d => Rep K w F H v d
  | .own xs => ∃ p vs, v = .ref p ∧ H0 p = none ∧ ¬ F p ∧ H p = some (.lst vs) ∧ Reps K w F H vs xs
/-- a value or a new list -/
def tM (K : PySem.W.Frag) (mg : Str → Option Value) (W : WX) (f : DEnv → T Slot) : TE := fun σ H Q => ∃ w F ρ n, Cur K w F H σ ρ n ∧ (f ρ).wp (fun s m => ∀ F' H' v, StepE w F H F' H' → Base w F' H' m → RepM K w H F' H' v s → Q v H') (PostX K mg w F H fun c dd H' => W c dd σ H') n
def dSh (f : DEnv → T D) : DEnv → T Slot := fun ρ => (f ρ).bind fun d => .ok (.sh d)
def dOwn (f : DEnv → T (List D)) : DEnv → T Slot := fun ρ => (f ρ).bind fun d => .ok (.own d)
section
variable {K : PySem.W.Frag} {w : Addr} {F F' : Addr → Prop} {H0 H H' : Hp} {n m : Nat} {σ : St} {ρ : DEnv}
theorem RepM.step {v : V} {s : Slot} (st : StepE w F H F' H') (b : Base w F H n) (h0 : ∀ p, H p = none → H0 p = none) (nw : ∀ p, H0 p = none → p ≠ w) (r : RepM K w H0 F H v s) : RepM K w H0 F' H' v s := by
  cases s with
  | no => exact r
  | sh d => exact Rep.step st b r
  | own xs =>
    obtain ⟨p, vs, rfl, h1, h2, h3, h4⟩ := r
    exact ⟨p, vs, rfl, h1, fun f => (st.new p f).elim h2 (fun z => by rw [h3] at z; cases z), st.keep p _ (nw p h1) h3, h4.step st b⟩
/-- a slot takes a value or a new list -/
theorem Cur.setM {v : V} {s : Slot} (c : Cur K w F H σ ρ n) (i : Nat) (nw : ∀ p, H0 p = none → p ≠ w) (no : ∀ p, H0 p = none → ¬ Own σ ρ p) (r : RepM K w H0 F H v s) : Cur K w F H (σ.set i (some v)) (ρ.set i s) n ∧ ∀ a, Own (σ.set i (some v)) (ρ.set i s) a → Own σ ρ a ∨ (H0 a = none ∧ v = .ref a) := by
  cases s with
  | no => exact r.elim
  | sh d => exact ⟨⟨c.toBase, c.env.setSh i r⟩, fun a h => .inl h.setSh⟩
  | own xs =>
    obtain ⟨p, vs, rfl, h1, h2, h3, h4⟩ := r
    exact ⟨⟨c.toBase, c.env.setOwn i h2 (nw p h1) h3 h4 (no p h1)⟩, fun a h => h.setOwn.imp id fun e => ⟨by rw [e]; exact h1, by rw [e]⟩⟩
end
section
variable {X : Cx} {W : WX}
theorem dm_sh {e : Expr} {f : DEnv → T D} (h : PE X e (tD X.K X.mg W f)) : PE X e (tM X.K X.mg W (dSh f)) := PE.of h fun σ H Q ⟨w, F, ρ, n, c, q⟩ =>
  ⟨w, F, ρ, n, c, T.wp_mono (fun d m q1 F1 H1 v s1 b1 r => q1 F1 H1 v s1 b1 r) (fun _ _ h => h) (T.wp_bind _ _ |>.mp q)⟩
theorem dm_own {e : Expr} {f : DEnv → T (List D)} (h : PE X e (tN X.K X.mg W f)) : PE X e (tM X.K X.mg W (dOwn f)) := PE.of h fun σ H Q ⟨w, F, ρ, n, c, q⟩ =>
  ⟨w, F, ρ, n, c, T.wp_mono (fun d m q1 F1 H1 p vs s1 b1 hp nf h1 r => q1 F1 H1 (.ref p) s1 b1 ⟨p, vs, rfl, hp, nf, h1, r⟩) (fun _ _ h => h) (T.wp_bind _ _ |>.mp q)⟩
theorem tM.go {f : DEnv → T Slot} {σ : St} {H : Hp} {Q : VK} {w : Addr} {F : Addr → Prop} {ρ : DEnv} {n : Nat} {E : Exc → Nat → Prop} {R : Slot → Nat → Prop} (c : Cur X.K w F H σ ρ n) (h : (f ρ).wp R E n)
    (hE : ∀ e m, E e m → PostX X.K X.mg w F H (fun c dd H' => W c dd σ H') e m)
    (hR : ∀ d m, R d m → ∀ F' H' v, StepE w F H F' H' → Cur X.K w F' H' σ ρ m → RepM X.K w H F' H' v d → Q v H') : tM X.K X.mg W f σ H Q :=
  ⟨w, F, ρ, n, c, T.wp_mono (fun d m r F' H' v s b p => hR d m r F' H' v s (c.step s b) p) hE h⟩
def gPar (i j : Nat) (f g : DEnv → T Slot) : DEnv → T Fl := fun ρ => (f ρ).ex ρ fun s => (g ρ).ex ρ fun t => .ok (.nx ((ρ.set i s).set j t))
/-- two slots are stored -/
theorem par_end {K : PySem.W.Frag} {w : Addr} {F F1 F2 : Addr → Prop} {H H1 H2 : Hp} {σ : St} {ρ : DEnv} {n m1 m2 : Nat} {x y : V} {s t : Slot} {i j : Nat} (c : Cur K w F H σ ρ n) (s1 : StepE w F H F1 H1) (c1 : Cur K w F1 H1 σ ρ m1) (r1 : RepM K w H F1 H1 x s) (s2 : StepE w F1 H1 F2 H2) (c2 : Cur K w F2 H2 σ ρ m2) (r2 : RepM K w H1 F2 H2 y t) :
    StepS w F H (Own σ ρ) F2 H2 (Own ((σ.set i (some x)).set j (some y)) ((ρ.set i s).set j t)) ∧ Cur K w F2 H2 ((σ.set i (some x)).set j (some y)) ((ρ.set i s).set j t) m2 := by
  have nw : ∀ p, H p = none → p ≠ w := fun p hp => c.toBase.pne hp
  have nw1 : ∀ p, H1 p = none → p ≠ w := fun p hp => c1.toBase.pne hp
  have no : ∀ p, H p = none → ¬ Own σ ρ p := fun p hp ho => by
    obtain ⟨_, _, us, hu⟩ := c.env.own_fz ho
    rw [hp] at hu
    cases hu
  have no1 : ∀ p, H1 p = none → ¬ Own σ ρ p := fun p hp => no p (s1.dom p hp)
  have r1' := r1.step s2 c1.toBase s1.dom nw
  obtain ⟨c3, o3⟩ := c2.setM i nw no r1'
  have no3 : ∀ p, H1 p = none → ¬ Own (σ.set i (some x)) (ρ.set i s) p := fun p hp ho => by
    rcases o3 p ho with q | ⟨q1, q2⟩
    · exact no1 p hp q
    · cases s with
      | no => exact r1
      | sh d => exact no p q1 ho.setSh
      | own xs =>
        obtain ⟨p', vs, e, _, _, h3, _⟩ := r1
        rw [q2] at e
        cases e
        rw [hp] at h3
        cases h3
  obtain ⟨c4, o4⟩ := c3.setM j nw1 no3 r2
  have st := s1.trans s2
  refine ⟨⟨fun a o n _ h => st.keep a o n h, st.sub, fun a h => (st.new a h).elim .inl fun z => .inr (.inl z), fun a h => ?_, st.dom⟩, c4⟩
  rcases o4 a h with q | ⟨q, _⟩
  · exact (o3 a q).imp id fun z => z.1
  · exact .inr (s1.dom a q)
theorem ds_par {i j : Nat} {x y : Str} {a b : Expr} {f g : DEnv → T Slot} {px py pt pos : Pos} {kt k2 pt2} (hc : X.calm = true) (hN : X.N.Nodup) (hi : X.N[i]? = some x) (hj : X.N[j]? = some y) (hij : i ≠ j)
    (hx : X.env.scope.names.lookup x = some .local) (hy : X.env.scope.names.lookup y = some .local) (ha : PE X a (tM X.K X.mg W f)) (hb : PE X b (tM X.K X.mg W g)) (hw : swappedStores [.Tuple [.Name x px, .Name y py] kt pt] (.Tuple [a, b] k2 pt2) X.env = pure (some [x, y]))
    (he : starEach (a :: [b]) X.env = (false, eval a X.env) :: starEach [b] X.env := by rfl) (he2 : starEach (b :: []) X.env = (false, eval b X.env) :: starEach [] X.env := by rfl) (hs : swapsWithSole [.Tuple [.Name x px, .Name y py] kt pt] (.Tuple [a, b] k2 pt2) pos.line X.env = pure false := by rfl) :
    PS X (.Assign [.Tuple [.Name x px, .Name y py] kt pt] (.Tuple [a, b] k2 pt2) pos) (sD X.K X.mg W (gPar i j f g)) := PS.of (ps_par hc hN hi hj hij hx hy (pa_cons ha (pa_cons hb pa_nil he2) he) hw hs) fun D σ H ⟨w, F, ρ, n, c, q⟩ => by
  refine tM.go c (T.wp_ex q) (fun e m h => PostS.exc c h) fun s m q1 F1 H1 v s1 c1 r1 => ?_
  refine tM.go c1 (T.wp_ex q1) (fun e m h => PostX.back s1 (PostS.exc c h)) fun t m2 q2 F2 H2 u s2 c2 r2 => ⟨v, u, rfl, ?_⟩
  obtain ⟨h1, h2⟩ := par_end c s1 c1 r1 s2 c2 r2
  exact q2 F2 H2 _ h1 h2
/-- the same through a tuple -/
theorem ds_parU {i j : Nat} {x y : Str} {a b : Expr} {f g : DEnv → T Slot} {px py pt pos : Pos} {kt k2 pt2} (hc : X.calm = true) (hN : X.N.Nodup) (hi : X.N[i]? = some x) (hj : X.N[j]? = some y) (hx : Loc X.env.scope x) (hy : Loc X.env.scope y) (ha : PE X a (tM X.K X.mg W f)) (hb : PE X b (tM X.K X.mg W g))
    (hw : swappedStores [.Tuple [.Name x px, .Name y py] kt pt] (.Tuple [a, b] k2 pt2) X.env = pure none := by rfl)
    (he : starEach (a :: [b]) X.env = (false, eval a X.env) :: starEach [b] X.env := by rfl) (he2 : starEach (b :: []) X.env = (false, eval b X.env) :: starEach [] X.env := by rfl) (hs : swapsWithSole [.Tuple [.Name x px, .Name y py] kt pt] (.Tuple [a, b] k2 pt2) pos.line X.env = pure false := by rfl)
    (h1 : (assignEach [.Tuple [.Name x px, .Name y py] kt pt] X.env).map (·.2) = [assign (.Tuple [.Name x px, .Name y py] kt pt) X.env] := by rfl)
    (hf : X.fn x = true ∨ X.env.scope.names.lookup x = some .local := by first | exact .inl rfl | exact .inr rfl | assumption) (hf2 : X.fn y = true ∨ X.env.scope.names.lookup y = some .local := by first | exact .inl rfl | exact .inr rfl | assumption) :
    PS X (.Assign [.Tuple [.Name x px, .Name y py] kt pt] (.Tuple [a, b] k2 pt2) pos) (sD X.K X.mg W (gPar i j f g)) :=
  PS.of (ps_asg (pe_tup (pa_cons ha (pa_cons hb pa_nil he2) he)) (pg_tup (n := 2) hc (pgs_cons (pg_name hN hi hx hf) (pgs_cons (pg_name hN hj hy hf2) pgs_nil (by rfl)) (by rfl)) (by rfl) (by rfl)) hs hw h1) fun D σ H ⟨w, F, ρ, n, c, q⟩ => by
  refine tM.go c (T.wp_ex q) (fun e m h => PostS.exc c h) fun s m q1 F1 H1 v s1 c1 r1 => ?_
  refine tM.go c1 (T.wp_ex q1) (fun e m h => PostX.back s1 (PostS.exc c h)) fun t m2 q2 F2 H2 u s2 c2 r2 => ⟨by show 2 ≤ sizeLine; decide, fun p hp => ?_⟩
  have s3 := StepE.layOwn (w := w) (F := F2) (o := .tup [v, u]) hp
  refine ⟨p, [v, u], rfl, .inl (.inl upd_same), rfl, v, [u], rfl, u, [], rfl, rfl, ?_⟩
  have nw1 : ∀ p, H1 p = none → p ≠ w := fun p hp => c1.toBase.pne hp
  have r2' := r2.step s3 c2.toBase s2.dom nw1
  have c3 := c2.step s3 (c2.toBase.layOwn hp)
  obtain ⟨h1, h2⟩ := par_end (i := i) (j := j) c s1 c1 r1 (s2.trans s3) c3 r2'
  exact q2 F2 _ _ h1 h2
end
end
end AL
namespace AL
open PySem PySem.Spec PyProof.Rows L2
noncomputable section
/-! ## keywords' places, what is never reached -/
theorem kw_of {K : PySem.W.Frag} {x qual : Str} {st : Stmt} {f : Addr} {fd : FuncData} {ps ks : List Str} {n : Nat} {π : List Nat} (F : Fun K x qual st f fd)
    (h : ∀ (kV doc pm : Value) (an : Option Addr) (cdv ct : Value) (us ws : List Value), us.length = n → ws.length = ks.length → bindArgs (PySem.W.fnOf x qual (defArgs st) (defBody st) (defScope st) .none kV doc pm an cdv ct) ⟨us, ks.zip ws⟩ = pure (ps.zip (π.map fun i => (us ++ ws).getD i .none))) : KwOk fd ps ks n π := by
  obtain ⟨oc, od, kV, doc, pm, an, cdv, ct, osl, rfl, lk, hcd⟩ := F.ex
  exact h kV doc pm an cdv ct
section
variable {X : Cx} {W : WX}
def gNever : DEnv → T Fl := fun _ => .fail
theorem ds_never {st : Stmt} : PS X st (sD X.K X.mg W gNever) := PS.of ps_never fun D σ H ⟨w, F, ρ, n, c, q⟩ => q.elim
def dNeg (f : DEnv → T D) : DEnv → T D := fun ρ => (f ρ).bind fun d => match d with
  | .int i => .ok (.int (-i))
  | _ => .fail
theorem de_neg {a : Expr} {f : DEnv → T D} {pos : Pos} (h : PE X a (tD X.K X.mg W f)) : PE X (.UnaryOp .USub a pos) (tD X.K X.mg W (dNeg f)) :=
  PE.of (pe_un un_neg h) fun σ H Q ⟨w, F, ρ, n, c, q⟩ => tD.go c (T.wp_bind _ _ |>.mp q) (fun _ _ h => h) fun x m q1 F1 H1 v s1 c1 r => by
    cases x with
    | int i => cases r; exact ⟨i, rfl, q1 F1 H1 _ s1 c1.toBase (.int _)⟩
    | _ => exact q1.elim
/-! ## calls read by hand -/
def tCl (W : WX) (sp : Sp) (ta : TA) : TE := fun σ H Q => ta σ H fun vs H1 => sp vs H1 Q (WE W σ)
theorem pe_callG {k : Nat} {f : Addr} {fd : FuncData} {ps : List Str} {sp : Sp} {x : Str} {p pos : Pos} {e : Expr} {es : List Expr} {t : TA} (F : FnG X.prog X.w X.K X.mg X.base k f fd ps sp) (hr : Room k X.A) (hG : X.A.guards = some []) (tk : Takes X W) (hg : Gl X x) (hm : X.mg x = some (.ref f)) (hk : PySem.W.keepIn X.K (.ref f) = true) (hb : Binds X.K fd ps [])
    (ha : PA X (e :: es) t) (hdb : (x == ("__debug__" : Str)) = false := by decide) (he : starEach (e :: es) X.env = (false, eval e X.env) :: starEach es X.env := by rfl) (hpl : (backTo pos (starEach es X.env)).any (·.1) = false := by rfl) :
    PE X (.Call (.Name x p) (e :: es) [] pos) (tCl W sp t) := by
  constructor
  intro pins s σ H Q I h
  refine wpAny_Call_Name_kw (ld_glob I hg hm ?_ hdb)
  refine PySem.W.callWith_K (h₀ := X.base) I.ok.mod.kin hk (thn (ha.run pos pins s σ H _ I h) ?_) he hpl
  rintro us s1 ⟨vs, H1, I1, r, q1⟩
  refine ⟨I1.kIn, ?_⟩
  have hl : us.length = ps.length := by rw [← r.length]; exact F.len _ _ _ _ q1
  have b := hb s1 us I1.kIn (by rw [List.append_nil]; exact hl)
  rw [List.append_nil] at b
  exact run_G (args := ⟨us, []⟩) F hr hG b (passAt tk σ) I1 r q1
def PowOk (i j : Int) : Prop := 0 ≤ j ∧ (Builtin.Int.intBits i : Int) * j ≤ 2 ^ 27
theorem op_powI : OpR X (binaryOp .Pow) (rI PowOk fun i j => .int (i ^ j.toNat)) := L2.opI fun i j _ _ _ _ _ hc q => pow_int hc.1 hc.2 q
theorem FnG.of_ok {P : Program} {w : World} {K : PySem.W.Frag} {mg : Str → Option Value} {base : Heap} {k : Nat} {f : Addr} {fd : FuncData} {ps : List Str} {sp : Sp} (F : FnOk P w K mg base (L2.CX P w) k f fd ps sp) : FnG P w K mg base k f fd ps sp :=
  ⟨F.len, fun A outer s H args us vs Q E hr _ => F.run A outer s H args us vs Q E hr⟩
end
end
end AL
namespace AL
open PySem PySem.Spec PyProof.Rows L2
noncomputable section
/-! ## the end of a law: the promise of law is held against any script -/
/-- the script as the only thing that is tracked -/
def onlyH (a : Addr) (own : Bool) (vs : List Value) (ns : List Int) : Hp := fun b => if b = a ∧ own = true then some (.frz { cls := .type "list", data := .seq vs.toArray } (.lst (ns.map V.int))) else none
theorem onlyH_or (a : Addr) (own : Bool) (vs : List Value) (ns : List Int) (b : Addr) : onlyH a own vs ns b = none ∨ (b = a ∧ own = true ∧ onlyH a own vs ns b = some (.frz { cls := .type "list", data := .seq vs.toArray } (.lst (ns.map V.int)))) := by
  by_cases h : b = a ∧ own = true
  · exact .inr ⟨h.1, h.2, if_pos h⟩
  · exact .inl (if_neg h)
theorem callG {P : Program} {w : World} {K : PySem.W.Frag} {mg mb : Str → Option Value} {k : Nat} {fa a : Addr} {fd : FuncData} {x : Str} {sp : Sp} {s₁ : Shared} {vs : List Value} {ns : List Int}
    (KX : K.In s₁.heap) (hns : s₁.heap.Ns mainGlobals mg) (hb : s₁.heap.Ns builtinsNs mb) (hbb : ∀ x : Str, x ≠ "__name__" → mb x = bootBuiltins x) (hlim : s₁.heap.NoLimit) (hg : s₁.gens = #[])
    (ha : s₁.heap.get? a = some { cls := .type "list", data := .seq vs.toArray }) (hi : IntsAre vs ns) (hl : ns.length ≤ sizeLine) (hr : Room k callerA)
    (F : ∀ base : Heap, K.In base → base.Ns mainGlobals mg → FnG P w K mg base k fa fd [x] sp) (hbind : ∀ (s : Shared) (u : Value), BindsTo s fd ⟨[u], []⟩ [(x, u)])
    (hsp : ∀ H : Hp, Only H → SqL K H a (ns.map V.int) → sp [.ref a] H (fun v _ => v = .bl true) fun _ _ _ => False) :
    codeAny (model P w) callerA (.call (.ref fa) ⟨[.ref a], []⟩) (fun r s' => r = .ok (.ret (.bool true)) ∧ OldK s₁.heap s'.heap ∧ s'.os = s₁.os ∧ AllBare s'.gens) s₁ := by
  let own : Bool := (K.lookup a).isNone
  have ownK : own = true → K.lookup a = none := fun z => Option.isNone_iff_eq_none.mp z
  let T := onlyH a own vs ns
  have rel := vals_ints hi
  have cases2 := onlyH_or a own vs ns
  have tOnly : Only T := fun b => (cases2 b).imp id fun z => ⟨_, _, z.2.2⟩
  have tSq : SqL K T a (ns.map V.int) := by
    cases e : K.lookup a with
    | none => exact .inl (.inr ⟨_, if_pos ⟨rfl, by show (K.lookup a).isNone = true; rw [e]; rfl⟩⟩)
    | some o =>
      have g := KX a o e
      rw [ha] at g
      cases g
      exact .inr ⟨_, vs.toArray, _, e, rfl, rfl, rfl, by rw [List.size_toArray, hi.length]; exact hl, by simpa using rel⟩
  have tOk : HOk P w T s₁.heap := fun b u z => by
    rcases cases2 b with y | ⟨y, _, y2⟩
    · rw [show T b = none from y] at z; cases z
    · rw [show T b = _ from y2] at z
      cases z
      subst y
      exact ⟨ha, by rw [List.length_map]; exact hl, vs, _, rel, ha⟩
  have keepB : ∀ {b : Addr} {o : Obj}, s₁.heap.get? b = some o → T b = none → (hidT s₁.heap T).get? b = some o := fun y z => hidT_get y z
  have notD : ∀ {b : Addr} {o : Obj} {es : Array DictEntry} {ep : Nat}, s₁.heap.get? b = some o → o.data = .dict es ep → T b = none := fun {b o es ep} y d => by
    rcases cases2 b with z | ⟨z, _, _⟩
    · exact z
    · subst z
      rw [ha] at y
      cases y
      cases (show Data.seq vs.toArray _ = Data.dict es ep from d)
  have nsB : ∀ {b : Addr} {m : Str → Option Value}, s₁.heap.Ns b m → (hidT s₁.heap T).Ns b m := fun {b m} ⟨o, es, ep, y, d, r⟩ => ⟨o, es, ep, keepB y (notD y d), d, r⟩
  have inB : K.In (hidT s₁.heap T) := fun b o y => keepB (KX b o y) (by
    rcases cases2 b with z | ⟨z, z2, _⟩
    · exact z
    · subst z
      rw [ownK z2] at y
      cases y)
  have mod : Mod K mg (hidT s₁.heap T) := ⟨inB, nsB hns, ⟨mb, nsB hb, hbb⟩, let ⟨mc, h1, h2⟩ := hlim; ⟨mc, nsB h1, h2⟩⟩
  have env : Env0 P w K mg (hidT s₁.heap T) callerA [] s₁ T := ⟨rfl, mod, fun b o y => of_hidT y, Nat.le_of_eq (hidT_size _ _), trivial, fun b z => absurd (show b ∈ ([] : List Addr) from z) (by simp), tOk, .of_eq hg⟩
  have run := (F _ inB (nsB hns)).run callerA [] s₁ T ⟨[.ref a], []⟩ [.ref a] [.ref a] _ _ hr rfl env (hbind s₁ (.ref a)) (.cons rfl .nil) (hsp T tOnly tSq)
  refine codeAny_mono run fun r s' h => ?_
  match r, h with
  | .error e, h =>
    obtain ⟨_, _, _, _, _, _, _, _, _, _, _, _, z⟩ := h
    exact z.elim
  | .ok .next, h => exact False.elim h
  | .ok .brk, h => exact False.elim h
  | .ok .cont, h => exact False.elim h
  | .ok (.ret u), ⟨v, H2, os, bare, un, hok, rv, (q : v = .bl true)⟩ =>
    subst q
    obtain rfl : u = Value.bool true := rv
    refine ⟨rfl, OldK.of_keep fun b o y => ?_, os, bare⟩
    rcases cases2 b with z | ⟨_, _, z⟩
    · exact un.keep b o y z (fun z => absurd (show b ∈ ([] : List Addr) from z) (by simp)) (by simp)
    · have e1 := (tOk b _ z).1
      have e2 := (hok b _ (un.frzs b _ _ z)).1
      rw [y] at e1
      cases e1
      exact e2
theorem walkG {l : PySem.W.OpenLaw} {n k : Nat} {q : Program} {loose : List Str} {XP : (Str → Option Value) → Heap → Prop} {YP : World → Heap → Prop} {d : DefRec} {K : Params → PySem.W.Frag} {sp : World → Sp} {x : Str}
    (hn : l.most = some n) (hn2 : n ≤ sizeLine) (hdf : d.params.defaults = []) (hr : Room k callerA) (hY : ∀ (w : World) (h : Heap), YP w h → (K w.params).In h)
    (F : ∀ (w : World) (mg : Str → Option Value) (fa : Addr) (h : Heap), (K w.params).In h → h.Ns mainGlobals mg → mg d.name = some (.ref fa) →
      ∃ fd : FuncData, (∀ (s : Shared) (u : Value), BindsTo s fd ⟨[u], []⟩ [(x, u)]) ∧ ∀ base : Heap, (K w.params).In base → base.Ns mainGlobals mg → FnG l.prog w (K w.params) mg base k fa fd [x] (sp w))
    (hsp : ∀ (w : World) (H : Hp) (a : Addr) (ns : List Int), ns.length ≤ n → (∀ z ∈ ns, Builtin.Int.intBits z ≤ 1048576) → Only H → SqL (K w.params) H a (ns.map V.int) → sp w [.ref a] H (fun v _ => v = .bl true) fun _ _ _ => False) :
    PySem.W.WalkO q loose XP YP l.row.toRowW d [] (fun f vs => PySem.call f vs) := by
  refine Att.attach_callB hn hdf fun w s0 s1 mg mb fa o pm cd doc a vs ns G Y ho hd hcd hmg hobj hints hlen hbits hg => ?_
  have KX := hY w _ Y
  obtain ⟨fd, hb, hF⟩ := F w mg fa _ KX G.T.g hmg
  exact callG KX G.T.g G.T.b G.T.builtins G.T.nolimit hg hobj hints (Nat.le_trans hlen hn2) hr hF hb fun H hO hS => hsp w H a ns hlen hbits hO hS
/-- a def as the top has written it -/
structure DefAt (K : PySem.W.Frag) (x : Str) (st : Stmt) (f : Addr) (oc : Value) (od an : Option Addr) (sl : Array (Option Value)) (kV dc pm cd ct : Value) : Prop where
  a : PySem.W.nsIn K mainGlobals x = some (some (.ref f))
  l : K.lookup f = some ⟨oc, od, .func (PySem.W.fnOf x x (defArgs st) (defBody st) (defScope st) .none kV dc pm an cd ct), sl⟩
  c : PySem.W.codeIn K cd x = true
  k : PySem.W.keepIn K (.ref f) = true
theorem DefAt.F {K : PySem.W.Frag} {x : Str} {st : Stmt} {f : Addr} {oc : Value} {od an : Option Addr} {sl : Array (Option Value)} {kV dc pm cd ct : Value} (d : DefAt K x st f oc od an sl kV dc pm cd ct) : Fun K x x st f (PySem.W.fnOf x x (defArgs st) (defBody st) (defScope st) .none kV dc pm an cd ct) := fun_mk d.l d.c d.k
end
end AL
namespace AL
open PySem PySem.Spec PyProof.Rows L2
noncomputable section
/-! ## draws -/
/-- a draw below m: any number there -/
def TkOk (m : Int) : Prop := 0 < m ∧ m.natAbs < 2 ^ 64
instance (m : Int) : Decidable (TkOk m) := Classical.propDecidable _
def fTake : List D → T D
  | [.well, .int m] => if TkOk m then .draw m fun r => .ok (.int r) else .fail
  | _ => .fail
section
variable {K : PySem.W.Frag} {mg : Str → Option Value} {w : Addr} {F : Addr → Prop} {H : Hp} {n : Nat} {vs : List V} {ds : List D} {Q : VK} {E : XK}
theorem take_pre (b : Base w F H n) (r : Reps K w F H vs ds) (q : (fTake ds).wp (PostE K w F H Q) (PostX K mg w F H E) n) :
    ∃ m x y z : Int, vs = [.ref w, .int m] ∧ 0 < m ∧ m.natAbs < 2 ^ 64 ∧ n < T.line ∧ H w = some (.lst [.int x, .int y, .int z]) ∧ 0 ≤ x ∧ x.natAbs < 2 ^ 2000000 ∧ y.natAbs < 2 ^ 200 ∧ 0 ≤ z ∧ z ≤ n ∧ (w ≠ w → False) ∧
      ∀ (i x' z' : Int), 0 ≤ i → i < m → 0 ≤ x' → x' ≤ x → 0 ≤ z' → z' ≤ z + 1 → Q (.int i) (upd H w (.lst [.int x', .int y, .int z'])) := by
  unfold fTake at q
  split at q
  rotate_left
  · exact q.elim
  rename_i m
  split at q
  rotate_left
  · exact q.elim
  rename_i hm
  obtain ⟨x, y, z, h1, h2, h3, h4, h5, h6⟩ := b.well
  cases r with
  | cons r1 r =>
    cases r with
    | cons r2 r =>
      cases r
      cases r1
      cases r2
      refine ⟨m, x, y, z, rfl, hm.1, hm.2, q.2.1, h1, h2, h3, h4, h5, h6, fun z => z rfl, fun i x' z' i0 i1 x0 x1 z0 z1 => ?_⟩
      refine q.2.2 i i0 i1 F _ _ ⟨fun a o na h => by rw [upd_ne na]; exact h, fun _ h => h, fun _ h => .inl h, fun a h => ?_⟩ ⟨⟨x', y, z', upd_same, x0, ?_, h4, z0, ?_⟩, b.nw, fun a f => ?_⟩ (.int _)
      · by_cases e : a = w
        · rw [e, upd_same] at h; cases h
        · rw [upd_ne e] at h; exact h
      · have : x'.natAbs ≤ x.natAbs := by omega
        exact Nat.lt_of_le_of_lt this h3
      · have : ((n + 1 : Nat) : Int) = (n : Int) + 1 := by omega
        rw [this]; omega
      · have ne : a ≠ w := fun e => b.nw (e ▸ f)
        rw [upd_ne ne]
        exact b.dom a f
end
/-! ### sizes -/
theorem bits_lt {i : Int} {a : Nat} (h : i.natAbs < 2 ^ a) (h0 : 0 < a) : Builtin.Int.intBits i ≤ a := by
  have l := PySem.Flt.log2_lt_of h0 h
  unfold Builtin.Int.intBits
  split <;> omega
theorem pow_ok {i : Int} {a e : Nat} (h : i.natAbs < 2 ^ a) (h0 : 0 < a) (hz : a * e ≤ 134217728) : PowOk i e := by
  refine ⟨Int.natCast_nonneg e, ?_⟩
  have b := bits_lt h h0
  have m : Builtin.Int.intBits i * e ≤ a * e := Nat.mul_le_mul_right e b
  have e2 : ((2 : Int) ^ 27) = ((134217728 : Nat) : Int) := by decide
  rw [e2]
  exact_mod_cast Nat.le_trans m hz
theorem abs_lt_of {i : Int} {a : Nat} (h1 : -(2 ^ a : Nat) < i) (h2 : i < (2 ^ a : Nat)) : i.natAbs < 2 ^ a := by omega
theorem add_lt {i j : Int} {a b : Nat} (hi : i.natAbs < 2 ^ a) (hj : j.natAbs < 2 ^ b) (h : b ≤ a) : (i + j).natAbs < 2 ^ (a + 1) := by
  have h2 : 2 ^ b ≤ 2 ^ a := Nat.pow_le_pow_right (by decide) h
  rw [Nat.pow_succ]
  omega
theorem lt_mono {i : Int} {a b : Nat} (h : i.natAbs < 2 ^ a) (k : a ≤ b) : i.natAbs < 2 ^ b := Nat.lt_of_lt_of_le h (Nat.pow_le_pow_right (by decide) k)
theorem mod_lt {i j : Int} {a : Nat} (h0 : 0 < j) (hj : j.natAbs < 2 ^ a) : (i % j).natAbs < 2 ^ a := by
  have h1 := Int.emod_nonneg i (by omega : j ≠ 0)
  have h2 := Int.emod_lt_of_pos i h0
  omega
section
variable {X : Cx}
/-- * of ints of any size that a script may have -/
theorem op_mulX : OpR X (binaryOp .Mult) (rI IntMulOk fun i j => .int (i * j)) := L2.opI fun _ _ _ _ _ _ _ hc q => mul_int q hc
end
theorem mul_ok {i j : Int} {a b : Nat} (ha : i.natAbs < 2 ^ a) (hb : j.natAbs < 2 ^ b) (h0 : 0 < a) (h1 : 0 < b) (h : a + b ≤ 134217728) : IntMulOk i j := by
  have x := bits_lt ha h0
  have y := bits_lt hb h1
  intro z
  have z2 := (Bool.and_eq_true_iff.mp z).2
  unfold Builtin.Int.intTooBig at z2
  have z3 := of_decide_eq_true z2
  have e : bitsLine = 134217728 := by decide
  rw [e] at z3
  omega
theorem lt_bits {i : Int} {a : Nat} (h : Builtin.Int.intBits i ≤ a) : i.natAbs < 2 ^ a := by
  unfold Builtin.Int.intBits at h
  split at h
  · rename_i z
    have e : i = 0 := by simpa using z
    subst e
    exact Nat.pow_pos (by decide)
  · exact Nat.lt_of_lt_of_le Nat.lt_log2_self (Nat.pow_le_pow_right (by decide) h)
theorem cut63 {xs : List V} (h : xs.length ≤ 63) : cutV xs none (some 63) = xs := by
  unfold cutV
  have e := HT.sIx_nat xs.length xs.length 63
  rw [show ((63 : Nat) : Int) = 63 from rfl] at e
  rw [e, HT.sIx_none, List.drop_zero, Nat.sub_zero, Nat.min_eq_right h, List.take_length]
/-- what the maker of a well promises -/
def spWell (K : PySem.W.Frag) : Sp := fun vs H Q _ => ∃ (a : Addr) (ns : List Int) (i : Int), vs = [.ref a, .int i] ∧ SqL K H a (ns.map V.int) ∧ ns.length ≤ 63 ∧ (∀ z ∈ ns, Builtin.Int.intBits z ≤ 1048576) ∧ 0 ≤ i ∧ i < 64 ∧
  ∀ H' p x y, (∀ b o, H b = some o → H' b = some o) → H p = none → H' p = some (.lst [.int x, .int y, .int 0]) → 0 ≤ x → x.natAbs < 2 ^ 2000000 → y.natAbs < 2 ^ 200 → Q (.ref p) H'
theorem keep_upd {H : Hp} {p : Addr} {o : HO} (h : H p = none) : ∀ b u, H b = some u → upd H p o b = some u := fun b u e => by
  rw [upd_ne (fun z => by rw [z, h] at e; cases e)]
  exact e
theorem SqL.keep {K : PySem.W.Frag} {H H' : Hp} {a : Addr} {xs : List V} (k : ∀ b o, H b = some o → H' b = some o) (h : SqL K H a xs) : SqL K H' a xs := by
  rcases h with (h | ⟨o, h⟩) | h
  · exact .inl (.inl (k _ _ h))
  · exact .inl (.inr ⟨o, k _ _ h⟩)
  · exact .inr h
/-! ### the turns behind a new well -/
theorem only_keep {K : PySem.W.Frag} {w : Addr} {F F' O O' : Addr → Prop} {H0 H H' : Hp} (ho : Only H0) (s : StepS w F H O F' H' O') (hw : H0 w = none) (hO : ∀ a, ¬ O a) (k : ∀ b o, H0 b = some o → H b = some o) : ∀ b o, H0 b = some o → H' b = some o :=
  fun b o e => s.keep b o (fun z => by rw [z, hw] at e; cases e) (hO b) (k b o e)
def envW (a : Addr) (i : Int) : DEnv := [.sh (.raw a), .sh (.int i), .sh .well, .no]
theorem envW_own {σ : St} {a p : Addr} {i : Int} : ¬ Own σ (envW a i) p := fun ⟨j, xs, h, _⟩ => by
  match j, h with
  | 0, h => cases h
  | 1, h => cases h
  | 2, h => cases h
  | 3, h => cases h
  | j + 4, h => cases h
theorem main_inner {K : PySem.W.Frag} {mg : Str → Option Value} {W : WX} {g : DEnv → T Fl} {D : Ends} {a p : Addr} {i x y : Int} {H0 H3 H' : Hp} {v3 : Option V} (ho : Only H0) (k0 : ∀ b o, H0 b = some o → H3 b = some o) (k : ∀ b o, H3 b = some o → H' b = some o) (np : H3 p = none) (hp : H' p = some (.lst [.int x, .int y, .int 0]))
    (hx0 : 0 ≤ x) (hx1 : x.natAbs < 2 ^ 2000000) (hy : y.natAbs < 2 ^ 200) (hg : (g (envW a i)).wp (fun fl _ => ∃ s1 s2 s3, fl = .nx [.sh (.raw a), s1, s2, s3]) (fun _ _ => False) 0)
    (hD : ∀ σ2 H2, (∃ v1 v2 v3, σ2 = [some (.ref a), v1, v2, v3]) → (∀ b o, H0 b = some o → H2 b = some o) → D.nx σ2 H2) : sD K mg W g D [some (.ref a), some (.int i), some (.ref p), v3] H' := by
  have hw0 : H0 p = none := by
    cases e : H0 p with
    | none => rfl
    | some o => rw [k0 p o e] at np; cases np
  refine ⟨p, fun _ => False, envW a i, 0, ⟨⟨⟨x, y, 0, hp, hx0, hx1, hy, by omega, by omega⟩, fun z => z, fun _ z => z.elim⟩, ?_⟩, T.wp_mono (fun fl m q => ?_) (fun _ _ h => h) hg⟩
  · refine ⟨rfl, fun j d h => ?_, fun j xs h => ?_, fun j j2 xs ys b _ h => ?_⟩
    · match j, h with
      | 0, h => cases h; exact ⟨_, rfl, .raw a⟩
      | 1, h => cases h; exact ⟨_, rfl, .int i⟩
      | 2, h => cases h; exact ⟨_, rfl, .well⟩
      | 3, h => cases h
      | j + 4, h => cases h
    · match j, h with
      | 0, h => cases h
      | 1, h => cases h
      | 2, h => cases h
      | 3, h => cases h
      | j + 4, h => cases h
    · match j, h with
      | 0, h => cases h
      | 1, h => cases h
      | 2, h => cases h
      | 3, h => cases h
      | j + 4, h => cases h
  · obtain ⟨s1, s2, s3, rfl⟩ := q
    refine fun F2 H2 σ2 st c => hD σ2 H2 ?_ (only_keep (K := K) ho st hw0 (fun _ => envW_own) fun b o e => k b o (k0 b o e))
    have hl := c.env.len
    obtain ⟨v, h1, h2⟩ := c.env.sh 0 (.raw a) rfl
    cases h2
    match σ2, hl, h1 with
    | [u0, u1, u2, u3], _, h1 =>
      have e : u0 = some (.ref a) := Option.some.inj h1
      exact ⟨u1, u2, u3, by rw [e]⟩
/-- what law promises -/
def spLaw (K : PySem.W.Frag) : Sp := fun vs H Q _ => ∃ (a : Addr) (ns : List Int), vs = [.ref a] ∧ Only H ∧ SqL K H a (ns.map V.int) ∧ ns.length ≤ 63 ∧ (∀ z ∈ ns, Builtin.Int.intBits z ≤ 1048576) ∧ ∀ H', Q (.bl true) H'
end
end AL
namespace AL
open PySem PySem.Spec PyProof.Rows L2
noncomputable section
/-! ## the size of a repr -/
mutual
/-- numbers below 10 ^ 18, None, bools, tuples, lists -/
def D.num : D → Bool
  | .non | .bl _ => true
  | .int i => decide (i.natAbs < 10 ^ 18)
  | .tup xs | .lst xs => D.nums xs
  | .str s => PyData.strOk s && decide ((PyData.shown (.str s)).length ≤ 24)
  | _ => false
def D.nums : List D → Bool
  | [] => true
  | x :: r => D.num x && D.nums r
end
mutual
def D.sz : D → Nat
  | .tup xs | .lst xs => D.szs xs + 3
  | _ => 24
def D.szs : List D → Nat
  | [] => 0
  | x :: r => D.sz x + 2 + D.szs r
end
mutual
def D.dep : D → Nat
  | .tup xs | .lst xs => D.deps xs + 1
  | _ => 0
def D.deps : List D → Nat
  | [] => 0
  | x :: r => max (D.dep x) (D.deps r)
end
theorem len_ofString (s : String) : (Str.ofString s).length = s.toList.length := by
  rw [Str.ofString_eq_toList]
  show (s.toList.map Char.toNat).toArray.size = _
  rw [List.size_toArray, List.length_map]
theorem len_nat {n : Nat} (h : n < 10 ^ 18) : n.repr.toList.length ≤ 18 := by
  rw [Nat.toList_repr]
  exact (Nat.length_toDigits_le_iff (by decide) (by decide)).mpr h
theorem len_int {i : Int} (h : i.natAbs < 10 ^ 18) : (Str.ofString (toString i)).length ≤ 24 := by
  rw [len_ofString]
  cases i with
  | ofNat n =>
    have := len_nat (n := n) (by simpa using h)
    show n.repr.toList.length ≤ 24
    omega
  | negSucc n =>
    have := len_nat (n := n + 1) (by simpa using h)
    show ("-" ++ (n + 1).repr).toList.length ≤ 24
    rw [String.toList_append, List.length_append]
    have e : "-".toList.length = 1 := rfl
    omega
theorem textFrom_le : ∀ (ts : List Str) (k : Nat) (acc : Str), (textFrom k acc ts).length ≤ acc.length + piled ts
  | [], k, acc => by simp [textFrom, piled]
  | t :: r, k, acc => by
    have ih := textFrom_le r (k + 1) (acc ++ (if k > 0 then ", " else "" : String) ++ t)
    rw [piled_cons]
    unfold textFrom
    rw [strLen_append, strLen_append] at ih
    have e : ((if k > 0 then ", " else "" : String) : Str).length ≤ 2 := by split <;> decide
    omega
theorem listText_le (ts : List Str) : (listText ts).length ≤ piled ts + 2 := by
  unfold listText
  rw [strLen_append]
  have h := textFrom_le ts 0 "["
  have e1 : (("[" : String) : Str).length = 1 := by decide
  have e2 : (("]" : String) : Str).length = 1 := by decide
  omega
theorem tupleText_le (ts : List Str) : (tupleText ts).length ≤ piled ts + 3 := by
  unfold tupleText
  rw [strLen_append, strLen_append]
  have e1 : ((("(" : String) : Str)).length = 1 := by decide
  have e3 : (((if ts.length == 1 then ",)" else ")" : String) : Str)).length ≤ 2 := by split <;> decide
  by_cases h : ts = []
  · subst h
    have e4 : (Str.join ", " []).length = 0 := by decide
    omega
  · have := join_length_add ts h
    omega
mutual
theorem num_len : ∀ d : D, d.num = true → d.py.shown.length ≤ d.sz
  | .non, _ => by simp only [D.py, PyData.shown, D.sz]; decide
  | .bl b, _ => by cases b <;> simp only [D.py, PyData.shown, D.sz] <;> decide
  | .int i, h => by
    simp only [D.num, decide_eq_true_eq] at h
    simp only [D.py, PyData.shown, D.sz]
    exact len_int h
  | .tup xs, h => by
    simp only [D.py, PyData.shown, D.sz]
    have := nums_len xs (by simpa only [D.num] using h)
    have := tupleText_le (PyData.shownAll (D.pys xs))
    omega
  | .lst xs, h => by
    simp only [D.py, PyData.shown, D.sz]
    have := nums_len xs (by simpa only [D.num] using h)
    have := listText_le (PyData.shownAll (D.pys xs))
    omega
  | .str s, h => by
    simp only [D.num, Bool.and_eq_true, decide_eq_true_eq] at h
    simp only [D.py, D.sz]
    exact h.2
  | .well, h => by simp [D.num] at h
  | .raw _, h => by simp [D.num] at h
  | .exc _ _ _ _ _, h => by simp [D.num] at h
theorem nums_len : ∀ ds : List D, D.nums ds = true → piled (PyData.shownAll (D.pys ds)) ≤ D.szs ds
  | [], _ => by simp [D.pys, PyData.shownAll, piled, D.szs]
  | d :: r, h => by
    simp only [D.nums, Bool.and_eq_true] at h
    have h1 := num_len d h.1
    have h2 := nums_len r h.2
    simp only [D.pys, PyData.shownAll, D.szs]
    rw [piled_cons]
    omega
end
mutual
theorem num_show : ∀ d : D, d.num = true → d.py.showable = true
  | .non, _ => by simp only [D.py, PyData.showable]
  | .bl b, _ => by simp only [D.py, PyData.showable]
  | .int i, h => by
    simp only [D.num, decide_eq_true_eq] at h
    simp only [D.py, PyData.showable, decide_eq_true_eq]
    have h2 : i.natAbs < 2 ^ 60 := Nat.lt_trans h (by decide)
    by_cases h0 : i.natAbs = 0
    · rw [h0]; decide
    · exact Nat.lt_trans ((Nat.log2_lt h0).mpr h2) (by decide)
  | .tup xs, h => by simp only [D.py, PyData.showable]; exact nums_show xs (by simpa only [D.num] using h)
  | .lst xs, h => by simp only [D.py, PyData.showable]; exact nums_show xs (by simpa only [D.num] using h)
  | .str _, h => by simp only [D.py, PyData.showable]
  | .well, h => by simp [D.num] at h
  | .raw _, h => by simp [D.num] at h
  | .exc _ _ _ _ _, h => by simp [D.num] at h
theorem nums_show : ∀ ds : List D, D.nums ds = true → PyData.showableAll (D.pys ds) = true
  | [], _ => by simp [D.pys, PyData.showableAll]
  | d :: r, h => by
    simp only [D.nums, Bool.and_eq_true] at h
    simp only [D.pys, PyData.showableAll, num_show d h.1, nums_show r h.2, Bool.and_self]
end
mutual
theorem num_plain : ∀ d : D, d.num = true → d.plain = true
  | .non, _ => by simp only [D.plain]
  | .bl b, _ => by simp only [D.plain]
  | .int i, h => by simp only [D.plain]
  | .tup xs, h => by simp only [D.plain]; exact nums_plain xs (by simpa only [D.num] using h)
  | .lst xs, h => by simp only [D.plain]; exact nums_plain xs (by simpa only [D.num] using h)
  | .str _, h => by
    simp only [D.num, Bool.and_eq_true] at h
    simp only [D.plain, h.1]
  | .well, h => by simp [D.num] at h
  | .raw _, h => by simp [D.num] at h
  | .exc _ _ _ _ _, h => by simp [D.num] at h
theorem nums_plain : ∀ ds : List D, D.nums ds = true → D.plains ds = true
  | [], _ => by simp [D.plains]
  | d :: r, h => by
    simp only [D.nums, Bool.and_eq_true] at h
    simp only [D.plains, num_plain d h.1, nums_plain r h.2, Bool.and_self]
end
mutual
theorem dep_py : ∀ d : D, d.py.depth = d.dep
  | .non => by simp only [D.py, PyData.depth, D.dep]
  | .bl b => by simp only [D.py, PyData.depth, D.dep]
  | .int i => by simp only [D.py, PyData.depth, D.dep]
  | .tup xs => by simp only [D.py, PyData.depth, D.dep, deps_py xs]
  | .lst xs => by simp only [D.py, PyData.depth, D.dep, deps_py xs]
  | .str _ => by simp only [D.py, PyData.depth, D.dep]
  | .well => by simp only [D.py, PyData.depth, D.dep]
  | .raw _ => by simp only [D.py, PyData.depth, D.dep]
  | .exc _ _ _ _ _ => by simp only [D.py, PyData.depth, D.dep]
theorem deps_py : ∀ ds : List D, PyData.depthAll (D.pys ds) = D.deps ds
  | [] => by simp only [D.pys, PyData.depthAll, D.deps]
  | d :: r => by simp only [D.pys, PyData.depthAll, D.deps, dep_py d, deps_py r]
end
theorem canShow_of {d : D} (h : d.num = true) (hs : d.sz ≤ sizeLine) (hd : d.dep ≤ 64) : d.canShow :=
  ⟨num_plain d h, num_show d h, Nat.le_trans (num_len d h) hs, by rw [dep_py]; exact hd⟩
theorem nums_iff : ∀ {ds : List D}, D.nums ds = true ↔ ∀ d ∈ ds, d.num = true
  | [] => by simp [D.nums]
  | d :: r => by simp [D.nums, nums_iff (ds := r)]
theorem szs_le {ds : List D} {k : Nat} (h : ∀ d ∈ ds, d.sz ≤ k) : D.szs ds ≤ (k + 2) * ds.length := by
  induction ds with
  | nil => simp [D.szs]
  | cons d r ih =>
    have h1 := h d (by simp)
    have h2 := ih fun x hx => h x (by simp [hx])
    simp only [D.szs, List.length_cons]
    rw [Nat.mul_succ]
    omega
theorem deps_le {ds : List D} {k : Nat} (h : ∀ d ∈ ds, d.dep ≤ k) : D.deps ds ≤ k := by
  induction ds with
  | nil => simp [D.deps]
  | cons d r ih =>
    have h1 := h d (by simp)
    have h2 := ih fun x hx => h x (by simp [hx])
    simp only [D.deps]
    omega
end
end AL
namespace AL
open PySem PySem.Spec PyProof.Rows L2
noncomputable section
/-! ## the plain side: what the data functions are -/
@[simp] theorem s_dC (d : D) (ρ : DEnv) : dC d ρ = (.ok d) := rfl
@[simp] theorem s_dV (i : Nat) (ρ : DEnv) : dV i ρ = (match ρ[i]? with
  | some (.sh d) => .ok d
  | _ => .fail) := rfl
@[simp] theorem s_dB (op : D → D → T D) (a b : DEnv → T D) (ρ : DEnv) : dB op a b ρ = ((a ρ).bind fun x => (b ρ).bind fun y => op x y) := rfl
@[simp] theorem s_dT (f : DEnv → T D) (ρ : DEnv) : dT f ρ = ((f ρ).bind fun d => match d with
  | .bl b => .ok b
  | _ => .fail) := rfl
@[simp] theorem s_dTAnd (a b : DEnv → T Bool) (ρ : DEnv) : dTAnd a b ρ = ((a ρ).bind fun x => if x then b ρ else .ok false) := rfl
@[simp] theorem s_dTOr (a b : DEnv → T Bool) (ρ : DEnv) : dTOr a b ρ = ((a ρ).bind fun x => if x then .ok true else b ρ) := rfl
@[simp] theorem s_dTNot (a : DEnv → T Bool) (ρ : DEnv) : dTNot a ρ = ((a ρ).bind fun x => .ok (!x)) := rfl
@[simp] theorem s_dAnd (a b : DEnv → T D) (ρ : DEnv) : dAnd a b ρ = ((a ρ).bind fun x => match x with
  | .bl true => b ρ
  | .bl false => .ok (.bl false)
  | _ => .fail) := rfl
@[simp] theorem s_dOr (a b : DEnv → T D) (ρ : DEnv) : dOr a b ρ = ((a ρ).bind fun x => match x with
  | .bl false => b ρ
  | .bl true => .ok (.bl true)
  | _ => .fail) := rfl
@[simp] theorem s_dNot (a : DEnv → T D) (ρ : DEnv) : dNot a ρ = ((a ρ).bind fun x => match x with
  | .bl b => .ok (.bl (!b))
  | _ => .fail) := rfl
@[simp] theorem s_dIf (t : DEnv → T Bool) (a b : DEnv → T D) (ρ : DEnv) : dIf t a b ρ = ((t ρ).bind fun x => if x then a ρ else b ρ) := rfl
@[simp] theorem s_dNil (ρ : DEnv) : dNil ρ = (.ok []) := rfl
@[simp] theorem s_dCons (a : DEnv → T D) (b : DEnv → T (List D)) (ρ : DEnv) : dCons a b ρ = ((a ρ).bind fun x => (b ρ).bind fun r => .ok (x :: r)) := rfl
@[simp] theorem s_dTup (a : DEnv → T (List D)) (ρ : DEnv) : dTup a ρ = ((a ρ).bind fun xs => if xs.length ≤ sizeLine then .ok (.tup xs) else .fail) := rfl
@[simp] theorem s_dLst (a : DEnv → T (List D)) (ρ : DEnv) : dLst a ρ = ((a ρ).bind fun xs => if xs.length ≤ sizeLine then .ok xs else .fail) := rfl
@[simp] theorem s_dFz (f : DEnv → T (List D)) (ρ : DEnv) : dFz f ρ = ((f ρ).bind fun xs => .ok (.lst xs)) := rfl
@[simp] theorem s_dSqV (i : Nat) (ρ : DEnv) : dSqV i ρ = (match ρ[i]? with
  | some (.sh (.tup xs)) => .ok (.t xs)
  | some (.sh (.lst xs)) => .ok (.l xs)
  | some (.own xs) => .ok (.l xs)
  | _ => .fail) := rfl
@[simp] theorem s_dSq (f : DEnv → T D) (ρ : DEnv) : dSq f ρ = ((f ρ).bind fun d => match d with
  | .tup xs => .ok (.t xs)
  | .lst xs => .ok (.l xs)
  | _ => .fail) := rfl
@[simp] theorem s_dSqN (f : DEnv → T (List D)) (ρ : DEnv) : dSqN f ρ = ((f ρ).bind fun xs => .ok (.l xs)) := rfl
@[simp] theorem s_dLen (f : DEnv → T Sq) (ρ : DEnv) : dLen f ρ = ((f ρ).bind fun s => .ok (.int s.xs.length)) := rfl
@[simp] theorem s_dIx (f : DEnv → T Sq) (g : DEnv → T D) (ρ : DEnv) : dIx f g ρ = ((f ρ).bind fun s => (g ρ).bind fun i => opIx s i) := rfl
@[simp] theorem s_dTupOf (f : DEnv → T Sq) (ρ : DEnv) : dTupOf f ρ = ((f ρ).bind fun s => if s.xs.length ≤ sizeLine then .ok (.tup s.xs) else .fail) := rfl
@[simp] theorem s_dListOf (f : DEnv → T Sq) (ρ : DEnv) : dListOf f ρ = ((f ρ).bind fun s => .ok s.xs) := rfl
@[simp] theorem s_dCat (f g : DEnv → T Sq) (ρ : DEnv) : dCat f g ρ = ((f ρ).bind fun s => (g ρ).bind fun t => match s, t with
  | .l xs, .l ys => if xs.length + ys.length ≤ sizeLine then .ok (xs ++ ys) else .fail
  | _, _ => .fail) := rfl
@[simp] theorem s_dNoP (ρ : DEnv) : dNoP ρ = (.ok none) := rfl
@[simp] theorem s_dP (f : DEnv → T D) (ρ : DEnv) : dP f ρ = ((f ρ).bind fun d => match d with
  | .int i => .ok (some i)
  | _ => .fail) := rfl
@[simp] theorem s_dSlT (f : DEnv → T Sq) (lo hi : DEnv → T (Option Int)) (ρ : DEnv) : dSlT f lo hi ρ = ((f ρ).bind fun s => (lo ρ).bind fun l => (hi ρ).bind fun h => match s with
  | .t xs => .ok (.tup (cutD xs l h))
  | .l _ => .fail) := rfl
@[simp] theorem s_dSlL (f : DEnv → T Sq) (lo hi : DEnv → T (Option Int)) (ρ : DEnv) : dSlL f lo hi ρ = ((f ρ).bind fun s => (lo ρ).bind fun l => (hi ρ).bind fun h => match s with
  | .l xs => .ok (cutD xs l h)
  | .t _ => .fail) := rfl
@[simp] theorem s_dQuant (g : List Bool → Bool) (f : DEnv → T Sq) (ρ : DEnv) : dQuant g f ρ = ((f ρ).bind fun s => match s with
  | .l xs => match asBools xs with
    | some bs => .ok (.bl (g bs))
    | none => .fail
  | .t _ => .fail) := rfl
@[simp] theorem s_dIsi (Ty : String) (f : DEnv → T D) (ρ : DEnv) : dIsi Ty f ρ = ((f ρ).bind fun d => if d.known then .ok (.bl (d.isA Ty)) else .fail) := rfl
@[simp] theorem s_dItems (f : DEnv → T Sq) (ρ : DEnv) : dItems f ρ = ((f ρ).bind fun s => .ok s.xs) := rfl
@[simp] theorem s_dEnum (f : DEnv → T Sq) (ρ : DEnv) : dEnum f ρ = ((f ρ).bind fun s => .ok (numbered 0 s.xs)) := rfl
def rangeT (d : D) : T (List D) := match d with
  | .int j => if RngOk j then .ok (upFrom 0 j.toNat) else .fail
  | _ => .fail
def rangeT2 (d e : D) : T (List D) := match d, e with
  | .int i, .int j => if RngOk i ∧ RngOk j then .ok (upFrom i (j - i).toNat) else .fail
  | _, _ => .fail
@[simp] theorem s_dRange1 (f : DEnv → T D) (ρ : DEnv) : dRange1 f ρ = (f ρ).bind rangeT := rfl
@[simp] theorem s_dRange2 (f g : DEnv → T D) (ρ : DEnv) : dRange2 f g ρ = ((f ρ).bind fun d => (g ρ).bind fun e => rangeT2 d e) := rfl
theorem upFrom_eq : ∀ (n : Nat) (lo : Int), upFrom lo n = (List.range n).map fun k : Nat => D.int (lo + k)
  | 0, _ => rfl
  | n + 1, lo => by
    rw [List.range_succ_eq_map, List.map_cons, List.map_map]
    simp only [upFrom, upFrom_eq n (lo + 1)]
    congr 1
    · simp
    · refine List.map_congr_left fun k _ => ?_
      show D.int _ = D.int _
      congr 1
      have : ((k + 1 : Nat) : Int) = (k : Int) + 1 := by omega
      show lo + 1 + (k : Int) = lo + ((k + 1 : Nat) : Int)
      omega
theorem rangeT_nat {n : Nat} (h : n ≤ 1000000000) : rangeT (.int (n : Nat)) = .ok ((List.range n).map fun k : Nat => D.int k) := by
  unfold rangeT
  show (if RngOk _ then _ else _) = _
  rw [if_pos ⟨by omega, by omega⟩, Int.toNat_natCast, upFrom_eq]
  congr 1
  exact List.map_congr_left fun k _ => by simp
@[simp] theorem s_bName (i : Nat) (d : D) (ρ : DEnv) : bName i d ρ = (.ok (ρ.set i (.sh d))) := rfl
@[simp] theorem s_dLc (fi : DEnv → T (List D)) (fb : D → DEnv → T DEnv) (ft : DEnv → T Bool) (fe : DEnv → T D) (vs : List Nat) (ρ : DEnv) : dLc fi fb ft fe vs ρ = ((fi ρ).bind fun xs => if xs.length ≤ sizeLine then lcGo fb ft fe (dWipe ρ vs) xs else .fail) := rfl
@[simp] theorem s_dYes (ρ : DEnv) : dYes ρ = (.ok true) := rfl
@[simp] theorem s_dCall (ar : Nat) (fn : List D → T D) (a : DEnv → T (List D)) (ρ : DEnv) : dCall ar fn a ρ = ((a ρ).bind fun ds => if ds.length = ar then fn ds else .fail) := rfl
@[simp] theorem s_dCallK (ar n kn : Nat) (π : List Nat) (fn : List D → T D) (a b : DEnv → T (List D)) (ρ : DEnv) : dCallK ar n kn π fn a b ρ = ((a ρ).bind fun xs => (b ρ).bind fun ys => if π.length = ar ∧ xs.length = n ∧ ys.length = kn then fn (π.map fun i => (xs ++ ys).getD i .non) else .fail) := rfl
@[simp] theorem s_gNil (ρ : DEnv) : gNil ρ = (.ok (.nx ρ)) := rfl
@[simp] theorem s_gSeq (g g' : DEnv → T Fl) (ρ : DEnv) : gSeq g g' ρ = ((g ρ).bind fun fl => match fl with
  | .nx ρ' => g' ρ'
  | fl => .ok fl) := rfl
@[simp] theorem s_gPass (ρ : DEnv) : gPass ρ = (.ok (.nx ρ)) := rfl
@[simp] theorem s_gBreak (ρ : DEnv) : gBreak ρ = (.ok (.bk ρ)) := rfl
@[simp] theorem s_gContinue (ρ : DEnv) : gContinue ρ = (.ok (.ct ρ)) := rfl
@[simp] theorem s_gFreeze (i : Nat) (g : DEnv → T Fl) (ρ : DEnv) : gFreeze i g ρ = (g (dFreeze i ρ)) := rfl
@[simp] theorem s_gExpr (f : DEnv → T D) (ρ : DEnv) : gExpr f ρ = ((f ρ).ex ρ fun _ => .ok (.nx ρ)) := rfl
@[simp] theorem s_gRet (f : DEnv → T D) (ρ : DEnv) : gRet f ρ = ((f ρ).ex ρ fun d => .ok (.rt d)) := rfl
@[simp] theorem s_gRetN (ρ : DEnv) : gRetN ρ = (.ok (.rt .non)) := rfl
@[simp] theorem s_gIf (t : DEnv → T Bool) (a b : DEnv → T Fl) (ρ : DEnv) : gIf t a b ρ = ((t ρ).ex ρ fun x => if x then a ρ else b ρ) := rfl
@[simp] theorem s_gSet (i : Nat) (f : DEnv → T D) (ρ : DEnv) : gSet i f ρ = ((f ρ).ex ρ fun d => .ok (.nx (ρ.set i (.sh d)))) := rfl
@[simp] theorem s_gSetN (i : Nat) (f : DEnv → T (List D)) (ρ : DEnv) : gSetN i f ρ = ((f ρ).ex ρ fun xs => .ok (.nx (ρ.set i (.own xs)))) := rfl
@[simp] theorem s_gAsg (f : DEnv → T D) (fb : D → DEnv → T DEnv) (ρ : DEnv) : gAsg f fb ρ = ((f ρ).ex ρ fun d => (fb d ρ).nox.bind fun ρ' => .ok (.nx ρ')) := rfl
@[simp] theorem s_gAppend (i : Nat) (f : DEnv → T D) (ρ : DEnv) : gAppend i f ρ = (match ρ[i]? with
  | some (.own xs) => (f ρ).ex ρ fun d => if xs.length < sizeLine then .ok (.nx (ρ.set i (.own (xs ++ [d])))) else .fail
  | _ => .fail) := rfl
@[simp] theorem s_gExtend (i : Nat) (f : DEnv → T Sq) (ρ : DEnv) : gExtend i f ρ = (match ρ[i]? with
  | some (.own xs) => (f ρ).ex ρ fun s => match s with
    | .l ys => if xs.length + ys.length ≤ sizeLine then .ok (.nx (ρ.set i (.own (xs ++ ys)))) else .fail
    | .t _ => .fail
  | _ => .fail) := rfl
@[simp] theorem s_gFor (fi : DEnv → T (List D)) (fb : D → DEnv → T DEnv) (g : DEnv → T Fl) (ρ : DEnv) : gFor fi fb g ρ = ((fi ρ).ex ρ fun xs => forGo fb g xs ρ) := rfl
@[simp] theorem s_dRepr (f : DEnv → T D) (ρ : DEnv) : dRepr f ρ = ((f ρ).bind fun d => if d.canShow then .ok (.str d.py.shown) else .fail) := rfl
@[simp] theorem s_dSh (f : DEnv → T D) (ρ : DEnv) : dSh f ρ = ((f ρ).bind fun d => .ok (.sh d)) := rfl
@[simp] theorem s_dOwn (f : DEnv → T (List D)) (ρ : DEnv) : dOwn f ρ = ((f ρ).bind fun d => .ok (.own d)) := rfl
@[simp] theorem s_gPar (i j : Nat) (f g : DEnv → T Slot) (ρ : DEnv) : gPar i j f g ρ = ((f ρ).ex ρ fun s => (g ρ).ex ρ fun t => .ok (.nx ((ρ.set i s).set j t))) := rfl
@[simp] theorem s_gNever (ρ : DEnv) : gNever ρ = (.fail) := rfl
@[simp] theorem s_dNeg (f : DEnv → T D) (ρ : DEnv) : dNeg f ρ = ((f ρ).bind fun d => match d with
  | .int i => .ok (.int (-i))
  | _ => .fail) := rfl

@[simp] theorem bodyT_eq (n : Nat) (g : DEnv → T Fl) (ds : List D) : bodyT n g ds = (g (env0 n ds)).nox.bind fun fl => match fl with
  | .nx _ => .ok .non
  | .rt d => .ok d
  | .rs e _ => .exc e
  | .bk _ => .fail
  | .ct _ => .fail := rfl
/-- m draws at most, every way ends in Q -/
structure run {α : Type} (t : T α) (c : Nat) (Q : α → Prop) : Prop where
  at_ : ∀ n, n + c ≤ T.line → t.wp (fun a m => Q a ∧ m ≤ n + c) (fun _ _ => False) n
section
variable {α β : Type} {t : T α} {c c1 c2 : Nat} {P Q : α → Prop} {R : β → Prop}
theorem run_ok {a : α} (h : Q a) : run (.ok a) c Q := ⟨fun n _ => ⟨h, by omega⟩⟩
theorem run_mono (h : run t c P) (hc : c ≤ c2) (hQ : ∀ a, P a → Q a) : run t c2 Q := ⟨fun n hn => T.wp_mono (fun a m q => ⟨hQ a q.1, by omega⟩) (fun _ _ h => h) (h.at_ n (by omega))⟩
theorem run_imp (h : run t c P) (hQ : ∀ a, P a → Q a) : run t c Q := run_mono h (Nat.le_refl _) hQ
theorem run_eq {a : α} (e : t = .ok a) (h : Q a) : run t c Q := by rw [e]; exact run_ok h
theorem run_draw {m : Int} {k : Int → T α} (h0 : 0 < m) (h : ∀ r, 0 ≤ r → r < m → run (k r) c Q) : run (.draw m k) (c + 1) Q := ⟨fun n hn =>
  ⟨h0, by omega, fun r r0 r1 => T.wp_mono (fun a m q => ⟨q.1, by omega⟩) (fun _ _ h => h) ((h r r0 r1).at_ (n + 1) (by omega))⟩⟩
theorem run_bind {k : α → T β} (h : run t c1 P) (hk : ∀ a, P a → run (k a) c2 R) : run (t.bind k) (c1 + c2) R := ⟨fun n hn =>
  (T.wp_bind t k).mpr (T.wp_mono (fun a m q => T.wp_mono (fun b m2 q2 => ⟨q2.1, by omega⟩) (fun _ _ h => h) ((hk a q.1).at_ m (by omega))) (fun _ _ h => h) (h.at_ n (by omega)))⟩
theorem run_bind0 {k : α → T β} (h : run t c1 P) (hk : ∀ a, P a → run (k a) 0 R) : run (t.bind k) c1 R := run_mono (run_bind h hk) (Nat.le_refl _) fun _ z => z
theorem wp_nox_of {E : Exc → Nat → Prop} {Q : α → Nat → Prop} : ∀ {n : Nat}, t.wp Q (fun _ _ => False) n → t.nox.wp Q E n := by
  induction t with
  | ok a => exact fun {n} h => h
  | exc e => exact fun {n} h => h.elim
  | draw m f ih => exact fun {n} h => ⟨h.1, h.2.1, fun r h0 h1 => ih r (h.2.2 r h0 h1)⟩
  | fail => exact fun {n} h => h.elim
theorem run_nox (h : run t c P) : run t.nox c P := ⟨fun n hn => wp_nox_of (h.at_ n hn)⟩
theorem wp_ex_of {ρ : DEnv} {k : α → T Fl} {Q : Fl → Nat → Prop} : ∀ {n : Nat}, t.wp (fun a m => (k a).wp Q (fun _ _ => False) m) (fun _ _ => False) n → (t.ex ρ k).wp Q (fun _ _ => False) n := by
  induction t with
  | ok a => intro n h; rw [T.ex_ok]; exact h
  | exc e => exact fun {n} h => h.elim
  | draw m f ih => intro n h; rw [T.ex_draw]; exact ⟨h.1, h.2.1, fun r h0 h1 => ih r (h.2.2 r h0 h1)⟩
  | fail => exact fun {n} h => h.elim
theorem run_ex {ρ : DEnv} {k : α → T Fl} {R : Fl → Prop} (h : run t c1 P) (hk : ∀ a, P a → run (k a) c2 R) : run (t.ex ρ k) (c1 + c2) R := ⟨fun n hn =>
  wp_ex_of (T.wp_mono (fun a m q => T.wp_mono (fun b m2 q2 => ⟨q2.1, by omega⟩) (fun _ _ h => h) ((hk a q.1).at_ m (by omega))) (fun _ _ h => h) (h.at_ n (by omega)))⟩
/-- no draw is left: an answer -/
theorem run_is {a : α} (h : run t 0 (fun b => b = a)) : t = .ok a := by
  have q := h.at_ T.line (by omega)
  cases t with
  | ok b => exact congrArg _ q.1
  | exc e => exact q.elim
  | draw m f => exact absurd q.2.1 (Nat.lt_irrefl _)
  | fail => exact q.elim
end
/-! ### loops -/
/-- a loop that goes to its end -/
theorem run_for {fb : D → DEnv → T DEnv} {g : DEnv → T Fl} {c : Nat} (I : Nat → DEnv → Prop) : ∀ (xs : List D) (i0 : Nat) (ρ : DEnv), I i0 ρ →
    (∀ i x ρ, xs[i]? = some x → I (i0 + i) ρ → ∃ ρ1, fb x ρ = .ok ρ1 ∧ run (g ρ1) c fun fl => ∃ ρ2, (fl = .nx ρ2 ∨ fl = .ct ρ2) ∧ I (i0 + i + 1) ρ2) →
    run (forGo fb g xs ρ) (c * xs.length) fun fl => ∃ ρ2, fl = .nx ρ2 ∧ I (i0 + xs.length) ρ2
  | [], i0, ρ, h, _ => run_ok ⟨ρ, rfl, h⟩
  | x :: r, i0, ρ, h, hs => by
    obtain ⟨ρ1, e, h1⟩ := hs 0 x ρ rfl h
    unfold forGo
    rw [e, T.nox_ok, T.bind_ok]
    have ih := fun ρ2 (h2 : I (i0 + 1) ρ2) => run_for I r (i0 + 1) ρ2 h2 fun i x ρ hx hi => by
      have := hs (i + 1) x ρ hx (by rw [show i0 + (i + 1) = i0 + 1 + i by omega]; exact hi)
      rw [show i0 + (i + 1) = i0 + 1 + i by omega] at this
      exact this
    have e2 : c * (x :: r).length = c + c * r.length := by rw [List.length_cons, Nat.mul_succ]; omega
    rw [e2]
    refine run_bind h1 fun fl q => ?_
    obtain ⟨ρ2, q | q, h2⟩ := q
    · subst q
      exact run_imp (ih ρ2 h2) fun fl ⟨ρ3, h3, h4⟩ => ⟨ρ3, h3, by rw [List.length_cons, show i0 + (r.length + 1) = i0 + 1 + r.length by omega]; exact h4⟩
    · subst q
      exact run_imp (ih ρ2 h2) fun fl ⟨ρ3, h3, h4⟩ => ⟨ρ3, h3, by rw [List.length_cons, show i0 + (r.length + 1) = i0 + 1 + r.length by omega]; exact h4⟩
/-- a comprehension without a draw -/
theorem lc_eq {fb : D → DEnv → T DEnv} {ft : DEnv → T Bool} {fe : DEnv → T D} {ρ : DEnv} {p : D → Bool} {g : D → D} : ∀ {xs : List D}, (∀ x ∈ xs, ∃ ρ1, fb x ρ = .ok ρ1 ∧ ft ρ1 = .ok (p x) ∧ (p x = true → fe ρ1 = .ok (g x))) → lcGo fb ft fe ρ xs = .ok ((xs.filter p).map g)
  | [], _ => rfl
  | x :: r, h => by
    obtain ⟨ρ1, e1, e2, e3⟩ := h x (by simp)
    have ih := lc_eq (xs := r) (fun y hy => h y (by simp [hy]))
    unfold lcGo
    rw [e1, T.nox_ok, T.bind_ok, e2, T.nox_ok, T.bind_ok]
    cases hp : p x with
    | true => rw [if_pos rfl, e3 hp, T.nox_ok, T.bind_ok, ih, T.bind_ok, List.filter_cons_of_pos hp, List.map_cons]
    | false => rw [if_neg (by simp), ih, List.filter_cons_of_neg (by simp [hp])]
theorem lc_map {fb : D → DEnv → T DEnv} {fe : DEnv → T D} {ρ : DEnv} {g : D → D} {xs : List D} (h : ∀ x ∈ xs, ∃ ρ1, fb x ρ = .ok ρ1 ∧ fe ρ1 = .ok (g x)) : lcGo fb dYes fe ρ xs = .ok (xs.map g) := by
  have := lc_eq (fb := fb) (ft := dYes) (fe := fe) (ρ := ρ) (p := fun _ => true) (g := g) (xs := xs) fun x hx => let ⟨ρ1, a, b⟩ := h x hx; ⟨ρ1, a, rfl, fun _ => b⟩
  rwa [List.filter_eq_self.mpr fun _ _ => rfl] at this
/-- a comprehension with draws -/
theorem run_lc {fb : D → DEnv → T DEnv} {fe : DEnv → T D} {ρ : DEnv} {c : Nat} {P : D → Prop} : ∀ {xs : List D}, (∀ x ∈ xs, ∃ ρ1, fb x ρ = .ok ρ1 ∧ run (fe ρ1) c P) → run (lcGo fb dYes fe ρ xs) (c * xs.length) fun ys => ys.length = xs.length ∧ ∀ y ∈ ys, P y
  | [], _ => run_ok ⟨rfl, fun _ h => nomatch h⟩
  | x :: r, h => by
    obtain ⟨ρ1, e1, e2⟩ := h x (by simp)
    have ih := run_lc (xs := r) (fun y hy => h y (by simp [hy]))
    unfold lcGo
    rw [e1, T.nox_ok, T.bind_ok, show (dYes ρ1).nox = .ok true from rfl, T.bind_ok, if_pos rfl]
    have e3 : c * (x :: r).length = c + c * r.length := by rw [List.length_cons, Nat.mul_succ]; omega
    rw [e3]
    refine run_bind (run_nox e2) fun y hy => run_bind0 ih fun ys q => run_ok ⟨by rw [List.length_cons, List.length_cons, q.1], fun z hz => ?_⟩
    rcases List.mem_cons.mp hz with e | e
    · rw [e]; exact hy
    · exact q.2 z e
/-! ### draws, indexes, classes -/
theorem run_take {m : Int} (h0 : 0 < m) (h1 : m.natAbs < 2 ^ 64) : run (fTake [.well, .int m]) 1 fun d => ∃ r : Nat, d = .int r ∧ (r : Int) < m := by
  rw [show fTake [.well, .int m] = T.draw m fun r => .ok (.int r) from if_pos ⟨h0, h1⟩]
  refine run_draw (c := 0) h0 fun r r0 r1 => run_ok ⟨r.toNat, by rw [Int.toNat_of_nonneg r0], by omega⟩
theorem opIx_t {xs : List D} {i : Nat} {d : D} (h : xs[i]? = some d) : opIx (.t xs) (.int i) = .ok d := by
  unfold opIx
  show (match L2.atI xs i with | some d => T.ok d | none => .fail) = _
  rw [atI_nat h]
theorem opIx_l {xs : List D} {i : Nat} {d : D} (h : xs[i]? = some d) : opIx (.l xs) (.int i) = .ok d := by
  unfold opIx
  show (match L2.atI xs i with | some d => T.ok d | none => .fail) = _
  rw [atI_nat h]
@[simp] theorem isA_int (d : D) : d.isA "int" = (match d with | .int _ => true | .bl _ => true | _ => false) := by
  have a0 : (kitB "NoneType" "int").getD false = false := by decide +kernel
  have a1 : (kitB "bool" "int").getD false = true := by decide +kernel
  have a2 : (kitB "int" "int").getD false = true := by decide +kernel
  have a3 : (kitB "str" "int").getD false = false := by decide +kernel
  have a4 : (kitB "tuple" "int").getD false = false := by decide +kernel
  have a5 : (kitB "list" "int").getD false = false := by decide +kernel
  cases d <;> first | exact a0 | exact a1 | exact a2 | exact a3 | exact a4 | exact a5
@[simp] theorem isA_bool (d : D) : d.isA "bool" = (match d with | .bl _ => true | _ => false) := by
  have a0 : (kitB "NoneType" "bool").getD false = false := by decide +kernel
  have a1 : (kitB "bool" "bool").getD false = true := by decide +kernel
  have a2 : (kitB "int" "bool").getD false = false := by decide +kernel
  have a3 : (kitB "str" "bool").getD false = false := by decide +kernel
  have a4 : (kitB "tuple" "bool").getD false = false := by decide +kernel
  have a5 : (kitB "list" "bool").getD false = false := by decide +kernel
  cases d <;> first | exact a0 | exact a1 | exact a2 | exact a3 | exact a4 | exact a5
@[simp] theorem isA_str (d : D) : d.isA "str" = (match d with | .str _ => true | _ => false) := by
  have a0 : (kitB "NoneType" "str").getD false = false := by decide +kernel
  have a1 : (kitB "bool" "str").getD false = false := by decide +kernel
  have a2 : (kitB "int" "str").getD false = false := by decide +kernel
  have a3 : (kitB "str" "str").getD false = true := by decide +kernel
  have a4 : (kitB "tuple" "str").getD false = false := by decide +kernel
  have a5 : (kitB "list" "str").getD false = false := by decide +kernel
  cases d <;> first | exact a0 | exact a1 | exact a2 | exact a3 | exact a4 | exact a5
@[simp] theorem isA_tup (d : D) : d.isA "tuple" = (match d with | .tup _ => true | _ => false) := by
  have a0 : (kitB "NoneType" "tuple").getD false = false := by decide +kernel
  have a1 : (kitB "bool" "tuple").getD false = false := by decide +kernel
  have a2 : (kitB "int" "tuple").getD false = false := by decide +kernel
  have a3 : (kitB "str" "tuple").getD false = false := by decide +kernel
  have a4 : (kitB "tuple" "tuple").getD false = true := by decide +kernel
  have a5 : (kitB "list" "tuple").getD false = false := by decide +kernel
  cases d <;> first | exact a0 | exact a1 | exact a2 | exact a3 | exact a4 | exact a5
@[simp] theorem isA_lst (d : D) : d.isA "list" = (match d with | .lst _ => true | .well => true | .raw _ => true | .exc _ _ _ _ _ => true | _ => false) := by
  have a0 : (kitB "NoneType" "list").getD false = false := by decide +kernel
  have a1 : (kitB "bool" "list").getD false = false := by decide +kernel
  have a2 : (kitB "int" "list").getD false = false := by decide +kernel
  have a3 : (kitB "str" "list").getD false = false := by decide +kernel
  have a4 : (kitB "tuple" "list").getD false = false := by decide +kernel
  have a5 : (kitB "list" "list").getD false = true := by decide +kernel
  cases d <;> first | exact a0 | exact a1 | exact a2 | exact a3 | exact a4 | exact a5
@[simp] theorem known_non : D.known .non = true := rfl
@[simp] theorem known_bl (b : Bool) : D.known (.bl b) = true := rfl
@[simp] theorem known_int (i : Int) : D.known (.int i) = true := rfl
@[simp] theorem known_str (s : Str) : D.known (.str s) = true := rfl
@[simp] theorem known_tup (xs : List D) : D.known (.tup xs) = true := rfl
@[simp] theorem known_lst (xs : List D) : D.known (.lst xs) = true := rfl
@[simp] theorem known_well : D.known .well = true := rfl
@[simp] theorem known_exc (a : Addr) (d : Option Addr) (cls f : Str) (xs : List D) : D.known (.exc a d cls f xs) = false := rfl
@[simp] theorem known_raw (a : Addr) : D.known (.raw a) = false := rfl
@[simp] theorem isNon_non : D.isNon .non = true := rfl
@[simp] theorem isNon_bl (b : Bool) : D.isNon (.bl b) = false := rfl
@[simp] theorem isNon_int (i : Int) : D.isNon (.int i) = false := rfl
@[simp] theorem isNon_str (s : Str) : D.isNon (.str s) = false := rfl
@[simp] theorem isNon_tup (xs : List D) : D.isNon (.tup xs) = false := rfl
@[simp] theorem isNon_lst (xs : List D) : D.isNon (.lst xs) = false := rfl
@[simp] theorem opIs_non (g : Bool → Bool) (d : D) : opIs g d .non = .ok (.bl (g d.isNon)) := rfl
@[simp] theorem opGe_int (i j : Int) : opGe (.int i) (.int j) = .ok (.bl (decide (j ≤ i))) := rfl
@[simp] theorem opGt_int (i j : Int) : opGt (.int i) (.int j) = .ok (.bl (decide (j < i))) := rfl
@[simp] theorem opLe_int (i j : Int) : opLe (.int i) (.int j) = .ok (.bl (decide (i ≤ j))) := rfl
@[simp] theorem opLt_int (i j : Int) : opLt (.int i) (.int j) = .ok (.bl (decide (i < j))) := rfl
@[simp] theorem opAdd_int (i j : Int) : opAdd (.int i) (.int j) = .ok (.int (i + j)) := rfl
@[simp] theorem opSub_int (i j : Int) : opSub (.int i) (.int j) = .ok (.int (i - j)) := rfl
@[simp] theorem opAdd_tup (xs ys : List D) : opAdd (.tup xs) (.tup ys) = if xs.length + ys.length ≤ sizeLine then .ok (.tup (xs ++ ys)) else .fail := rfl
@[simp] theorem opEq_str (s t : Str) : opEq (.str s) (.str t) = .ok (.bl (decide (s = t))) := rfl
@[simp] theorem opNe_str (s t : Str) : opNe (.str s) (.str t) = .ok (.bl (!decide (s = t))) := rfl
@[simp] theorem opEq_int (i j : Int) : opEq (.int i) (.int j) = .ok (.bl (decide (i = j))) := by
  simp only [opEq, opEqG, D.plain, D.py, PyData.depth, PyData.eqv]
  have e : (i == j) = decide (i = j) := by rw [Bool.eq_iff_iff]; simp
  rw [e]
  simp
@[simp] theorem opNe_int (i j : Int) : opNe (.int i) (.int j) = .ok (.bl (!decide (i = j))) := by
  simp only [opNe, opEqG, D.plain, D.py, PyData.depth, PyData.eqv]
  have e : (i == j) = decide (i = j) := by rw [Bool.eq_iff_iff]; simp
  rw [e]
  simp
end
end AL
namespace AL
open PySem
noncomputable section
/-- a loop that looks for the first one -/
theorem for_find {fb : D → DEnv → T DEnv} {g : DEnv → T Fl} {I : DEnv → Prop} {p : D → Bool} {r : D → D} : ∀ {xs : List D} {ρ : DEnv}, I ρ →
    (∀ x ∈ xs, ∀ ρ, I ρ → ∃ ρ1, fb x ρ = .ok ρ1 ∧ ((p x = true ∧ g ρ1 = .ok (.rt (r x))) ∨ (p x = false ∧ ∃ ρ2, (g ρ1 = .ok (.nx ρ2) ∨ g ρ1 = .ok (.ct ρ2)) ∧ I ρ2))) →
    ∃ ρ', forGo fb g xs ρ = (match xs.find? p with | some x => .ok (.rt (r x)) | none => .ok (.nx ρ')) ∧ I ρ'
  | [], ρ, h, _ => ⟨ρ, rfl, h⟩
  | x :: xs, ρ, h, hs => by
    obtain ⟨ρ1, e1, e2⟩ := hs x (by simp) ρ h
    unfold forGo
    rw [e1, T.nox_ok, T.bind_ok]
    rcases e2 with ⟨hp, e2⟩ | ⟨hp, ρ2, e2, h2⟩
    · refine ⟨ρ, ?_, h⟩
      rw [e2, T.bind_ok, List.find?_cons_of_pos hp]
    · obtain ⟨ρ3, e3, h3⟩ := for_find (xs := xs) h2 fun y hy => hs y (by simp [hy])
      refine ⟨ρ3, ?_, h3⟩
      rw [List.find?_cons_of_neg (by simp [hp])]
      rcases e2 with e2 | e2
      · rw [e2, T.bind_ok]; exact e3
      · rw [e2, T.bind_ok]; exact e3
theorem numbered_mem {xs : List D} {k : Nat} {x : D} (h : x ∈ numbered k xs) : ∃ (i : Nat) (y : D), y ∈ xs ∧ x = .tup [.int (i : Nat), y] := by
  obtain ⟨i, hi⟩ := List.mem_iff_getElem?.mp h
  obtain ⟨y, h1, h2⟩ := numbered_get xs k i x hi
  exact ⟨k + i, y, List.mem_of_getElem? h1, h2⟩
/-- the first index of what is looked for -/
theorem numbered_find {q : D → Bool} {p : D → Bool} (hp : ∀ (i : Nat) (y : D), p (.tup [.int (i : Nat), y]) = q y) : ∀ (xs : List D) (k : Nat), (numbered k xs).find? p = (xs.findIdx? q).bind fun i => (xs[i]?).map fun y => .tup [.int ((k + i : Nat) : Int), y]
  | [], k => by simp [numbered]
  | x :: r, k => by
    simp only [numbered]
    cases hx : q x with
    | true => rw [List.find?_cons_of_pos (by rw [hp]; exact hx)]; simp [List.findIdx?_cons, hx]
    | false =>
      rw [List.find?_cons_of_neg (by rw [hp, hx]; simp), numbered_find hp r (k + 1)]
      simp only [List.findIdx?_cons, hx]
      cases e : r.findIdx? q with
      | none => simp
      | some i => simp; congr 1; funext y; congr 3; omega
@[simp] theorem numbered_length' (xs : List D) (k : Nat) : (numbered k xs).length = xs.length := numbered_length xs k
/-- numbers as data -/
def nD (n : Nat) : D := .int (n : Nat)
/-- a row of numbers -/
def rD (r : List Nat) : D := .tup (r.map nD)
@[simp] theorem known_nD (n : Nat) : (nD n).known = true := rfl
@[simp] theorem known_rD (n : List Nat) : (rD n).known = true := rfl
theorem nD_map_get {r : List Nat} {i : Nat} {x : Nat} (h : r[i]? = some x) : (r.map nD)[i]? = some (.int (x : Nat)) := by
  rw [List.getElem?_map, h]; rfl
theorem run0_ok {α : Type} {t : T α} {P : α → Prop} (h : run t 0 P) : ∃ a, t = .ok a ∧ P a := by
  have q := h.at_ T.line (by omega)
  cases t with
  | ok b => exact ⟨b, rfl, q.1⟩
  | exc e => exact q.elim
  | draw m f => exact absurd q.2.1 (Nat.lt_irrefl _)
  | fail => exact q.elim
/-- a loop that goes to its end, without a draw -/
theorem for_steps {fb : D → DEnv → T DEnv} {g : DEnv → T Fl} (I : Nat → DEnv → Prop) {xs : List D} {ρ : DEnv} (h : I 0 ρ)
    (hs : ∀ i x ρ, xs[i]? = some x → I i ρ → ∃ ρ1, fb x ρ = .ok ρ1 ∧ ∃ ρ2, (g ρ1 = .ok (.nx ρ2) ∨ g ρ1 = .ok (.ct ρ2)) ∧ I (i + 1) ρ2) : ∃ ρ', forGo fb g xs ρ = .ok (.nx ρ') ∧ I xs.length ρ' := by
  have r := run_for (fb := fb) (g := g) (c := 0) I xs 0 ρ h fun i x ρ hx hi => by
    rw [Nat.zero_add] at hi
    obtain ⟨ρ1, e1, ρ2, e2, h2⟩ := hs i x ρ hx hi
    refine ⟨ρ1, e1, ?_⟩
    rw [Nat.zero_add]
    rcases e2 with e2 | e2
    · exact run_eq e2 ⟨ρ2, .inl rfl, h2⟩
    · exact run_eq e2 ⟨ρ2, .inr rfl, h2⟩
  rw [Nat.zero_mul] at r
  obtain ⟨fl, e, ρ', e2, h2⟩ := run0_ok r
  rw [Nat.zero_add] at h2
  exact ⟨ρ', by rw [e, e2], h2⟩
theorem for_all {fb : D → DEnv → T DEnv} {g : DEnv → T Fl} (I : DEnv → Prop) {xs : List D} {ρ : DEnv} (h : I ρ)
    (hs : ∀ x ∈ xs, ∀ ρ, I ρ → ∃ ρ1, fb x ρ = .ok ρ1 ∧ ∃ ρ2, (g ρ1 = .ok (.nx ρ2) ∨ g ρ1 = .ok (.ct ρ2)) ∧ I ρ2) : ∃ ρ', forGo fb g xs ρ = .ok (.nx ρ') ∧ I ρ' :=
  for_steps (fun _ => I) h fun i x ρ hx hi => hs x (List.mem_of_getElem? hx) ρ hi
@[simp] theorem opIx_t0 (a : D) (r : List D) : opIx (.t (a :: r)) (.int 0) = .ok a := opIx_t (xs := a :: r) (i := 0) rfl
@[simp] theorem opIx_t1 (a b : D) (r : List D) : opIx (.t (a :: b :: r)) (.int 1) = .ok b := opIx_t (xs := a :: b :: r) (i := 1) rfl
@[simp] theorem opIx_t2 (a b c : D) (r : List D) : opIx (.t (a :: b :: c :: r)) (.int 2) = .ok c := opIx_t (xs := a :: b :: c :: r) (i := 2) rfl
@[simp] theorem opIx_t3 (a b c d : D) (r : List D) : opIx (.t (a :: b :: c :: d :: r)) (.int 3) = .ok d := opIx_t (xs := a :: b :: c :: d :: r) (i := 3) rfl
@[simp] theorem opIx_l0 (a : D) (r : List D) : opIx (.l (a :: r)) (.int 0) = .ok a := opIx_l (xs := a :: r) (i := 0) rfl
@[simp] theorem opIx_l1 (a b : D) (r : List D) : opIx (.l (a :: b :: r)) (.int 1) = .ok b := opIx_l (xs := a :: b :: r) (i := 1) rfl
@[simp] theorem opIx_l2 (a b c : D) (r : List D) : opIx (.l (a :: b :: c :: r)) (.int 2) = .ok c := opIx_l (xs := a :: b :: c :: r) (i := 2) rfl
theorem opIx_last {xs : List D} {d : D} (h : xs.getLast? = some d) : opIx (.l xs) (.int (-1)) = .ok d := by
  unfold opIx
  show (match L2.atI xs (-1) with | some d => T.ok d | none => .fail) = _
  obtain ⟨ys, rfl⟩ := List.getLast?_eq_some_iff.mp h
  unfold L2.atI L2.ixN
  have e1 : ¬ (0 : Int) ≤ -1 := by decide
  have e2 : -(((ys ++ [d]).length : Nat) : Int) ≤ -1 := by rw [List.length_append]; simp; omega
  rw [if_neg e1, if_pos e2]
  have e3 : ((-1 : Int) + ((ys ++ [d]).length : Nat)).toNat = ys.length := by rw [List.length_append]; simp; omega
  rw [e3]
  simp
theorem opEq_nil {xs : List D} (h : D.plains xs = true) : opEq (.tup xs) (.tup []) = .ok (.bl xs.isEmpty) := by
  have e : min (D.tup xs).py.depth (D.tup []).py.depth ≤ 64 := by simp [D.py, D.pys, PyData.depth, PyData.depthAll]
  show (if _ ∧ _ ∧ _ then _ else _) = _
  rw [if_pos ⟨by simpa only [D.plain] using h, rfl, e⟩]
  cases xs with
  | nil => simp [D.py, D.pys, PyData.eqv, PyData.eqvAll]
  | cons x r => simp [D.py, D.pys, PyData.eqv, PyData.eqvAll]
theorem plains_iff : ∀ {ds : List D}, D.plains ds = true ↔ ∀ d ∈ ds, d.plain = true
  | [] => by simp [D.plains]
  | d :: r => by simp [D.plains, plains_iff (ds := r)]
@[simp] theorem plain_nD (n : Nat) : (nD n).plain = true := by simp [nD, D.plain]
@[simp] theorem plain_rD (r : List Nat) : (rD r).plain = true := by
  simp only [rD, D.plain]
  exact plains_iff.mpr fun d hd => by
    obtain ⟨x, _, rfl⟩ := List.mem_map.mp hd
    exact plain_nD x
theorem szl {n : Nat} (h : n ≤ 16000000) : n ≤ sizeLine := by rw [PySem.sizeLine_eq]; omega
theorem szt {n : Nat} (h : n ≤ 16000000) : n < sizeLine := by rw [PySem.sizeLine_eq]; omega
@[simp] theorem szl_0 : 0 ≤ sizeLine := szl (by decide)
@[simp] theorem szt_0 : 0 < sizeLine := szt (by decide)
@[simp] theorem szl_1 : 1 ≤ sizeLine := szl (by decide)
@[simp] theorem szt_1 : 1 < sizeLine := szt (by decide)
@[simp] theorem szl_2 : 2 ≤ sizeLine := szl (by decide)
@[simp] theorem szt_2 : 2 < sizeLine := szt (by decide)
@[simp] theorem szl_3 : 3 ≤ sizeLine := szl (by decide)
@[simp] theorem szt_3 : 3 < sizeLine := szt (by decide)
@[simp] theorem szl_4 : 4 ≤ sizeLine := szl (by decide)
@[simp] theorem szt_4 : 4 < sizeLine := szt (by decide)
@[simp] theorem szl_5 : 5 ≤ sizeLine := szl (by decide)
@[simp] theorem szt_5 : 5 < sizeLine := szt (by decide)
@[simp] theorem szl_6 : 6 ≤ sizeLine := szl (by decide)
@[simp] theorem szt_6 : 6 < sizeLine := szt (by decide)
@[simp] theorem szl_7 : 7 ≤ sizeLine := szl (by decide)
@[simp] theorem szt_7 : 7 < sizeLine := szt (by decide)
@[simp] theorem szl_8 : 8 ≤ sizeLine := szl (by decide)
@[simp] theorem szt_8 : 8 < sizeLine := szt (by decide)
@[simp] theorem szl_9 : 9 ≤ sizeLine := szl (by decide)
@[simp] theorem szt_9 : 9 < sizeLine := szt (by decide)
@[simp] theorem szl_10 : 10 ≤ sizeLine := szl (by decide)
@[simp] theorem szt_10 : 10 < sizeLine := szt (by decide)
@[simp] theorem szl_11 : 11 ≤ sizeLine := szl (by decide)
@[simp] theorem szt_11 : 11 < sizeLine := szt (by decide)
@[simp] theorem szl_12 : 12 ≤ sizeLine := szl (by decide)
@[simp] theorem szt_12 : 12 < sizeLine := szt (by decide)
theorem run_call {α : Type} {t : T α} {c : Nat} {P Q : α → Prop} (h : run t c P) (hQ : ∀ a, P a → Q a) : run t c Q := run_imp h hQ
theorem run_take' {m : Nat} (h0 : 0 < m) (h1 : m < 1000000) : run (fTake [.well, .int (m : Nat)]) 1 fun d => ∃ r : Nat, d = nD r ∧ r < m :=
  run_imp (run_take (m := m) (by omega) (by omega)) fun d ⟨r, e, h⟩ => ⟨r, e, by omega⟩
theorem nats_of {m : Nat} : ∀ {ds : List D}, (∀ y ∈ ds, ∃ r : Nat, y = nD r ∧ r < m) → ∃ rs : List Nat, ds = rs.map nD ∧ ∀ x ∈ rs, x < m
  | [], _ => ⟨[], rfl, fun _ h => nomatch h⟩
  | d :: ds, h => by
    obtain ⟨r, e, hr⟩ := h d (by simp)
    obtain ⟨rs, e2, hrs⟩ := nats_of (ds := ds) fun y hy => h y (by simp [hy])
    refine ⟨r :: rs, by rw [e, e2, List.map_cons], fun x hx => ?_⟩
    rcases List.mem_cons.mp hx with z | z
    · rw [z]; exact hr
    · exact hrs x z
/-- tuple([e for k in range(n)]), with draws -/
theorem run_tup_draws {ρ : DEnv} {i n c : Nat} {f fe : DEnv → T D} {vs : List Nat} {P : D → Prop} (hf : f ρ = .ok (nD n)) (hn : n ≤ 100000) (h : ∀ k, k < n → run (fe ((dWipe ρ vs).set i (.sh (nD k)))) c P) :
    run (dTupOf (dSqN (dLc (dRange1 f) (bName i) dYes fe vs)) ρ) (c * n) fun d => ∃ ds, d = .tup ds ∧ ds.length = n ∧ ∀ y ∈ ds, P y := by
  have hr : rangeT (nD n) = .ok ((List.range n).map nD) := rangeT_nat (n := n) (by omega)
  have hl : ((List.range n).map nD).length = n := by rw [List.length_map, List.length_range]
  rw [s_dTupOf, s_dSqN, s_dLc, s_dRange1, hf, T.bind_ok, hr, T.bind_ok, if_pos (by rw [hl]; exact szl (by omega))]
  have r := run_lc (fb := bName i) (fe := fe) (ρ := dWipe ρ vs) (c := c) (P := P) (xs := (List.range n).map nD) fun x hx => by
    obtain ⟨k, hk, rfl⟩ := List.mem_map.mp hx
    exact ⟨_, rfl, h k (List.mem_range.mp hk)⟩
  rw [hl] at r
  refine run_bind0 (run_bind0 r fun ys hy => run_ok (Q := fun s => ∃ ys : List D, s = Sq.l ys ∧ ys.length = n ∧ ∀ y ∈ ys, P y) ⟨ys, rfl, hy.1, hy.2⟩) fun s ⟨ys, e, h1, h2⟩ => ?_
  subst e
  show run (if ys.length ≤ sizeLine then T.ok (D.tup ys) else .fail) 0 _
  rw [if_pos (by rw [h1]; exact szl (by omega))]
  exact run_ok ⟨ys, rfl, h1, h2⟩
theorem run_append {ρ : DEnv} {i c : Nat} {xs : List D} {f : DEnv → T D} {P : D → Prop} (hi : ρ[i]? = some (.own xs)) (hz : xs.length < sizeLine) (h : run (f ρ) c P) : run (gAppend i f ρ) c fun fl => ∃ d, P d ∧ fl = .nx (ρ.set i (.own (xs ++ [d]))) := by
  rw [s_gAppend, hi]
  refine run_mono (run_ex (c2 := 0) h fun d hd => ?_) (Nat.le_refl _) fun _ z => z
  rw [if_pos hz]
  exact run_ok ⟨d, hd, rfl⟩
theorem run_set {ρ : DEnv} {i c : Nat} {f : DEnv → T D} {P : D → Prop} (h : run (f ρ) c P) : run (gSet i f ρ) c fun fl => ∃ d, P d ∧ fl = .nx (ρ.set i (.sh d)) := by
  rw [s_gSet]
  exact run_mono (run_ex (c2 := 0) h fun d hd => run_ok ⟨d, hd, rfl⟩) (Nat.le_refl _) fun _ z => z
theorem run_seq {ρ : DEnv} {g g' : DEnv → T Fl} {c c2 : Nat} {P : DEnv → Prop} {R : Fl → Prop} (h : run (g ρ) c fun fl => ∃ ρ', fl = .nx ρ' ∧ P ρ') (h2 : ∀ ρ', P ρ' → run (g' ρ') c2 R) : run (gSeq g g' ρ) (c + c2) R := by
  rw [s_gSeq]
  refine run_bind h fun fl q => ?_
  obtain ⟨ρ', e, hp⟩ := q
  subst e
  exact h2 ρ' hp
/-- a statement without a draw goes on -/
theorem run_seq0 {ρ ρ' : DEnv} {g g' : DEnv → T Fl} {c : Nat} {R : Fl → Prop} (h : g ρ = .ok (.nx ρ')) (h2 : run (g' ρ') c R) : run (gSeq g g' ρ) c R := by
  rw [s_gSeq, h]
  exact h2
theorem run_ret {ρ : DEnv} {c : Nat} {f : DEnv → T D} {P : D → Prop} (h : run (f ρ) c P) : run (gRet f ρ) c fun fl => ∃ d, P d ∧ fl = .rt d := by
  rw [s_gRet]
  exact run_mono (run_ex (c2 := 0) h fun d hd => run_ok ⟨d, hd, rfl⟩) (Nat.le_refl _) fun _ z => z
theorem run_body {n c : Nat} {g : DEnv → T Fl} {ds : List D} {P : D → Prop} (h : run (g (env0 n ds)) c fun fl => ∃ d, P d ∧ fl = .rt d) : run (bodyT n g ds) c P := by
  rw [bodyT_eq]
  refine run_bind0 (run_nox h) fun fl ⟨d, hd, e⟩ => ?_
  subst e
  exact run_ok hd
theorem run_dbind {α β : Type} {f : DEnv → T α} {k : α → T β} {ρ : DEnv} {c c2 : Nat} {P : α → Prop} {R : β → Prop} (h : run (f ρ) c P) (hk : ∀ a, P a → run (k a) c2 R) : run ((f ρ).bind k) (c + c2) R := run_bind h hk
/-! ### expressions with draws -/
section
variable {ρ : DEnv} {c c1 c2 : Nat}
theorem run_pure {α : Type} {t : T α} {a : α} (e : t = .ok a) : run t 0 fun x => x = a := run_eq e rfl
theorem run_nil : run (dNil ρ) 0 fun ds => ds = [] := run_ok rfl
theorem run_cons {a : DEnv → T D} {b : DEnv → T (List D)} {P : D → Prop} {R : List D → Prop} (h1 : run (a ρ) c1 P) (h2 : run (b ρ) c2 R) : run (dCons a b ρ) (c1 + c2) fun ds => ∃ d r, ds = d :: r ∧ P d ∧ R r := by
  rw [s_dCons]
  exact run_bind h1 fun d hd => run_bind0 h2 fun r hr => run_ok ⟨d, r, rfl, hd, hr⟩
theorem run_dTup {a : DEnv → T (List D)} {P : List D → Prop} (h : run (a ρ) c P) (hz : ∀ ds, P ds → ds.length ≤ 16000000) : run (dTup a ρ) c fun d => ∃ ds, d = .tup ds ∧ P ds := by
  rw [s_dTup]
  refine run_bind0 h fun ds hd => ?_
  rw [if_pos (szl (hz ds hd))]
  exact run_ok ⟨ds, rfl, hd⟩
theorem run_dCall {ar : Nat} {fn : List D → T D} {a : DEnv → T (List D)} {P : List D → Prop} {R : D → Prop} (h : run (a ρ) c1 P) (h2 : ∀ ds, P ds → ds.length = ar ∧ run (fn ds) c2 R) : run (dCall ar fn a ρ) (c1 + c2) R := by
  rw [s_dCall]
  refine run_bind h fun ds hd => ?_
  rw [if_pos (h2 ds hd).1]
  exact (h2 ds hd).2
/-- a call whose arguments draw nothing -/
theorem run_dCall0 {ar : Nat} {fn : List D → T D} {a : DEnv → T (List D)} {ds : List D} {R : D → Prop} (h : a ρ = .ok ds) (hl : ds.length = ar) (h2 : run (fn ds) c R) : run (dCall ar fn a ρ) c R := by
  rw [s_dCall, h, T.bind_ok, if_pos hl]
  exact h2
theorem run_dB {op : D → D → T D} {a b : DEnv → T D} {P Q R : D → Prop} (h1 : run (a ρ) c1 P) (h2 : run (b ρ) c2 Q) (h : ∀ x y, P x → Q y → run (op x y) 0 R) : run (dB op a b ρ) (c1 + c2) R := by
  rw [s_dB]
  exact run_bind h1 fun x hx => run_bind0 h2 fun y hy => h x y hx hy
theorem run_for0 {fi : DEnv → T (List D)} {fb : D → DEnv → T DEnv} {g : DEnv → T Fl} {xs : List D} {R : Fl → Prop} (e : fi ρ = .ok xs) (h : run (forGo fb g xs ρ) c R) : run (gFor fi fb g ρ) c R := by
  rw [s_gFor, e, T.ex_ok]
  exact h
theorem run_if0 {t : DEnv → T Bool} {a b : DEnv → T Fl} {x : Bool} {R : Fl → Prop} (e : t ρ = .ok x) (h : run ((if x then a ρ else b ρ)) c R) : run (gIf t a b ρ) c R := by
  rw [s_gIf, e, T.ex_ok]
  exact h
end
/-- the same, where the number is drawn, too -/
theorem run_tup_draws' {ρ : DEnv} {i N c c1 : Nat} {f fe : DEnv → T D} {vs : List Nat} {P : D → Prop} (hf : run (f ρ) c1 fun d => ∃ n : Nat, d = nD n ∧ n ≤ N) (hn : N ≤ 100000) (h : ∀ k, k < N → run (fe ((dWipe ρ vs).set i (.sh (nD k)))) c P) :
    run (dTupOf (dSqN (dLc (dRange1 f) (bName i) dYes fe vs)) ρ) (c1 + c * N) fun d => ∃ ds, d = .tup ds ∧ ds.length ≤ N ∧ ∀ y ∈ ds, P y := by
  rw [s_dTupOf, s_dSqN, s_dLc, s_dRange1, T.bind_assoc, T.bind_assoc, T.bind_assoc]
  refine run_bind hf fun d ⟨n, e, hnN⟩ => ?_
  subst e
  have r := run_tup_draws (ρ := ρ) (i := i) (n := n) (c := c) (f := fun _ => .ok (nD n)) (fe := fe) (vs := vs) (P := P) rfl (by omega) fun k hk => h k (by omega)
  rw [s_dTupOf, s_dSqN, s_dLc, s_dRange1, T.bind_ok, T.bind_assoc, T.bind_assoc] at r
  exact run_mono r (Nat.mul_le_mul_left c hnN) fun d ⟨ds, a, b, c⟩ => ⟨ds, a, by omega, c⟩
/-! ### the size of rows of numbers -/
theorem num_nD {x : Nat} (h : x < 1000000) : (nD x).num = true := by
  simp only [nD, D.num, decide_eq_true_eq]
  omega
theorem nums_nD {l : List Nat} (h : ∀ x ∈ l, x < 1000000) : D.nums (l.map nD) = true := nums_iff.mpr fun d hd => by
  obtain ⟨x, hx, rfl⟩ := List.mem_map.mp hd
  exact num_nD (h x hx)
theorem sz_nD (x : Nat) : (nD x).sz = 24 := by simp only [nD, D.sz]
theorem szs_nD : ∀ l : List Nat, D.szs (l.map nD) = 26 * l.length
  | [] => by simp [D.szs]
  | x :: r => by simp only [List.map_cons, D.szs, sz_nD, szs_nD r, List.length_cons]; omega
theorem dep_nD (x : Nat) : (nD x).dep = 0 := by simp only [nD, D.dep]
theorem deps_nD (l : List Nat) : D.deps (l.map nD) ≤ 0 := deps_le fun d hd => by
  obtain ⟨x, hx, rfl⟩ := List.mem_map.mp hd
  rw [dep_nD]
  exact Nat.le_refl 0
theorem num_rD {l : List Nat} (h : ∀ x ∈ l, x < 1000000) : (rD l).num = true := by simp only [rD, D.num]; exact nums_nD h
theorem sz_rD (l : List Nat) : (rD l).sz = 26 * l.length + 3 := by simp only [rD, D.sz, szs_nD]
theorem dep_rD (l : List Nat) : (rD l).dep ≤ 1 := by
  simp only [rD, D.dep]
  have := deps_nD l
  omega
theorem nums_rD {m : List (List Nat)} (h : ∀ r ∈ m, ∀ x ∈ r, x < 1000000) : D.nums (m.map rD) = true := nums_iff.mpr fun d hd => by
  obtain ⟨r, hr, rfl⟩ := List.mem_map.mp hd
  exact num_rD (h r hr)
theorem szs_rD {m : List (List Nat)} {k : Nat} (h : ∀ r ∈ m, r.length ≤ k) : D.szs (m.map rD) ≤ (26 * k + 5) * m.length := by
  have := szs_le (ds := m.map rD) (k := 26 * k + 3) fun d hd => by
    obtain ⟨r, hr, rfl⟩ := List.mem_map.mp hd
    rw [sz_rD]
    have := h r hr
    omega
  rwa [List.length_map] at this
theorem deps_rD (m : List (List Nat)) : D.deps (m.map rD) ≤ 1 := deps_le fun d hd => by
  obtain ⟨r, hr, rfl⟩ := List.mem_map.mp hd
  exact dep_rD r
end
end AL
namespace AL
open PySem PySem.Spec PyProof.Rows L2
noncomputable section
/-! ## try: several clauses, some with a name -/
abbrev ClauseT := Addr → Value → Option Addr → TS
/-- what the clauses wish, one after the other; some n: the exception's slot -/
def wMix (K : PySem.W.Frag) (Wo : WX) (D : Ends) : List (Option Nat × Value × ClauseT) → WX
  | [] => Wo
  | (none, c, t) :: more => fun cls d σ H => ∃ b, PySem.W.exmOne K cls c = some b ∧ (b = true → ∀ a, H a = none → t a cls d D σ H) ∧ (b = false → wMix K Wo D more cls d σ H)
  | (some i, c, t) :: more => fun cls d σ H => ∃ b, PySem.W.exmOne K cls c = some b ∧
      (b = true → ∀ a, H a = none → t a cls d { nx := fun σ' H' => D.nx (σ'.set i none) H', rt := D.rt, bk := fun σ' H' => D.bk (σ'.set i none) H', ct := fun σ' H' => D.ct (σ'.set i none) H' } (σ.set i (some (.ref a))) H) ∧
      (b = false → wMix K Wo D more cls d σ H)
inductive MixOk (X : Cx) : List ExceptHandler → List (Option Nat × Value × ClauseT) → Prop
  | nil : MixOk X [] []
  | plain {x : Str} {c : Value} {t : ClauseT} {b0 : Stmt} {suite : List Stmt} {np pp : Pos} {hds : List ExceptHandler} {l : List (Option Nat × Value × ClauseT)} (hc : Names X x c)
      (hsu : ∀ (a : Addr) (oe : Obj) (cls : Value) (d : Option Addr) (pn : List (Addr × Obj)), Zc cls d oe → (∃ vs, oe.data = .fields vs) → PSs (X.suite a ((a, oe) :: pn)) (b0 :: suite) (t a cls d)) (more : MixOk X hds l) :
      MixOk X (.ExceptHandler (some (.Name x np)) none (b0 :: suite) pp :: hds) ((none, c, t) :: l)
  | named {x n : Str} {i : Nat} {c : Value} {t : ClauseT} {b0 : Stmt} {suite : List Stmt} {np pp : Pos} {hds : List ExceptHandler} {l : List (Option Nat × Value × ClauseT)} (hc : Names X x c) (hi : X.N[i]? = some n) (hl : X.env.kindOf n = some .local)
      (hsu : ∀ (a : Addr) (oe : Obj) (cls : Value) (d : Option Addr) (pn : List (Addr × Obj)), Zc cls d oe → (∃ vs, oe.data = .fields vs) → PSs (X.suite a ((a, oe) :: pn)) (b0 :: suite) (t a cls d)) (more : MixOk X hds l) :
      MixOk X (.ExceptHandler (some (.Name x np)) (some n) (b0 :: suite) pp :: hds) ((some i, c, t) :: l)
section
variable {X : Cx} {body : List Stmt} {h0 : ExceptHandler} {hds : List ExceptHandler} {l : List (Option Nat × Value × ClauseT)} {pos : Pos} {tb : WX → TS} {Wo : WX}
theorem ps_try_mix (hstk : X.stack = X.env :: X.outer) (hfrm : X.env.frame = some X.env.locals) (hN : X.N.Nodup) (tk : Takes X Wo)
    (hb : ∀ (W : WX) (pn : List (Addr × Obj)) (xe : Value → Shared → Prop), Takes (X.tr pn xe) W → PassesOwn (model X.prog X.w) X.A X.env xe → PSs (X.tr pn xe) body (tb W))
    (hh : MixOk X (h0 :: hds) l) : PS X (.Try body (h0 :: hds) [] [] pos) (fun D σ H => tb (wMix X.K Wo D l) D σ H) := by
  refine ⟨fun pins s σ H D I q0 => ?_⟩
  have okX := I.ok
  have hframes : X.A.frames = some (X.env :: X.outer) := by rw [okX.frames, hstk]
  refine wpAny_Try_except ?_
  have runB := (hb (wMix X.K Wo D l) (X.pn ++ pins) (fun er st1 => wpAny (model X.prog X.w) X.A (noteFrame er X.env) (fun _ st2 => wpAny (model X.prog X.w) X.A (setFlight er none) (fun _ st3 =>
    wpAny (model X.prog X.w) X.A (handleBy er X.env (h0 :: hds)) (SP X pins D) X.xe st3) X.xe st2) X.xe st1) (fun u s' air => ?_) PassesOwn.looking).run [] s σ H D (I.toTry _) q0
  · refine wpAny_mono runB (fun f sEnd hsp => ?_) (fun er sEnd he => he)
    cases f with
    | ret u =>
      obtain ⟨v, σ', H', J, r, q⟩ := hsp
      exact ⟨v, σ', H', J.ofTry okX, r, q⟩
    | next =>
      obtain ⟨σ', H', J, q⟩ := hsp
      exact wpAny_execs_nil ⟨σ', H', J.ofTry okX, q⟩
    | brk =>
      obtain ⟨σ', H', J, q⟩ := hsp
      exact ⟨σ', H', J.ofTry okX, q⟩
    | cont =>
      obtain ⟨σ', H', J, q⟩ := hsp
      exact ⟨σ', H', J.ofTry okX, q⟩
  · -- what the body lets out
    obtain ⟨a, B, sI, pins', σ', H', cls, d, rfl, Jt, notB, ups, skyT, noH, sameOs, allB, wish⟩ := air
    have J : Inv X pins σ' H' sI := Jt.ofTry okX
    have sky2 : Sky B (X.env :: X.outer) a (Zc cls d) X.env.locals s'.heap := by rw [← hstk]; exact skyT
    show wpAny _ X.A (noteFrame (.ref a) X.env) _ _ _
    refine Sky.land Zc.steady hframes hfrm sky2 fun g1 fly1 upg => ?_
    have J1 : Inv X pins σ' H' { s' with heap := g1 } := J.landed notB fly1.1 (ups.trans upg) sameOs allB
    obtain ⟨ob1, vs1, get1, zc1, dat1⟩ := fly1.there
    have notFrame : a ∉ frs (X.env :: X.outer) := fun hm => by
      obtain ⟨_, o', e', hnf⟩ := fly1.2.2.1.mem hm
      rw [get1] at e'
      cases e'
      exact hnf _ dat1
    have notLoc : a ≠ X.env.locals := fun z => notFrame (List.mem_filterMap.mpr ⟨X.env, List.mem_cons_self, by rw [hfrm, z]⟩)
    have notFs : a ∉ X.fs := fun hm => by
      obtain ⟨en, hen, qf⟩ := List.mem_filterMap.mp hm
      exact notFrame (List.mem_filterMap.mpr ⟨en, List.mem_cons_of_mem _ hen, qf⟩)
    have S1 := J1.suite get1 dat1 noH notLoc notFs
    have clsOf : PySem.W.Looks (model X.prog X.w) g1 (typeOf (.ref a)) cls := fun A Q E s k q => wpAny_typeOf_ref (k _ _ get1) (by rw [zc1.1]; exact q)
    have asked : ∀ {x : Str} {c : Value} {np : Pos}, Names X x c → ∀ {Q : Value → Shared → Prop} {E : Value → Shared → Prop}, Q c { s' with heap := g1 } → wpAny (model X.prog X.w) (X.A.mark (some (.ref a))) (eval (.Name x np) X.env) Q E { s' with heap := g1 } := fun {x c np} hc {Q E} q => by
      obtain ⟨hgl, hdb, hm | ⟨hm, hv, hnn⟩⟩ := hc
      · exact ld_glob (X := X.suite a ((a, ob1) :: (X.pn ++ pins))) S1 hgl hm q hdb
      · exact ld_blt (X := X.suite a ((a, ob1) :: (X.pn ++ pins))) S1 hgl hm hv q hnn hdb
    suffices walk : ∀ {hs' : List ExceptHandler} {l' : List (Option Nat × Value × ClauseT)}, MixOk X hs' l' → wMix X.K Wo D l' cls d σ' H' → wpAny (model X.prog X.w) X.A (handleBy (.ref a) X.env hs') (SP X pins D) X.xe { s' with heap := g1 } from walk hh wish
    intro hs' l' mk
    induction mk with
    | nil =>
      intro wo
      refine wpAny_handleBy_nil ?_
      obtain ⟨_, _, _, ob, vs, tr, _, _, gob, zob, dob, fld1, _⟩ := id fly1
      unfold PySem.passOn
      refine wpAny_bind (wpAny_field gob dob fld1 ?_)
      rw [if_neg (show ¬ ((Value.ref tr == Value.none) = true) from by simp)]
      have last : wpAny (model X.prog X.w) X.A (setFlight (.ref a) X.env.frame) (fun _ st4 => wpAny (model X.prog X.w) X.A (throw (.ref a) : Sem Flow) (SP X pins D) X.xe st4) X.xe { s' with heap := g1 } := by
        rw [hfrm]
        refine HandSPX.setFlight_upZ fly1 fun g4 held up4 => wpAny_throw (tk _ _ ?_)
        exact ⟨a, B, sI, pins, σ', H', cls, d, rfl, J, notB, (ups.trans upg).trans up4, .inr (.inr (by rw [hstk]; exact held)), noH, sameOs, allB, wo⟩
      first
        | exact wpAny_bind (wpAny_pure (wpAny_bind last))
        | exact wpAny_bind last
    | @plain x c t b0 suite np pp hds2 l2 hc hsu more ih =>
      intro wi
      obtain ⟨b, hb1, yes, no⟩ := wi
      refine wpAny_handleBy_cons (codeAny_handlers_test ?_) (by intro z; cases z)
      refine asked hc ((PySem.W.exm_one (M := model X.prog X.w) J1.kIn clsOf hb1).here ?_)
      cases b with
      | false =>
        show wpAny _ X.A (handleBy (.ref a) X.env hds2) _ _ _
        exact ih (no rfl)
      | true =>
        refine codeAny_handlers_suite ?_
        refine HandSPX.lands_againZ fly1 fun g4 fly4 up4 => ?_
        have J4 : Inv X pins σ' H' { s' with heap := g4 } := J.landed notB fly4.1 ((ups.trans upg).trans up4) sameOs allB
        obtain ⟨ob4, vs4, get4, zc4, dat4⟩ := fly4.there
        refine wpAny_mono ((hsu a ob4 cls d (X.pn ++ pins) zc4 ⟨_, dat4⟩).run [] _ _ H' _ (J4.suite get4 dat4 noH notLoc notFs) (yes rfl a noH)) (fun f s6 hsp => ?_) (fun _ _ z => False.elim z)
        cases f with
        | ret u =>
          obtain ⟨v6, σ6, H6, S6, r6, q6⟩ := hsp
          exact ⟨_, _, _, S6.unsuite okX, r6, q6⟩
        | next =>
          obtain ⟨σ6, H6, S6, q6⟩ := hsp
          exact ⟨_, _, S6.unsuite okX, q6⟩
        | brk =>
          obtain ⟨σ6, H6, S6, q6⟩ := hsp
          exact ⟨_, _, S6.unsuite okX, q6⟩
        | cont =>
          obtain ⟨σ6, H6, S6, q6⟩ := hsp
          exact ⟨_, _, S6.unsuite okX, q6⟩
    | @named x n i c t b0 suite np pp hds2 l2 hc hi hloc hsu more ih =>
      intro wi
      obtain ⟨b, hb1, yes, no⟩ := wi
      refine wpAny_handleBy_cons (codeAny_handlers_test ?_) (by intro z; cases z)
      refine asked hc ((PySem.W.exm_one (M := model X.prog X.w) J1.kIn clsOf hb1).here ?_)
      cases b with
      | false =>
        show wpAny _ X.A (handleBy (.ref a) X.env hds2) _ _ _
        exact ih (no rfl)
      | true =>
        refine codeAny_handlers_suite_as ?_
        refine HandSPX.lands_againZ fly1 fun g4 fly4 up4 => ?_
        have J4 : Inv X pins σ' H' { s' with heap := g4 } := J.landed notB fly4.1 ((ups.trans upg).trans up4) sameOs allB
        obtain ⟨ob4, vs4, get4, zc4, dat4⟩ := fly4.there
        refine store_ok (X := X.suite a ((a, ob4) :: (X.pn ++ pins))) (v := .ref a) (J4.suite get4 dat4 noH notLoc notFs) hN hi (.inl hloc) rfl (fun s5 S5 => ?_) (.inr hloc)
        refine wpAny_mono ((hsu a ob4 cls d (X.pn ++ pins) zc4 ⟨_, dat4⟩).run [] s5 _ H' _ S5 (yes rfl a noH)) (fun f s6 hsp => ?_) (fun _ _ z => False.elim z)
        have unbind : ∀ {σ6 : L2.St} {H6 : Hp} {Q : Shared → Prop}, Inv (X.suite a ((a, ob4) :: (X.pn ++ pins))) [] σ6 H6 s6 → (∀ s7, Inv X pins (σ6.set i none) H6 s7 → Q s7) →
            wpAny (model X.prog X.w) X.A (do bindName X.env n .none; unbindBehindTheSuite X.env n pp) (fun _ s7 => Q s7) X.xe s6 := fun {σ6 H6 Q} S6 hq => gone_ok (S6.unsuite okX) hN hi hloc hq
        cases f with
        | ret u =>
          obtain ⟨v6, σ6, H6, S6, r6, q6⟩ := hsp
          exact unbind S6 fun s7 J7 => ⟨_, _, _, J7, r6, q6⟩
        | next =>
          obtain ⟨σ6, H6, S6, q6⟩ := hsp
          exact unbind S6 fun s7 J7 => ⟨_, _, J7, q6⟩
        | brk =>
          obtain ⟨σ6, H6, S6, q6⟩ := hsp
          exact unbind S6 fun s7 J7 => ⟨_, _, J7, q6⟩
        | cont =>
          obtain ⟨σ6, H6, S6, q6⟩ := hsp
          exact unbind S6 fun s7 J7 => ⟨_, _, J7, q6⟩
end
/-! ### over data -/
instance {α : Type} (k : Addr → Option Addr → T α) : Decidable (∀ a d, k a d = k 0 none) := Classical.propDecidable _
/-- the same run whatever the exception's address is -/
def T.one {α : Type} (k : Addr → Option Addr → T α) : T α := if ∀ a d, k a d = k 0 none then k 0 none else .fail
theorem T.one_wp {α : Type} {k : Addr → Option Addr → T α} {Q : α → Nat → Prop} {E : Exc → Nat → Prop} {n : Nat} (h : (T.one k).wp Q E n) (a : Addr) (d : Option Addr) : (k a d).wp Q E n := by
  unfold T.one at h
  split at h
  · rename_i e
    rw [e a d]
    exact h
  · exact h.elim
theorem T.one_const {α : Type} {k : Addr → Option Addr → T α} {t : T α} (h : ∀ a d, k a d = t) : T.one k = t := by
  unfold T.one
  rw [if_pos fun a d => by rw [h, h], h]
structure Cl where
  /-- the name's slot, the one class that comes there -/
  slot : Option (Nat × Str)
  tab : List (Str × Bool)
  g : Addr → Option Addr → DEnv → T Fl
def excD (a : Addr) (d : Option Addr) (e : Exc) : D := match e.arg with
  | none => .exc a d e.cls "" []
  | some (f, x) => .exc a d e.cls f [x]
/-- a suite's end: nothing may be let out of it, its name is gone -/
def clrO (o : Option (Nat × Str)) (fl : Fl) : T Fl := match fl, o with
  | .nx ρ, some i => .ok (.nx (ρ.set i.1 .no))
  | .bk ρ, some i => .ok (.bk (ρ.set i.1 .no))
  | .ct ρ, some i => .ok (.ct (ρ.set i.1 .no))
  | .rt d, some _ => .ok (.rt d)
  | .rs _ _, _ => .fail
  | fl, none => .ok fl
def gHandle (e : Exc) : List Cl → DEnv → T Fl
  | [], ρ => .ok (.rs e ρ)
  | c :: r, ρ => match c.tab.lookup e.cls with
    | some true => match c.slot with
      | some i => if e.cls = i.2 then T.one fun a d => (c.g a d (ρ.set i.1 (.sh (excD a d e)))).bind (clrO (some i)) else .fail
      | none => T.one fun a d => (c.g a d ρ).bind (clrO none)
    | some false => gHandle e r ρ
    | none => .fail
def gTry (g : DEnv → T Fl) (cs : List Cl) : DEnv → T Fl := fun ρ => (g ρ).bind fun fl => match fl with
  | .rs e ρ' => gHandle e cs ρ'
  | fl => .ok fl
/-- what the written part says of the classes that may come, and of the clause's class -/
def TabOk (K : PySem.W.Frag) (mg : Str → Option Value) (c : Value) (tab : List (Str × Bool)) : Prop := ∀ n b, tab.lookup n = some b → ∀ C, mg n = some (.ref C) → PySem.W.exmOne K (.ref C) c = some b
/-- a clause's reading -/
def clause (K : PySem.W.Frag) (mg : Str → Option Value) (cv : Value) (c : Cl) : Option Nat × Value × ClauseT := match c.slot with
  | none => (none, cv, fun a _ d => sD K mg W0 (c.g a d))
  | some i => (some i.1, cv, fun a cls d D σ H => ∃ C, cls = .ref C ∧ mg i.2 = some (.ref C) ∧ sD K mg W0 (c.g a d) D σ H)
def clauses (K : PySem.W.Frag) (mg : Str → Option Value) (cs : List (Value × Cl)) : List (Option Nat × Value × ClauseT) := cs.map fun c => clause K mg c.1 c.2
section
variable {K : PySem.W.Frag} {mg : Str → Option Value} {Wo : WX} {D : Ends} {w : Addr} {F F' : Addr → Prop} {H H' : Hp} {O : Addr → Prop} {σ' : L2.St} {ρ' : DEnv} {m : Nat} {e : Exc} {cl : Value} {dd : Option Addr}
theorem excD_rep {a : Addr} (r : RExc K mg w F H e cl dd) : Rep K w F H (.ref a) (excD a dd e) := by
  obtain ⟨C, _, _, q⟩ := r
  unfold excD
  cases ea : e.arg with
  | none =>
    rw [ea] at q
    have q : dd = none := q
    subst q
    exact .exc0
  | some p =>
    rw [ea] at q
    obtain ⟨b, v, rfl, h1, h2, h3⟩ := q
    exact .exc1 h1 h2 h3
theorem setNo_own {σ : L2.St} {ρ : DEnv} {i : Nat} {a : Addr} (h : Own (σ.set i none) (ρ.set i .no) a) : Own σ ρ a := by
  obtain ⟨j, xs, h1, h2⟩ := h
  by_cases e : i = j
  · subst e
    rw [List.getElem?_set] at h1
    split at h1
    · split at h1
      · cases h1
      · cases h1
    · exact absurd rfl ‹_›
  · rw [List.getElem?_set_ne e] at h1 h2
    exact ⟨j, xs, h1, h2⟩
theorem handle_read : ∀ {cs : List (Value × Cl)}, (∀ c ∈ cs, TabOk K mg c.1 c.2.tab) → (gHandle e (cs.map (·.2)) ρ').wp (PostS K mg Wo w F H O D) (fun _ _ => False) m → StepS w F H O F' H' (Own σ' ρ') → Cur K w F' H' σ' ρ' m → RExc K mg w F' H' e cl dd →
    wMix K Wo D (clauses K mg cs) cl dd σ' H'
  | [], _, q, s, c, r => q F' H' σ' cl dd s c r
  | (cv, k) :: more, ht, q, s, c, r => by
    obtain ⟨C, hC, hcl, _⟩ := id r
    simp only [List.map_cons, gHandle] at q
    have key : ∀ b, k.tab.lookup e.cls = some b → PySem.W.exmOne K cl cv = some b := fun b hb => by rw [hcl]; exact ht (cv, k) (by simp) e.cls b hb C hC
    have go := handle_read (cs := more) (fun c hc => ht c (by simp [hc]))
    have hcons : clauses K mg ((cv, k) :: more) = clause K mg cv k :: clauses K mg more := rfl
    rw [hcons]
    split at q
    · rename_i hb
      split at q
      · rename_i i hs
        split at q
        · rename_i hi
          unfold clause
          rw [hs]
          refine ⟨true, key true hb, fun _ a _ => ⟨C, hcl, by rw [← hi]; exact hC, ?_⟩, (fun z => nomatch z)⟩
          have q2 := T.wp_bind _ _ |>.mp (T.one_wp q a dd)
          have s1 : StepS w F H O F' H' (Own (σ'.set i.1 (some (.ref a))) (ρ'.set i.1 (.sh (excD a dd e)))) := ⟨s.keep, s.sub, s.new, fun b hb => s.onew b hb.setSh, s.dom⟩
          refine ⟨w, F', ρ'.set i.1 (.sh (excD a dd e)), m, ⟨c.toBase, c.env.setSh i.1 (excD_rep r)⟩, T.wp_mono (fun fl m2 q3 => ?_) (fun _ _ z => z) q2⟩
          cases fl with
          | rs e2 ρ2 => exact q3.elim
          | nx ρ2 =>
            refine fun F2 H2 σ2 s2 c2 => q3 F2 H2 _ ?_ ⟨c2.toBase, setNo c2.env i.1⟩
            have s3 := s1.trans s2
            exact ⟨s3.keep, s3.sub, s3.new, fun b hb => s3.onew b (setNo_own hb), s3.dom⟩
          | bk ρ2 =>
            refine fun F2 H2 σ2 s2 c2 => q3 F2 H2 _ ?_ ⟨c2.toBase, setNo c2.env i.1⟩
            have s3 := s1.trans s2
            exact ⟨s3.keep, s3.sub, s3.new, fun b hb => s3.onew b (setNo_own hb), s3.dom⟩
          | ct ρ2 =>
            refine fun F2 H2 σ2 s2 c2 => q3 F2 H2 _ ?_ ⟨c2.toBase, setNo c2.env i.1⟩
            have s3 := s1.trans s2
            exact ⟨s3.keep, s3.sub, s3.new, fun b hb => s3.onew b (setNo_own hb), s3.dom⟩
          | rt d2 => exact fun F2 H2 v s2 b2 r2 => q3 F2 H2 v (s1.trans s2) b2 r2
        · exact q.elim
      · rename_i hs
        unfold clause
        rw [hs]
        refine ⟨true, key true hb, fun _ a _ => ?_, (fun z => nomatch z)⟩
        have q2 := T.wp_bind _ _ |>.mp (T.one_wp q a dd)
        refine ⟨w, F', ρ', m, c, T.wp_mono (fun fl m2 q3 => ?_) (fun _ _ z => z) q2⟩
        cases fl with
        | rs e2 ρ2 => exact q3.elim
        | nx ρ2 => exact PostS.back s q3
        | bk ρ2 => exact PostS.back s q3
        | ct ρ2 => exact PostS.back s q3
        | rt d2 => exact PostS.back s q3
    · rename_i hb
      have q2 := go q s c r
      unfold clause
      split
      · exact ⟨false, key false hb, (fun z => nomatch z), fun _ => q2⟩
      · exact ⟨false, key false hb, (fun z => nomatch z), fun _ => q2⟩
    · exact q.elim
end
section
variable {X : Cx} {W : WX}
theorem ds_try {body : List Stmt} {h0 : ExceptHandler} {hds : List ExceptHandler} {pos : Pos} {g : DEnv → T Fl} {cs : List (Value × Cl)} (hstk : X.stack = X.env :: X.outer) (hfrm : X.env.frame = some X.env.locals) (hN : X.N.Nodup) (tk : Takes X W)
    (hb : ∀ (W2 : WX) (pn : List (Addr × Obj)) (xe : Value → Shared → Prop), Takes (X.tr pn xe) W2 → PassesOwn (model X.prog X.w) X.A X.env xe → PSs (X.tr pn xe) body (sD X.K X.mg W2 g)) (ht : ∀ c ∈ cs, TabOk X.K X.mg c.1 c.2.tab)
    (hh : MixOk X (h0 :: hds) (clauses X.K X.mg cs)) : PS X (.Try body (h0 :: hds) [] [] pos) (sD X.K X.mg W (gTry g (cs.map (·.2)))) :=
  PS.of (ps_try_mix (tb := fun W2 => sD X.K X.mg W2 g) hstk hfrm hN tk hb hh) fun D σ H ⟨w, F, ρ, n, c, q⟩ => by
    refine ⟨w, F, ρ, n, c, T.wp_mono (fun fl m q1 => ?_) (fun _ _ z => z) (T.wp_bind _ _ |>.mp q)⟩
    cases fl with
    | nx ρ2 => exact q1
    | bk ρ2 => exact q1
    | ct ρ2 => exact q1
    | rt d2 => exact q1
    | rs e ρ2 => exact fun F' H' σ' cl dd s c2 r => handle_read ht q1 s c2 r
/-- raise X('..'), X without own __init__ -/
def gRaise0 (n : Str) : DEnv → T Fl := fun ρ => .ok (.rs ⟨n, none⟩ ρ)
theorem ds_raise0 {x m : Str} {C : Addr} {bmB : List Value} {B newId initId : String} {j : Nat} {p p2 pos pos' : Pos} (hc : X.calm = true) (tk : Takes X W) (F : ExcBaseFacts B newId initId bmB) (q : PySem.W.excIn X.K C bmB newId = true) (gC : X.mg x = some (.ref C)) (kC : PySem.W.keepIn X.K (.ref C) = true)
    (r : Raises X (.ref C)) (hg : Gl X x) (hdb : (x == ("__debug__" : Str)) = false := by decide) : PS X (.Raise (some (.Call (.Name x p) [.Constant (.str m) j p2] [] pos)) none pos') (sD X.K X.mg W (gRaise0 x)) :=
  PS.of (ps_raise hc tk (pmk_own F q gC kC r hg hdb)) fun D σ H ⟨w, F, ρ, n, c, q⟩ => q F H σ (.ref C) none .refl c ⟨C, gC, rfl, rfl⟩
/-- a clause without a name -/
theorem mix_plain {x : Str} {cv : Value} {b0 : Stmt} {suite : List Stmt} {np pp : Pos} {hds : List ExceptHandler} {cs : List (Value × Cl)} {tab : List (Str × Bool)} {g : Addr → Option Addr → DEnv → T Fl} (hc : Names X x cv)
    (hsu : ∀ (a : Addr) (oe : Obj) (d : Option Addr) (pn : List (Addr × Obj)), PSs (X.suite a ((a, oe) :: pn)) (b0 :: suite) (sD X.K X.mg W0 (g a d))) (more : MixOk X hds (clauses X.K X.mg cs)) :
    MixOk X (.ExceptHandler (some (.Name x np)) none (b0 :: suite) pp :: hds) (clauses X.K X.mg ((cv, ⟨none, tab, g⟩) :: cs)) := .plain hc (fun a oe cls d pn _ _ => hsu a oe d pn) more
theorem mix_nil : MixOk X [] (clauses X.K X.mg []) := .nil
/-- except C as n -/
theorem mix_named {x n nm : Str} {i : Nat} {cv : Value} {C0 : Addr} {b0 : Stmt} {suite : List Stmt} {np pp : Pos} {hds : List ExceptHandler} {cs : List (Value × Cl)} {tab : List (Str × Bool)} {g : Addr → Option Addr → DEnv → T Fl} (hc : Names X x cv) (hm : X.mg nm = some (.ref C0)) (hi : X.N[i]? = some n) (hl : X.env.kindOf n = some .local)
    (hsu : ∀ (a : Addr) (oe : Obj) (d : Option Addr) (pn : List (Addr × Obj)), Zc (.ref C0) d oe → (∃ vs, oe.data = .fields vs) → PSs (X.suite a ((a, oe) :: pn)) (b0 :: suite) (sD X.K X.mg W0 (g a d))) (more : MixOk X hds (clauses X.K X.mg cs)) :
    MixOk X (.ExceptHandler (some (.Name x np)) (some n) (b0 :: suite) pp :: hds) (clauses X.K X.mg ((cv, ⟨some (i, nm), tab, g⟩) :: cs)) := .named hc hi hl (fun a oe cls d pn hz hf => ⟨fun pins s σ H D I q => by
    obtain ⟨C, rfl, hC, q⟩ := q
    rw [hm] at hC
    cases hC
    exact (hsu a oe d pn hz hf).run pins s σ H D I q⟩) more
theorem tab_nil {K : PySem.W.Frag} {mg : Str → Option Value} {c : Value} : TabOk K mg c [] := fun n b h => nomatch h
theorem tab_cons {K : PySem.W.Frag} {mg : Str → Option Value} {c : Value} {n : Str} {b : Bool} {C0 : Addr} {tab : List (Str × Bool)} (hm : mg n = some (.ref C0)) (hx : PySem.W.exmOne K (.ref C0) c = some b) (more : TabOk K mg c tab) : TabOk K mg c ((n, b) :: tab) := fun n' b' h C hC => by
  by_cases e : n' = n
  · subst e
    rw [hm] at hC
    cases hC
    simp only [List.lookup, beq_self_eq_true] at h
    rw [← h]
    exact hx
  · have e2 : (n' == n) = false := by simpa using e
    simp only [List.lookup, e2] at h
    exact more n' b' h C hC
/-- n.f in the suite -/
def dXf (a : Addr) (d : Option Addr) (i : Nat) (f : Str) : DEnv → T D := fun ρ => match ρ[i]? with
  | some (.sh (.exc a' d' _ f' [x])) => if a' = a ∧ d' = d ∧ f' = f then .ok x else .fail
  | _ => .fail
theorem de_xf {a C : Addr} {oe : Obj} {d : Option Addr} {pn : List (Addr × Obj)} {e : Expr} {pos : Pos} {n : Str} (i : Nat) (T : XfC X.K C) (hno : PySem.W.findIn X.K (.ref C) n = some none) (hz : Zc (.ref C) d oe) (hf : ∃ vs, oe.data = .fields vs)
    (he : PE (X.suite a ((a, oe) :: pn)) e (tVar i)) (hb : attributeBase e n X.env (eval e X.env) = eval e X.env := by rfl) : PE (X.suite a ((a, oe) :: pn)) (.Attribute e n pos) (tD X.K X.mg W (dXf a d i n)) := PE.of (pe_xf T hno hz hf he hb) fun σ H Q ⟨w, F, ρ, m, c, q⟩ => by
  unfold dXf at q
  split at q
  · rename_i a' d' cls f' x hi
    split at q
    · rename_i h
      obtain ⟨rfl, rfl, rfl⟩ := h
      obtain ⟨v, h1, h2⟩ := c.env.sh i _ hi
      cases h2 with
      | exc1 f1 h1' r =>
        exact ⟨_, h1, rfl, rfl, _, _, _, rfl, h1', by simp [List.lookup], q F H _ .refl c.toBase r⟩
    · exact q.elim
  · exact q.elim
end
end
end AL
namespace AL
open PySem PySem.Spec PyProof.Rows L2
noncomputable section
/-! ## str -/
/-- str(d) -/
def D.told : D → Str
  | .str s => s
  | d => d.py.shown
def PyData.told : PyData → Str
  | .str s => s
  | d => d.shown
def rStr (K : PySem.W.Frag) : List V → Hp → VK → Prop := fun xs H Q => ∃ x d, xs = [x] ∧ Dp K H x d ∧ d.canLay0 = true ∧ d.showable = true ∧ d.shown.length ≤ sizeLine ∧ d.depth ≤ 64 ∧ Q (.str (PyData.told d)) H
theorem cr_str {X : Cx} (hG : X.A.guards = some []) (hu : X.A.units + 100 < cLine) : CallR X (.type "str") (rStr X.K) := by
  intro pins s σ H xs us Q I r h
  obtain ⟨x, d, rfl, hd, hl, hsh, hz, hdp, q⟩ := h
  obtain ⟨u, rfl, ru⟩ := vals1 r
  cases hd with
  | non =>
    cases ru
    refine P.str_of_none ⟨.str _, H, I.tok _, ⟨_, rfl⟩, ?_⟩
    simpa only [PyData.told, PyData.shown] using q
  | bl b =>
    cases ru
    refine P.str_of_bool ⟨.str _, H, I.tok _, ⟨_, rfl⟩, ?_⟩
    simpa only [PyData.told, PyData.shown] using q
  | int i =>
    obtain ⟨t, rfl⟩ := ru
    refine P.str_of_int (by simpa [PyData.showable] using hsh) ⟨.str _, H, I.tok _, ⟨_, rfl⟩, ?_⟩
    simpa only [PyData.told, PyData.shown] using q
  | str z =>
    obtain ⟨t, rfl⟩ := ru
    refine P.str_of_str ⟨.str _, H, I, ⟨_, rfl⟩, ?_⟩
    simpa only [PyData.told] using q
  | lst hs ha =>
    cases ru
    obtain ⟨as, rd⟩ := Dp.reads I _ _ _ (.lst hs ha) (show RelV (.ref _) (Value.ref _) from rfl)
    exact str_of_reads rd hsh (PyData.noDict_hsm (PyData.hasDict_of_canLay _ hl)) hG (by omega) (fun _ _ e => e) (fun h' u tk hk => ⟨.str _, H, I.kept (t' := tk) hk, ⟨u, rfl⟩, q⟩) hz
  | tup hs ha =>
    cases ru
    obtain ⟨as, rd⟩ := Dp.reads I _ _ _ (.tup hs ha) (show RelV (.ref _) (Value.ref _) from rfl)
    exact str_of_reads rd hsh (PyData.noDict_hsm (PyData.hasDict_of_canLay _ hl)) hG (by omega) (fun _ _ e => e) (fun h' u tk hk => ⟨.str _, H, I.kept (t' := tk) hk, ⟨u, rfl⟩, q⟩) hz
theorem told_py (d : D) : PyData.told d.py = d.told ∨ d.plain = false := by
  cases d <;> simp [D.py, PyData.told, D.told, PyData.shown, D.plain]
/-! ## own errors that keep a value -/
section
variable {X : Cx} {W : WX}
/-- BASE.__init__(self, ..), BASE an own class that takes ValueError's -/
theorem pe_cveinit {x : Str} {A0 : Addr} {e : Expr} {es : List Expr} {ta : TA} {p1 p2 pos : Pos} {pl : Sem Bool} (hg : Gl X x) (hm : X.mg x = some (.ref A0)) (hr : PySem.W.readsIn X.K A0 (.type "type") = true)
    (hs : PySem.W.specialIn X.K (.ref A0) "__getattribute__" = some (some (.builtin "type.__getattribute__"))) (vV : PySem.W.findCls X.K (.ref A0) (.type "type") "__init__" = some (.val (.builtin "ValueError.__init__"))) (ha : PA X (e :: es) ta)
    (hc : eval (.Call (.Attribute (.Name x p1) "__init__" p2) (e :: es) [] pos) X.env = (do
      let ov ← eval (.Name x p1) X.env
      standAt p2.atName
      let (f, first) ← holding [ov] (getMethod ov "__init__" pl)
      callWith pos f first (backTo pos (starEach (e :: es) X.env)) (backToKw pos (keywordEach [] X.env))) := by rfl)
    (hdb : (x == ("__debug__" : Str)) = false := by decide) (he : starEach (e :: es) X.env = (false, eval e X.env) :: starEach es X.env := by rfl) (hpl : (backTo pos (starEach es X.env)).any (·.1) = false := by rfl) :
    PE X (.Call (.Attribute (.Name x p1) "__init__" p2) (e :: es) [] pos) (tVeI X.K ta) := by
  constructor
  intro pins s σ H Q I h
  refine PySem.W.methodCall_KW (ld_glob I hg hm ?_ hdb) hc
  refine PySem.W.method_cls I.kIn hs (PySem.W.cls_value I.kIn hr vV (by decide +kernel) ?_)
  show wpAny _ _ (callWith pos (Value.builtin "ValueError.__init__") [] (backTo pos (starEach (e :: es) X.env)) []) _ _ _
  refine PyProof.Rows.callWith_method1 (thn (ha.run pos pins _ σ H _ (I.tok _) h) ?_) he hpl
  rintro us s1 ⟨vs, H1, I1, r1, a, C, ws, ev, hl, T, ea, q⟩
  subst ev
  cases r1 with
  | @cons _ u0 _ ur ra rest =>
    obtain rfl : u0 = Value.ref a := ra
    refine oinit_ok T I1 ea ?_ fun s' J => ⟨.non, H1, J, rfl, q⟩
    rw [← rest.length]
    exact szl (by omega)
/-- what __init__(self, v) promises: self gets v -/
def spInit (K : PySem.W.Frag) (C : Addr) (f : Str) : Sp := fun vs H Q _ => ∃ (a : Addr) (v : V) (d : PyData), vs = [.ref a, v] ∧ OexC K C ∧ PySem.W.findIn K (.ref C) f = some none ∧ H a = some (exo a C none) ∧ Dp K H v d ∧ d.canLay0 = true ∧ d.showable = true ∧ d.shown.length ≤ 1000000 ∧ (PyData.told d).length ≤ 1000000 ∧ d.depth ≤ 64 ∧
  ∀ dx, H dx = none → dx ≠ a → Q .non (upd (upd H dx (exd dx [(f, v)])) a (exo a C (some dx)))
theorem make_guards {A : Around} (h : A.guards = some []) (C : Addr) (us : List Value) (kw : List (Str × Value)) : (A.under (.builtin "type.__call__" ⟨.ref C :: us, kw⟩)).guards = some [] := by
  first
    | exact h
    | simpa [Around.under, Code.guards, Code.isGuard, pushGuards] using h
/-- C(e), C's own __init__ keeping spInit -/
theorem pmk_oexG {x : Str} {C fI : Addr} {k : Nat} {fd : FuncData} {ps : List Str} {sp : Sp} {e : Expr} {es : List Expr} {ta : TA} {p pos : Pos} (T : OexC X.K C) (iC : PySem.W.findIn X.K (.ref C) "__init__" = some (some (.ref fI))) (tI : PySem.W.typeIn X.K (.ref fI) = some (.type "function"))
    (FI : FnG X.prog X.w X.K X.mg X.base k fI fd ps sp) (hr : Room (k + 1) X.A) (hG : X.A.guards = some []) (hb : Binds X.K fd ps []) (hg : Gl X x) (hm : X.mg x = some (.ref C)) (ha : PA X (e :: es) ta)
    (hdb : (x == ("__debug__" : Str)) = false := by decide) (he : starEach (e :: es) X.env = (false, eval e X.env) :: starEach es X.env := by rfl) (hpl : (backTo pos (starEach es X.env)).any (·.1) = false := by rfl) :
    PMk X (.Call (.Name x p) (e :: es) [] pos) (tMkO C sp [] ta) := by
  intro pins s σ H Q I h
  obtain ⟨nm, qn, N, bs, bm, sn, sub, ab, col, dd, k0, k1, k2, k3, k5, hC, hbm⟩ := T.cls
  refine wpAny_Call_Name_kw (ld_glob I hg hm ?_ hdb)
  refine PySem.W.callWith_K (h₀ := X.base) I.ok.mod.kin T.kC (thn (ha.run pos pins s σ H _ I h) ?_) he hpl
  rintro us s1 ⟨vs, H1, I1, r1, hz, q1⟩
  refine ⟨I1.kIn, ?_⟩
  show wpAny _ _ (call (.ref C) us) _ _ _
  obtain ⟨hp, g, dr, tk, os⟩ := s1
  have up : hp.objs.size ≤ hp.objs.size + 1 := Nat.le_succ _
  have free : H1 (hp.objs.size + 1) = none := I1.hok.fresh up
  have q2 := q1 (hp.objs.size + 1) free
  have keep2 : ∀ b o, hp.get? b = some o → ((hp.push (PySem.W.kdv_tup us)).push (PySem.HandSPX.excO C hp.objs.size)).get? b = some o := fun b o z => Heap.get?_push_of_some _ (Heap.get?_push_of_some _ z)
  have there : ((hp.push (PySem.W.kdv_tup us)).push (PySem.HandSPX.excO C hp.objs.size)).get? (hp.objs.size + 1) = some (PySem.HandSPX.excO C hp.objs.size) := by heap_get
  have I2 : Inv X pins σ (upd H1 (hp.objs.size + 1) (exo (hp.objs.size + 1) C none)) ⟨(hp.push (PySem.W.kdv_tup us)).push (PySem.HandSPX.excO C hp.objs.size), g, dr, tk, os⟩ :=
    I1.laid (t' := tk) (a := hp.objs.size + 1) (o := exo (hp.objs.size + 1) C none) (h' := (hp.push (PySem.W.kdv_tup us)).push (PySem.HandSPX.excO C hp.objs.size)) keep2 up (exo_ok there)
  have r2 : Vals (V.ref (hp.objs.size + 1) :: vs) (Value.ref (hp.objs.size + 1) :: us) := .cons rfl r1
  rw [List.append_nil] at q2
  have q3 := q2
  have len2 : (Value.ref (hp.objs.size + 1) :: us).length = ps.length := by rw [← r2.length]; exact FI.len _ _ _ _ q3
  have small : us.length ≤ sizeLine := by rw [← Paired.length r1]; exact szl (by omega)
  have bnd := hb ⟨(hp.push (PySem.W.kdv_tup us)).push (PySem.HandSPX.excO C hp.objs.size), g, dr, tk, os⟩ (Value.ref (hp.objs.size + 1) :: us) I2.kIn (by rw [List.append_nil]; exact len2)
  rw [List.append_nil] at bnd
  refine wpAny_call (PySem.HandSPX.call_own F.excBase_ValueError (fun Y => PySem.HandSPX.refsVE_contains Y bm hbm) (I1.kIn _ _ hC) (PySem.W.looks_findIn I1.kIn iC) (fun self => PySem.W.bind_fn I1.kIn self tI) small
    (codeAny_mono (FI.run _ X.stack _ _ ⟨Value.ref (hp.objs.size + 1) :: us, []⟩ (Value.ref (hp.objs.size + 1) :: us) _ _ (fun _ _ _ => False) (hr.make C us []) (make_guards hG C us []) (I2.env0.make C us []) bnd r2 q3) ?_))
  intro r s' res
  match r, res with
  | .error er, res =>
    obtain ⟨_, _, _, _, _, _, _, _, _, _, _, _, z⟩ := res
    exact z.elim
  | .ok (.ret u), ⟨v, H2, os2, bare2, un2, hok2, rv, ev, d, fs, ea, ed, hd1, qq⟩ =>
    subst ev
    obtain ⟨h2, g2, d2, t2, os'⟩ := s'
    exact ⟨rv, mk_end (raises_own T.exC T.tyC) I1 up keep2 un2 hok2 os2 bare2 ea ed hd1 qq⟩
  | .ok .next, res => exact False.elim res
  | .ok .brk, res => exact False.elim res
  | .ok .cont, res => exact False.elim res
def RaiseOk (d : D) : Prop := d.canShow ∧ d.py.shown.length ≤ 1000000 ∧ (PyData.told d.py).length ≤ 1000000
instance (d : D) : Decidable (RaiseOk d) := Classical.propDecidable _
/-- raise C(e) -/
def gRaise1 (n f : Str) (g : DEnv → T D) : DEnv → T Fl := fun ρ => (g ρ).ex ρ fun d => if RaiseOk d then .ok (.rs ⟨n, some (f, d)⟩ ρ) else .fail
theorem ds_raise1 {x f : Str} {C fI : Addr} {k : Nat} {fd : FuncData} {ps : List Str} {e : Expr} {g : DEnv → T D} {p pos pos' : Pos} (hc : X.calm = true) (tk : Takes X W) (TC : OexC X.K C) (hno : PySem.W.findIn X.K (.ref C) f = some none) (iC : PySem.W.findIn X.K (.ref C) "__init__" = some (some (.ref fI))) (tI : PySem.W.typeIn X.K (.ref fI) = some (.type "function"))
    (FI : FnG X.prog X.w X.K X.mg X.base k fI fd ps (spInit X.K C f)) (hr : Room (k + 1) X.A) (hG : X.A.guards = some []) (hb : Binds X.K fd ps []) (hg : Gl X x) (hm : X.mg x = some (.ref C)) (h : PE X e (tD X.K X.mg W g))
    (hdb : (x == ("__debug__" : Str)) = false := by decide) (he : starEach (e :: []) X.env = (false, eval e X.env) :: starEach [] X.env := by rfl) (hpl : (backTo pos (starEach [] X.env)).any (·.1) = false := by rfl) :
    PS X (.Raise (some (.Call (.Name x p) [e] [] pos)) none pos') (sD X.K X.mg W (gRaise1 x f g)) :=
  PS.of (ps_raise hc tk (pmk_oexG TC iC tI FI hr hG hb hg hm (pa_cons h pa_nil he) hdb he hpl)) fun D σ H ⟨w, F, ρ, n, c, q⟩ => by
    refine tD.go c (T.wp_ex q) (fun e m h => PostS.exc c h) fun d m q1 F1 H1 v s1 c1 r => ?_
    split at q1
    · rename_i hd
      refine ⟨by show 1 ≤ 1000; decide, fun a na => ?_⟩
      refine ⟨a, v, d.py, rfl, TC, hno, upd_same, ?_, AL.D.canLay d hd.1.1, hd.1.2.1, hd.2.1, hd.2.2, hd.1.2.2.2, fun dx ndx nda => ?_⟩
      · have s2 := StepE.layOwn (w := w) (F := F1) (o := exo a C none) na
        exact (r.step s2 c1.toBase).dp hd.1.1
      · have nd1 : H1 dx = none := by rw [upd_ne nda] at ndx; exact ndx
        refine ⟨rfl, dx, [(f, v)], upd_same, by rw [upd_ne nda, upd_same], nd1, ?_⟩
        have eH : upd (del (upd (upd (upd H1 a (exo a C none)) dx (exd dx [(f, v)])) a (exo a C (some dx))) a) dx (.xd [(f, v)]) = upd H1 dx (.xd [(f, v)]) := by
          funext b
          by_cases e1 : b = dx
          · rw [e1, upd_same, upd_same]
          · rw [upd_ne e1, upd_ne e1]
            by_cases e2 : b = a
            · rw [e2, del_same, na]
            · rw [del_ne e2, upd_ne e2, upd_ne e1, upd_ne e2]
        rw [eH]
        have s2 := StepE.lay (w := w) (F := F1) (o := .xd [(f, v)]) nd1 c1.toBase.well.there
        have b2 := c1.toBase.lay (o := .xd [(f, v)]) nd1
        exact q1 _ _ _ _ _ (s1.trans s2).s (c.step (s1.trans s2) b2) ⟨C, hm, rfl, dx, v, rfl, .inr rfl, upd_same, r.step s2 c1.toBase⟩
    · exact q1.elim
end
end
end AL
namespace AL
open PySem PySem.Spec PyProof.Rows L2
noncomputable section
/-- a def that promises nothing -/
theorem FnG.never {P : Program} {w : World} {K : PySem.W.Frag} {mg : Str → Option Value} {base : Heap} {k : Nat} {f : Addr} {fd : FuncData} {ps : List Str} {ar : Nat} {fn : List D → T D} (h : ∀ ds, fn ds = .fail) (har : ps.length = ar := by rfl) : FnG P w K mg base k f fd ps (spD K mg ar fn) :=
  ⟨fun vs H Q E q => by rw [har]; exact q.1, fun A outer s H args us vs Q E _ _ _ _ _ q => by
    obtain ⟨_, _, _, _, ds, _, _, z⟩ := q
    rw [h] at z
    exact z.elim⟩
section
variable {X : Cx} {W : WX}
instance (i j : Int) : Decidable (PowOk i j) := Classical.propDecidable _
def opPow : D → D → T D := opIC PowOk fun i j => .int (i ^ j.toNat)
theorem ok_pow : OpOk X.K (rI PowOk fun i j => .int (i ^ j.toNat)) opPow := ok_intC fun _ _ _ _ _ => .int _
/-- a op b op' c -/
def dChain (f f' : D → D → T D) (a b c : DEnv → T D) : DEnv → T D := fun ρ => (a ρ).bind fun x => (b ρ).bind fun y => (f x y).bind fun r => match r with
  | .bl true => (c ρ).bind fun z => f' y z
  | .bl false => .ok (.bl false)
  | _ => .fail
theorem chain_read {r r' : R2} {f f' : D → D → T D} {fa fb fc : DEnv → T D} {σ : L2.St} {H : Hp} {Q : VK} (ho : OpOk X.K r f) (ho' : OpOk X.K r' f') (h : tD X.K X.mg W (dChain f f' fa fb fc) σ H Q) : tChain r r' (tD X.K X.mg W fa) (tD X.K X.mg W fb) (tD X.K X.mg W fc) σ H Q := by
  obtain ⟨w, F, ρ, n, c, q⟩ := h
  refine tD.go c (T.wp_bind _ _ |>.mp q) (fun _ _ h => h) fun x m q1 F1 H1 v s1 c1 r1 => tD.go c1 (T.wp_bind _ _ |>.mp q1) (fun _ _ h => h.back s1) fun y m2 q2 F2 H2 u s2 c2 r2 => ?_
  have s12 := s1.trans s2
  refine ho w F2 H2 m2 v u x y _ (PostX X.K X.mg w F H fun c dd H' => W c dd σ H') c2.toBase (r1.step s2 c1.toBase) r2 (T.wp_mono (fun d m3 q3 F3 H3 z s3 b3 rz => ?_) (fun _ _ h => h) (T.wp_bind _ _ |>.mp q2))
  have c3 := c2.step s3 b3
  cases d with
  | bl b =>
    cases rz
    refine ⟨b, rfl, ?_⟩
    cases b with
    | false => exact iteF (q3 F3 H3 _ (s12.trans s3) b3 (.bl false))
    | true =>
      refine iteT (tD.go c3 (T.wp_bind _ _ |>.mp q3) (fun _ _ h => h.back (s12.trans s3)) fun z m4 q4 F4 H4 t s4 c4 r4 => ?_)
      exact ho' w F4 H4 m4 u t y z _ _ c4.toBase ((r2.step s3 c2.toBase).step s4 c3.toBase) r4 (T.wp_mono (fun _ _ h => h.back ((s12.trans s3).trans s4)) (fun _ _ h => h) q4)
  | _ => exact q3.elim
theorem de_chain {op op' : CmpOp} {r r' : R2} {f f' : D → D → T D} {a b c : Expr} {fa fb fc : DEnv → T D} {pos : Pos} (hr : OpR X (compareOp op) r) (hr' : OpR X (compareOp op') r') (ho : OpOk X.K r f) (ho' : OpOk X.K r' f') (ha : PE X a (tD X.K X.mg W fa)) (hb : PE X b (tD X.K X.mg W fb)) (hc : PE X c (tD X.K X.mg W fc))
    (hm : lastMarks [op, op'] [b, c] = false := by with_unfolding_all rfl) : PE X (.Compare a [op, op'] [b, c] pos) (tD X.K X.mg W (dChain f f' fa fb fc)) := PE.of (pe_chain hr hr' ha hb hc hm) fun σ H Q h => chain_read ho ho' h
theorem dt_chain {op op' : CmpOp} {r r' : R2} {f f' : D → D → T D} {a b c : Expr} {fa fb fc : DEnv → T D} {pos : Pos} (hr : OpR X (compareOp op) r) (hr' : OpR X (compareOp op') r') (ho : OpOk X.K r f) (ho' : OpOk X.K r' f') (ha : PE X a (tD X.K X.mg W fa)) (hb : PE X b (tD X.K X.mg W fb)) (hc : PE X c (tD X.K X.mg W fc))
    (hm : lastMarks [op, op'] [b, c] = false := by with_unfolding_all rfl) : PT X (.Compare a [op, op'] [b, c] pos) (tDT X.K X.mg W (dT (dChain f f' fa fb fc))) := PT.of (pt_chain hr hr' ha hb hc hm) fun σ H Q ⟨w, F, ρ, n, c, q⟩ => chain_read (fa := fa) ho ho' ⟨w, F, ρ, n, c, T.wp_mono (fun d m h F1 H1 v s1 b1 r => by
    cases d with
    | bl b => cases r; exact ⟨b, rfl, h F1 H1 s1 b1⟩
    | _ => exact h.elim) (fun _ _ h => h) (T.wp_bind _ _ |>.mp q)⟩
end
end
end AL
namespace AL
open PySem
noncomputable section
@[simp] theorem s_gTry (g : DEnv → T Fl) (cs : List Cl) (ρ : DEnv) : gTry g cs ρ = ((g ρ).bind fun fl => match fl with
  | .rs e ρ' => gHandle e cs ρ'
  | fl => .ok fl) := rfl
@[simp] theorem s_gRaise0 (n : Str) (ρ : DEnv) : gRaise0 n ρ = (.ok (.rs ⟨n, none⟩ ρ)) := rfl
@[simp] theorem s_dXf (a : Addr) (d : Option Addr) (i : Nat) (f : Str) (ρ : DEnv) : dXf a d i f ρ = (match ρ[i]? with
  | some (.sh (.exc a' d' _ f' [x])) => if a' = a ∧ d' = d ∧ f' = f then .ok x else .fail
  | _ => .fail) := rfl
@[simp] theorem s_gRaise1 (n f : Str) (g : DEnv → T D) (ρ : DEnv) : gRaise1 n f g ρ = ((g ρ).ex ρ fun d => if RaiseOk d then .ok (.rs ⟨n, some (f, d)⟩ ρ) else .fail) := rfl
@[simp] theorem s_dChain (f f' : D → D → T D) (a b c : DEnv → T D) (ρ : DEnv) : dChain f f' a b c ρ = ((a ρ).bind fun x => (b ρ).bind fun y => (f x y).bind fun r => match r with
  | .bl true => (c ρ).bind fun z => f' y z
  | .bl false => .ok (.bl false)
  | _ => .fail) := rfl
/-! ## tests and choices with draws -/
section
variable {ρ : DEnv} {c c1 c2 : Nat}
theorem run_dT {f : DEnv → T D} {P : Bool → Prop} (h : run (f ρ) c fun d => ∃ b, d = .bl b ∧ P b) : run (dT f ρ) c P := by
  rw [s_dT]
  refine run_bind0 h fun d ⟨b, e, hp⟩ => ?_
  subst e
  exact run_ok hp
theorem run_dIf {t : DEnv → T Bool} {a b : DEnv → T D} {P : Bool → Prop} {R : D → Prop} (h : run (t ρ) c1 P) (ha : P true → run (a ρ) c2 R) (hb : P false → run (b ρ) c2 R) : run (dIf t a b ρ) (c1 + c2) R := by
  rw [s_dIf]
  refine run_bind h fun x hx => ?_
  cases x with
  | true => exact ha hx
  | false => exact hb hx
theorem run_gIf {t : DEnv → T Bool} {a b : DEnv → T Fl} {P : Bool → Prop} {R : Fl → Prop} (h : run (t ρ) c1 P) (ha : P true → run (a ρ) c2 R) (hb : P false → run (b ρ) c2 R) : run (gIf t a b ρ) (c1 + c2) R := by
  rw [s_gIf]
  refine run_ex h fun x hx => ?_
  cases x with
  | true => exact ha hx
  | false => exact hb hx
theorem run_gPar {i j : Nat} {f g : DEnv → T Slot} {P Q : Slot → Prop} (h1 : run (f ρ) c1 P) (h2 : run (g ρ) c2 Q) : run (gPar i j f g ρ) (c1 + c2) fun fl => ∃ s t, P s ∧ Q t ∧ fl = .nx ((ρ.set i s).set j t) := by
  rw [s_gPar]
  refine run_ex h1 fun s hs => run_mono (run_ex (c2 := 0) h2 fun t ht => run_ok ⟨s, t, hs, ht, rfl⟩) (Nat.le_refl _) fun _ z => z
theorem run_dSh {f : DEnv → T D} {P : D → Prop} (h : run (f ρ) c P) : run (dSh f ρ) c fun s => ∃ d, P d ∧ s = .sh d := by
  rw [s_dSh]
  exact run_bind0 h fun d hd => run_ok ⟨d, hd, rfl⟩
theorem run_dOr {a b : DEnv → T Bool} {P Q : Bool → Prop} (h1 : run (a ρ) c1 P) (h2 : P false → run (b ρ) c2 Q) : run (dTOr a b ρ) (c1 + c2) fun x => (P true ∧ x = true) ∨ (P false ∧ Q x) := by
  rw [s_dTOr]
  refine run_bind h1 fun x hx => ?_
  cases x with
  | true => exact run_ok (.inl ⟨hx, rfl⟩)
  | false => exact run_imp (h2 hx) fun y hy => .inr ⟨hx, hy⟩
end
theorem plain_known {d : D} (h : d.plain = true) : d.known = true := by cases d <;> simp_all [D.plain]
/-- a test that comes out so goes on -/
theorem nx_if {ρ ρ' : DEnv} {t : DEnv → T Bool} {g : DEnv → T Fl} (e : t ρ = .ok false) : gIf t g gNil ρ = .ok (.nx ρ) := by rw [s_gIf, e, T.ex_ok]; rfl
end
end AL
namespace AL
open PySem PySem.Spec PyProof.Rows L2
noncomputable section
/-! ## int, abs, max, min -/
section
variable {X : Cx} {W : WX}
def intT (d : D) : T D := match d with
  | .int i => .ok (.int i)
  | .bl b => .ok (.int (if b then 1 else 0))
  | _ => .fail
def dInt (f : DEnv → T D) : DEnv → T D := fun ρ => (f ρ).bind intT
theorem de_int1 {a : Expr} {f : DEnv → T D} {p pos : Pos} (hg : Gl X "int") (hm : X.mg "int" = none) (h : PE X a (tD X.K X.mg W f)) (he : starEach (a :: []) X.env = (false, eval a X.env) :: starEach [] X.env := by rfl) (hpl : (backTo pos (starEach [] X.env)).any (·.1) = false := by rfl) :
    PE X (.Call (.Name "int" p) [a] [] pos) (tD X.K X.mg W (dInt f)) :=
  PE.of (pe_callTy call_int1 hg hm (by decide +kernel) (pa_cons h pa_nil he) (he := he) (hpl := hpl)) fun σ H Q ⟨w, F, ρ, n, c, q⟩ => arg1 <|
    tD.go c (T.wp_bind _ _ |>.mp q) (fun _ _ h => h) fun d m q1 F1 H1 v s1 c1 r => by
      cases r with
      | int i => exact .inl ⟨i, rfl, q1 F1 H1 _ s1 c1.toBase (.int _)⟩
      | bl b => exact .inr ⟨b, rfl, q1 F1 H1 _ s1 c1.toBase (.int _)⟩
      | _ => exact q1.elim
def absT (d : D) : T D := match d with
  | .int i => .ok (.int (if i < 0 then -i else i))
  | _ => .fail
def dAbs (f : DEnv → T D) : DEnv → T D := fun ρ => (f ρ).bind absT
theorem de_abs {a : Expr} {f : DEnv → T D} {p pos : Pos} (hg : Gl X "abs") (hm : X.mg "abs" = none) (h : PE X a (tD X.K X.mg W f)) (he : starEach (a :: []) X.env = (false, eval a X.env) :: starEach [] X.env := by rfl) (hpl : (backTo pos (starEach [] X.env)).any (·.1) = false := by rfl) :
    PE X (.Call (.Name "abs" p) [a] [] pos) (tD X.K X.mg W (dAbs f)) :=
  PE.of (pe_callB call_abs hg hm (by decide +kernel) (pa_cons h pa_nil he) (he := he) (hpl := hpl)) fun σ H Q ⟨w, F, ρ, n, c, q⟩ => arg1 <|
    tD.go c (T.wp_bind _ _ |>.mp q) (fun _ _ h => h) fun d m q1 F1 H1 v s1 c1 r => by
      cases r with
      | int i => exact ⟨i, rfl, q1 F1 H1 _ s1 c1.toBase (.int _)⟩
      | _ => exact q1.elim
def maxT (a b : D) : T D := match a, b with
  | .int i, .int j => .ok (.int (if j > i then j else i))
  | _, _ => .fail
def minT (a b : D) : T D := match a, b with
  | .int i, .int j => .ok (.int (if j < i then j else i))
  | _, _ => .fail
def dMax (f g : DEnv → T D) : DEnv → T D := fun ρ => (f ρ).bind fun x => (g ρ).bind fun y => maxT x y
def dMin (f g : DEnv → T D) : DEnv → T D := fun ρ => (f ρ).bind fun x => (g ρ).bind fun y => minT x y
theorem de_max2 {a b : Expr} {f g : DEnv → T D} {p pos : Pos} (hc : X.calm = true) (hg : Gl X "max") (hm : X.mg "max" = none) (ha : PE X a (tD X.K X.mg W f)) (hb : PE X b (tD X.K X.mg W g)) (he : starEach (a :: [b]) X.env = (false, eval a X.env) :: starEach [b] X.env := by rfl) (he2 : starEach (b :: []) X.env = (false, eval b X.env) :: starEach [] X.env := by rfl)
    (hpl : (backTo pos (starEach [b] X.env)).any (·.1) = false := by rfl) : PE X (.Call (.Name "max" p) [a, b] [] pos) (tD X.K X.mg W (dMax f g)) :=
  PE.of (pe_callB (call_max2 hc) hg hm (by decide +kernel) (pa_cons ha (pa_cons hb pa_nil he2) he) (he := he) (hpl := hpl)) fun σ H Q ⟨w, F, ρ, n, c, q⟩ => by
    show tD X.K X.mg W f σ H _
    refine tD.go c (T.wp_bind _ _ |>.mp q) (fun _ _ h => h) fun x m q1 F1 H1 u s1 c1 r1 => ?_
    show tD X.K X.mg W g σ H1 _
    refine tD.go c1 (T.wp_bind _ _ |>.mp q1) (fun _ _ h => h.back s1) fun y m2 q2 F2 H2 v s2 c2 r2 => ?_
    cases r1 with
    | int i =>
      cases r2 with
      | int j => exact ⟨i, j, rfl, q2 F2 H2 _ (s1.trans s2) c2.toBase (.int _)⟩
      | _ => exact q2.elim
    | _ => exact q2.elim
theorem de_min2 {a b : Expr} {f g : DEnv → T D} {p pos : Pos} (hc : X.calm = true) (hg : Gl X "min") (hm : X.mg "min" = none) (ha : PE X a (tD X.K X.mg W f)) (hb : PE X b (tD X.K X.mg W g)) (he : starEach (a :: [b]) X.env = (false, eval a X.env) :: starEach [b] X.env := by rfl) (he2 : starEach (b :: []) X.env = (false, eval b X.env) :: starEach [] X.env := by rfl)
    (hpl : (backTo pos (starEach [b] X.env)).any (·.1) = false := by rfl) : PE X (.Call (.Name "min" p) [a, b] [] pos) (tD X.K X.mg W (dMin f g)) :=
  PE.of (pe_callB (call_min2 hc) hg hm (by decide +kernel) (pa_cons ha (pa_cons hb pa_nil he2) he) (he := he) (hpl := hpl)) fun σ H Q ⟨w, F, ρ, n, c, q⟩ => by
    show tD X.K X.mg W f σ H _
    refine tD.go c (T.wp_bind _ _ |>.mp q) (fun _ _ h => h) fun x m q1 F1 H1 u s1 c1 r1 => ?_
    show tD X.K X.mg W g σ H1 _
    refine tD.go c1 (T.wp_bind _ _ |>.mp q1) (fun _ _ h => h.back s1) fun y m2 q2 F2 H2 v s2 c2 r2 => ?_
    cases r1 with
    | int i =>
      cases r2 with
      | int j => exact ⟨i, j, rfl, q2 F2 H2 _ (s1.trans s2) c2.toBase (.int _)⟩
      | _ => exact q2.elim
    | _ => exact q2.elim
end
end
end AL
namespace AL
open PySem PySem.Spec PyProof.Rows L2
noncomputable section
/-! ## in, tuple * n, list * n, constants of the module -/
@[simp] theorem s_dInt (f : DEnv → T D) (ρ : DEnv) : dInt f ρ = (f ρ).bind intT := rfl
@[simp] theorem s_dAbs (f : DEnv → T D) (ρ : DEnv) : dAbs f ρ = (f ρ).bind absT := rfl
@[simp] theorem s_dMax (f g : DEnv → T D) (ρ : DEnv) : dMax f g ρ = (f ρ).bind fun x => (g ρ).bind fun y => maxT x y := rfl
@[simp] theorem s_dMin (f g : DEnv → T D) (ρ : DEnv) : dMin f g ρ = (f ρ).bind fun x => (g ρ).bind fun y => minT x y := rfl
@[simp] theorem intT_int (i : Int) : intT (.int i) = .ok (.int i) := rfl
@[simp] theorem intT_bl (b : Bool) : intT (.bl b) = .ok (.int (if b then 1 else 0)) := rfl
@[simp] theorem maxT_int (i j : Int) : maxT (.int i) (.int j) = .ok (.int (if j > i then j else i)) := rfl
@[simp] theorem minT_int (i j : Int) : minT (.int i) (.int j) = .ok (.int (if j < i then j else i)) := rfl
section
variable {X : Cx} {W : WX}
/-! ### x in s -/
def InOk (d : D) (ys : List D) : Prop := d.plain = true ∧ d.py.depth ≤ 64 ∧ D.plains ys = true
def inD (d : D) (ys : List D) : Bool := (D.pys ys).any fun z => PyData.eqv z d.py
def opIn (g : Bool → Bool) (d : D) (s : Sq) : T D := if d.plain = true ∧ d.py.depth ≤ 64 ∧ D.plains s.xs = true then .ok (.bl (g (inD d s.xs))) else .fail
def dIn (g : Bool → Bool) (f : DEnv → T D) (h : DEnv → T Sq) : DEnv → T D := fun ρ => (f ρ).bind fun d => (h ρ).bind fun s => opIn g d s
@[simp] theorem s_dIn (g : Bool → Bool) (f : DEnv → T D) (h : DEnv → T Sq) (ρ : DEnv) : dIn g f h ρ = (f ρ).bind fun d => (h ρ).bind fun s => opIn g d s := rfl
def rInA (K : PySem.W.Frag) (g : Bool → Bool) : R2 := fun x y H Q => ∃ d ds, Dp K H x d ∧ (Dp K H y (.list ds) ∨ Dp K H y (.tuple ds)) ∧ d.canLay0 = true ∧ PyData.canLayAll0 ds = true ∧ d.depth ≤ 64 ∧ Q (.bl (g (ds.any fun z => PyData.eqv z d))) H
theorem or_in (hu : X.A.units + 65 < cLine) : OpR X (compareOp .In) (rInA X.K id) := by
  intro pins s σ H x y v u Q I rx ry h
  obtain ⟨d, ds, hd, he | he, sd, se, hz, q⟩ := h
  · obtain ⟨as, r1⟩ := Dp.reads I d x v hd rx
    obtain ⟨bs, r2⟩ := Dp.reads I (.list ds) y u he ry
    exact SeqAt.in_list_reads r2 r1 se sd (by omega) ⟨.bl _, H, I, rfl, q⟩
  · obtain ⟨as, r1⟩ := Dp.reads I d x v hd rx
    obtain ⟨bs, r2⟩ := Dp.reads I (.tuple ds) y u he ry
    exact SeqAt.in_tuple_reads r2 r1 se sd (by omega) ⟨.bl _, H, I, rfl, q⟩
theorem or_notin (hu : X.A.units + 65 < cLine) : OpR X (compareOp .NotIn) (rInA X.K not) := by
  intro pins s σ H x y v u Q I rx ry h
  obtain ⟨d, ds, hd, he | he, sd, se, hz, q⟩ := h
  · obtain ⟨as, r1⟩ := Dp.reads I d x v hd rx
    obtain ⟨bs, r2⟩ := Dp.reads I (.list ds) y u he ry
    exact SeqAt.notIn_list_reads r2 r1 se sd (by omega) ⟨.bl _, H, I, rfl, q⟩
  · obtain ⟨as, r1⟩ := Dp.reads I d x v hd rx
    obtain ⟨bs, r2⟩ := Dp.reads I (.tuple ds) y u he ry
    exact SeqAt.notIn_tuple_reads r2 r1 se sd (by omega) ⟨.bl _, H, I, rfl, q⟩
theorem in_two {g : Bool → Bool} {f : DEnv → T D} {h : DEnv → T Sq} {σ : St} {H : Hp} {Q : VK} (q0 : tD X.K X.mg W (dIn g f h) σ H Q) : tOp (rInA X.K g) (tD X.K X.mg W f) (tS X.K X.mg W h) σ H Q := by
  obtain ⟨w, F, ρ, n, c, q⟩ := q0
  refine tD.go c (T.wp_bind _ _ |>.mp q) (fun _ _ h => h) fun d m q1 F1 H1 v s1 c1 r => ?_
  refine tS.go c1 (T.wp_bind _ _ |>.mp q1) (fun _ _ h => h.back s1) fun s m2 q2 F2 H2 a vs s2 c2 hs r2 => ?_
  unfold opIn at q2
  split at q2
  · rename_i hc
    refine ⟨d.py, D.pys s.xs, (r.step s2 c1.toBase).dp hc.1, ?_, D.canLay _ hc.1, D.canLays _ hc.2.2, hc.2.1, q2 F2 H2 _ (s1.trans s2) c2.toBase (.bl _)⟩
    cases s with
    | l xs => exact .inl (.lst (SqL.of hs.2) (Reps.dp r2 hc.2.2))
    | t xs => exact .inr (.tup (TupAt.seq hs) (Reps.dp r2 hc.2.2))
  · exact q2.elim
theorem de_in {op : CmpOp} {g : Bool → Bool} {a b : Expr} {f : DEnv → T D} {h : DEnv → T Sq} {pos : Pos} (hr : OpR X (compareOp op) (rInA X.K g)) (hm : behindInMarks op b = false) (ha : PE X a (tD X.K X.mg W f)) (hb : PE X b (tS X.K X.mg W h)) :
    PE X (.Compare a [op] [b] pos) (tD X.K X.mg W (dIn g f h)) := PE.of (pe_cmpR hr ha hb hm) fun _ _ _ q => in_two q
theorem dt_in {op : CmpOp} {g : Bool → Bool} {a b : Expr} {f : DEnv → T D} {h : DEnv → T Sq} {pos : Pos} (hr : OpR X (compareOp op) (rInA X.K g)) (hm : behindInMarks op b = false) (ha : PE X a (tD X.K X.mg W f)) (hb : PE X b (tS X.K X.mg W h)) :
    PT X (.Compare a [op] [b] pos) (tDT X.K X.mg W (dT (dIn g f h))) := PT.of (pt_cmpR hr ha hb hm) fun σ H Q ⟨w, F, ρ, n, c, q⟩ => in_two (g := g) ⟨w, F, ρ, n, c, T.wp_mono (fun d m h F1 H1 v s1 b1 r => by
    cases d with
    | bl b => cases r; exact ⟨b, rfl, h F1 H1 s1 b1⟩
    | _ => exact h.elim) (fun _ _ h => h) (T.wp_bind _ _ |>.mp q)⟩
/-! ### list * n -/
theorem Reps.rep {K : PySem.W.Frag} {w : Addr} {F : Addr → Prop} {H : Hp} {vs : List V} {ds : List D} (r : Reps K w F H vs ds) : ∀ k : Nat, Reps K w F H (List.replicate k vs).flatten (List.replicate k ds).flatten
  | 0 => .nil
  | k + 1 => by simp only [List.replicate_succ, List.flatten_cons]; exact r.append (Reps.rep r k)
def opRepL (s : Sq) (d : D) : T (List D) := match s, d with
  | .l xs, .int k => if k ≤ 1000000 ∧ xs.length ≤ 1000 ∧ xs.length * k.toNat ≤ 1000000 ∧ -1000000 ≤ k then .ok (List.replicate k.toNat xs).flatten else .fail
  | _, _ => .fail
def dRepL (f : DEnv → T Sq) (g : DEnv → T D) : DEnv → T (List D) := fun ρ => (f ρ).bind fun s => (g ρ).bind fun d => opRepL s d
@[simp] theorem s_dRepL (f : DEnv → T Sq) (g : DEnv → T D) (ρ : DEnv) : dRepL f g ρ = (f ρ).bind fun s => (g ρ).bind fun d => opRepL s d := rfl
theorem dn_repL {a b : Expr} {f : DEnv → T Sq} {g : DEnv → T D} {pos : Pos} (ha : PE X a (tS X.K X.mg W f)) (hb : PE X b (tD X.K X.mg W g)) : PE X (.BinOp a .Mult b pos) (tN X.K X.mg W (dRepL f g)) :=
  PE.of (pe_op op_rep ha hb) fun σ H Q ⟨w, F, ρ, n, c, q⟩ =>
    tS.go c (T.wp_bind _ _ |>.mp q) (fun _ _ h => h) fun s m q1 F1 H1 a vs s1 c1 hs r => tD.go c1 (T.wp_bind _ _ |>.mp q1) (fun _ _ h => h.back s1) fun d m2 q2 F2 H2 v s2 c2 r2 => by
      have hs' := hs.step s2 c1.toBase
      have r' := r.step s2 c1.toBase
      cases s with
      | t xs => exact q2.elim
      | l xs =>
        cases r2 with
        | int k =>
          unfold opRepL at q2
          dsimp only at q2
          split at q2
          · rename_i hz
            refine ⟨a, k, vs, rfl, rfl, hs'.2, by omega, by omega, ?_, fun p hp => ?_⟩
            · have h1 := hz.2.2.1
              have h2 : vs.length = xs.length := r.length
              rw [h2, PySem.sizeLine_eq]
              omega
            obtain ⟨s3, b3, nf, r3⟩ := dn_new (mg := X.mg) c2.toBase (Reps.rep r' k.toNat) hp
            exact q2 F2 _ p _ ((s1.trans s2).trans s3) b3 (s1.dom p (s2.dom p hp)) nf upd_same r3
          · exact q2.elim
        | _ => exact q2.elim
/-! ### a tuple of texts, a constant of the module -/
def strsB : List Value → List Str → Bool
  | [], [] => true
  | .str s _ :: r, x :: xs => decide (s = x) && strsB r xs
  | _, _ => false
theorem strsB_ok : ∀ {us : List Value} {ss : List Str}, strsB us ss = true → Vals (ss.map V.str) us
  | [], [], _ => .nil
  | .str s t :: r, x :: xs, h => by
    simp only [strsB, Bool.and_eq_true, decide_eq_true_eq] at h
    exact .cons ⟨t, by rw [h.1]⟩ (strsB_ok h.2)
  | [], _ :: _, h => by cases h
  | .str _ _ :: _, [], h => by cases h
  | .none :: _, _, h => by cases h
def tupSB (K : PySem.W.Frag) (a : Addr) (ss : List Str) : Bool := match K.lookup a with
  | some ⟨.type c, _, .seq its _, _⟩ => decide (c = "tuple") && (decide (its.size ≤ sizeLine) && strsB its.toList ss)
  | _ => false
theorem tupSB_ok {K : PySem.W.Frag} {a : Addr} {ss : List Str} (h : tupSB K a ss = true) : ∃ (o : Obj) (its : Array Value) (n : Nat), K.lookup a = some o ∧ o.cls = .type "tuple" ∧ o.data = .seq its n ∧ its.size ≤ sizeLine ∧ Vals (ss.map V.str) its.toList := by
  unfold tupSB at h
  split at h
  · rename_i c od its n osl q
    simp only [Bool.and_eq_true, decide_eq_true_eq] at h
    exact ⟨_, its, n, q, by rw [h.1], rfl, h.2.1, strsB_ok h.2.2⟩
  · cases h
def tupSI (its : Array Value) (ss : List Str) : Bool := decide (its.size ≤ sizeLine) && strsB its.toList ss
theorem tupSB_mk {K : PySem.W.Frag} {a : Addr} {ss : List Str} {od : Option Addr} {its : Array Value} {n : Nat} {sl : Array (Option Value)} (h : K.lookup a = some ⟨.type "tuple", od, .seq its n, sl⟩) (h2 : tupSI its ss = true) : tupSB K a ss = true := by
  unfold tupSB
  rw [h]
  simp only [decide_true, Bool.true_and]
  exact h2
def strsD (ss : List Str) : D := .tup (ss.map D.str)
theorem Reps.strs {K : PySem.W.Frag} {w : Addr} {F : Addr → Prop} {H : Hp} : ∀ ss : List Str, Reps K w F H (ss.map V.str) (ss.map D.str)
  | [] => .nil
  | s :: ss => .cons (.str s) (Reps.strs ss)
theorem de_tupC {x : Str} {a : Addr} {ss : List Str} {pos : Pos} (hg : Gl X x) (hm : X.mg x = some (.ref a)) (h : tupSB X.K a ss = true) (hd : (x == ("__debug__" : Str)) = false := by decide) : PE X (.Name x pos) (tD X.K X.mg W (dC (strsD ss))) :=
  de_c (pe_glob (v := .ref a) hg hm rfl hd) fun w F H => .tup (.inr (tupSB_ok h)) (Reps.strs ss)
/-! ### tuple * n -/
theorem tuple_mul1 (l : Addr) (items : Array Value) (n : Nat) (dd : Option Addr) (sl : Array (Option Value)) (x : Int) (u : Tok) (c0 : (decide (x < -(2 ^ 63)) || decide (x ≥ 2 ^ 63)) = false) (c1 : (items.isEmpty || x == 1) = true) :
    Meets (Builtin.«tuple.__mul__» ⟨[.ref l, .int x u], []⟩) (fun _ R s => s.heap.get? l = some { cls := .type "tuple", dict := dd, data := .seq items n, slots := sl } ∧ R (.ok (.ret (Value.ref l))) s) :=
  .of_wp fun prog w A R s h => by
    obtain ⟨hp, g, d, tk, os⟩ := s
    obtain ⟨hl, h⟩ := h
    have f1 := AutoSeq1.idx_int
    wp_walk using wpAny_loadPart' hl
    repeat (first
      | (refine wpAny_ite_false (decide_eq_false (by rw [c0]; exact Bool.false_ne_true)) ?_; wp_walk using wpAny_loadPart' hl)
      | (refine wpAny_ite_true (decide_eq_true c1) ?_; wp_walk using wpAny_loadPart' hl))
    exact ⟨_, rfl, h⟩
theorem tuple_mul0 (l : Addr) (items : Array Value) (n : Nat) (dd : Option Addr) (sl : Array (Option Value)) (x : Int) (u : Tok) (c0 : (decide (x < -(2 ^ 63)) || decide (x ≥ 2 ^ 63)) = false) (c1 : (items.isEmpty || x == 1) = false) (c2 : (decide (x ≤ 0) || items.isEmpty) = true) :
    Meets (Builtin.«tuple.__mul__» ⟨[.ref l, .int x u], []⟩) (fun _ R s => s.heap.get? l = some { cls := .type "tuple", dict := dd, data := .seq items n, slots := sl } ∧ R (.ok (.ret (Value.ref s.heap.objs.size))) { s with heap := s.heap.push { cls := Value.type "tuple", data := Data.seq #[] }, toks := s.toks }) :=
  .of_wp fun prog w A R s h => by
    obtain ⟨hp, g, d, tk, os⟩ := s
    obtain ⟨hl, h⟩ := h
    have f1 := AutoSeq1.idx_int
    wp_walk using wpAny_loadPart' hl
    repeat (first
      | (refine wpAny_ite_false (decide_eq_false (by rw [c0]; exact Bool.false_ne_true)) ?_; wp_walk using wpAny_loadPart' hl)
      | (refine wpAny_ite_false (decide_eq_false (by rw [c1]; exact Bool.false_ne_true)) ?_; wp_walk using wpAny_loadPart' hl)
      | (refine wpAny_ite_true (decide_eq_true c2) ?_; wp_walk using wpAny_loadPart' hl))
    exact ⟨_, rfl, h⟩
def rRepA (K : PySem.W.Frag) : R2 := fun x y H Q => ∃ l k xs, x = .ref l ∧ y = .int k ∧ SqT K H l xs ∧ -1000 ≤ k ∧ k ≤ 1000 ∧ xs.length ≤ 1000 ∧
  ((xs = [] ∨ k = 1) → Q (.ref l) H) ∧ (¬ (xs = [] ∨ k = 1) → ∀ p, H p = none → Q (.ref p) (upd H p (.tup (List.replicate k.toNat xs).flatten)))
theorem op_repA : OpR X (binaryOp .Mult) (rRepA X.K) := by
  intro pins s σ H x y v u Q I rx ry h
  obtain ⟨l, k, xs, rfl, rfl, hT, h1, h2, hz, q1, q2⟩ := h
  by_cases hc : xs = [] ∨ k = 1
  · cases rx
    obtain ⟨t, rfl⟩ := ry
    obtain ⟨its, r, ⟨⟨cls, dd, data, sl⟩, ho, hcl, n, hd⟩, hs⟩ := I.tuple hT
    simp only at hcl hd
    subst hcl hd
    have c0 : (decide (k < -(2 ^ 63)) || decide (k ≥ 2 ^ 63)) = false := by
      rw [decide_eq_false (by omega), decide_eq_false (by omega)] <;> rfl
    have c1 : (its.toArray.isEmpty || k == 1) = true := by
      rcases hc with e | e
      · subst e
        cases r
        rfl
      · subst e
        simp
    exact wpAny_binaryOp_repeat_ref (T := "tuple") (U := "int") (by decide) ⟨_, ho, rfl⟩ (fun s' => typeIs_int s' k t) noFill_tuple_mul F.fills_int_mul F.slot_int_rmul repeat_tuple F.slot_int_index.lookup
      (call_meets F.slot_int_rmul (typeIs_int s k t) F.entry_int_rmul (F.args_int_rmul_2 _ _) (int_rmul_tuple k t l its.toArray n dd sl)
        ⟨ho, rfl, ⟨_, ho, rfl⟩, call_meets F.slot_tuple_mul ⟨_, ho, rfl⟩ F.entry_tuple_mul (F.args_tuple_mul_2 _ _) (tuple_mul1 l its.toArray n dd sl k t c0 c1) ⟨ho, .ref l, H, I, rfl, q1 hc⟩⟩)
  · by_cases hk : k ≤ 0
    · have q3 := q2 hc
      cases rx
      obtain ⟨t, rfl⟩ := ry
      obtain ⟨its, r, ⟨⟨cls, dd, data, sl⟩, ho, hcl, n, hd⟩, hs⟩ := I.tuple hT
      simp only at hcl hd
      subst hcl hd
      have c0 : (decide (k < -(2 ^ 63)) || decide (k ≥ 2 ^ 63)) = false := by
        rw [decide_eq_false (by omega), decide_eq_false (by omega)] <;> rfl
      have c1 : (its.toArray.isEmpty || k == 1) = false := by
        have : its.toArray.isEmpty = false := by
          cases r with
          | nil => exact absurd (.inl rfl) hc
          | cons _ _ => rfl
        rw [this, Bool.false_or]
        exact beq_eq_false_iff_ne.mpr (by omega)
      have c2 : (decide (k ≤ 0) || its.toArray.isEmpty) = true := by rw [decide_eq_true hk]; rfl
      have e0 : k.toNat = 0 := by omega
      rw [e0] at q3
      exact wpAny_binaryOp_repeat_ref (T := "tuple") (U := "int") (by decide) ⟨_, ho, rfl⟩ (fun s' => typeIs_int s' k t) noFill_tuple_mul F.fills_int_mul F.slot_int_rmul repeat_tuple F.slot_int_index.lookup
        (call_meets F.slot_int_rmul (typeIs_int s k t) F.entry_int_rmul (F.args_int_rmul_2 _ _) (int_rmul_tuple k t l its.toArray n dd sl)
          ⟨ho, rfl, ⟨_, ho, rfl⟩, call_meets F.slot_tuple_mul ⟨_, ho, rfl⟩ F.entry_tuple_mul (F.args_tuple_mul_2 _ _) (tuple_mul0 l its.toArray n dd sl k t c0 c1 c2)
            ⟨ho, .ref s.heap.objs.size, _, I.laid (t' := s.toks) (o := .tup []) (fun b ob q => Heap.get?_push_of_some _ q) (Nat.le_refl _) ⟨Nat.zero_le _, [], .nil, IsTup.new _ _⟩, rfl, q3 _ (I.hok.fresh (Nat.le_refl _))⟩⟩)
    · exact op_repT pins s σ H _ _ v u Q I rx ry ⟨l, k, xs, rfl, rfl, hT, fun e => hc (.inl e), by omega, h2, hz, q2 hc⟩
def opRepT (s : Sq) (d : D) : T D := match s, d with
  | .t xs, .int k => if -1000 ≤ k ∧ k ≤ 1000 ∧ xs.length ≤ 1000 then .ok (.tup (List.replicate k.toNat xs).flatten) else .fail
  | _, _ => .fail
def dRepT (f : DEnv → T Sq) (g : DEnv → T D) : DEnv → T D := fun ρ => (f ρ).bind fun s => (g ρ).bind fun d => opRepT s d
@[simp] theorem s_dRepT (f : DEnv → T Sq) (g : DEnv → T D) (ρ : DEnv) : dRepT f g ρ = (f ρ).bind fun s => (g ρ).bind fun d => opRepT s d := rfl
theorem de_repT {a b : Expr} {f : DEnv → T Sq} {g : DEnv → T D} {pos : Pos} (ha : PE X a (tS X.K X.mg W f)) (hb : PE X b (tD X.K X.mg W g)) : PE X (.BinOp a .Mult b pos) (tD X.K X.mg W (dRepT f g)) :=
  PE.of (pe_op op_repA ha hb) fun σ H Q ⟨w, F, ρ, n, c, q⟩ =>
    tS.go c (T.wp_bind _ _ |>.mp q) (fun _ _ h => h) fun s m q1 F1 H1 a vs s1 c1 hs r => tD.go c1 (T.wp_bind _ _ |>.mp q1) (fun _ _ h => h.back s1) fun d m2 q2 F2 H2 v s2 c2 r2 => by
      have hs' := hs.step s2 c1.toBase
      have r' := r.step s2 c1.toBase
      cases s with
      | l xs => exact q2.elim
      | t xs =>
        cases r2 with
        | int k =>
          unfold opRepT at q2
          dsimp only at q2
          split at q2
          · rename_i hz
            have hl : vs.length = xs.length := r.length
            refine ⟨a, k, vs, rfl, rfl, TupAt.seq hs', hz.1, hz.2.1, by rw [hl]; exact hz.2.2, fun hc => ?_, fun _ p hp => ?_⟩
            · refine q2 F2 H2 _ (s1.trans s2) c2.toBase (.tup hs' ?_)
              rcases hc with e | e
              · subst e
                cases r'
                have : ∀ m : Nat, (List.replicate m ([] : List D)).flatten = [] := fun m => by induction m with
                  | zero => rfl
                  | succ m ih => rw [List.replicate_succ, List.flatten_cons, ih]; rfl
                show Reps _ _ _ _ [] (List.replicate k.toNat ([] : List D)).flatten
                rw [this]
                exact .nil
              · subst e
                have : (List.replicate (1 : Int).toNat xs).flatten = xs := by simp
                rw [this]
                exact r'
            · obtain ⟨s3, b3, r3⟩ := tup_new c2.toBase (Reps.rep r' k.toNat) hp
              exact q2 _ _ _ ((s1.trans s2).trans s3) b3 r3
          · exact q2.elim
        | _ => exact q2.elim
@[simp] theorem opRepT_nat (xs : List D) (n : Nat) (h : n ≤ 1000 := by omega) (hx : xs.length ≤ 1000 := by simp) : opRepT (.t xs) (.int (n : Nat)) = .ok (.tup (List.replicate n xs).flatten) := by
  unfold opRepT
  dsimp only
  rw [if_pos ⟨by omega, by omega, hx⟩, Int.toNat_natCast]
theorem opRepL_nat (xs : List D) (n : Nat) (h : n ≤ 1000000) (hx : xs.length ≤ 1000) (hz : xs.length * n ≤ 1000000) : opRepL (.l xs) (.int (n : Nat)) = .ok (List.replicate n xs).flatten := by
  unfold opRepL
  dsimp only
  rw [if_pos ⟨by omega, hx, by rw [Int.toNat_natCast]; exact hz, by omega⟩, Int.toNat_natCast]
end
end
end AL
namespace AL
open PySem PySem.Spec PyProof.Rows L2
noncomputable section
/-! ## more run rules -/
section
variable {ρ : DEnv} {c c1 c2 : Nat}
theorem run_ret_if {t : DEnv → T Bool} {f : DEnv → T D} {g a : DEnv → T Fl} {P : D → Prop} {R : Fl → Prop} (e : t ρ = .ok true) (h : run (f ρ) c P) (hR : ∀ d, P d → R (.rt d)) : run (gSeq (gIf t (gRet f) a) g ρ) c R := by
  rw [s_gSeq, s_gIf, e, T.ex_ok, if_pos rfl]
  refine run_bind0 (run_ret h) fun fl ⟨d, hd, e⟩ => ?_
  subst e
  exact run_ok (hR d hd)
theorem run_skip_if {t : DEnv → T Bool} {a g : DEnv → T Fl} {R : Fl → Prop} (e : t ρ = .ok false) (h : run (g ρ) c R) : run (gSeq (gIf t a gNil) g ρ) c R := run_seq0 (nx_if (ρ' := []) e) h
theorem run_dIx {f : DEnv → T Sq} {g : DEnv → T D} {s : Sq} {P R : D → Prop} (hf : f ρ = .ok s) (hg : run (g ρ) c P) (h : ∀ d, P d → ∃ x, opIx s d = .ok x ∧ R x) : run (dIx f g ρ) c R := by
  rw [s_dIx, hf, T.bind_ok]
  refine run_bind0 hg fun d hd => ?_
  obtain ⟨x, e, hx⟩ := h d hd
  exact run_eq e hx
theorem run_gAppend {i : Nat} {xs : List D} {f : DEnv → T D} {P : D → Prop} {R : Fl → Prop} (hi : ρ[i]? = some (.own xs)) (hz : xs.length ≤ 10000000) (h : run (f ρ) c P) (hR : ∀ d, P d → R (.nx (ρ.set i (.own (xs ++ [d]))))) : run (gAppend i f ρ) c R :=
  run_imp (run_append hi (szt (by omega)) h) fun fl ⟨d, hd, e⟩ => by subst e; exact hR d hd
theorem run_tupOf {f : DEnv → T Sq} {P : List D → Prop} (h : run (f ρ) c fun s => P s.xs ∧ s.xs.length ≤ 10000000) : run (dTupOf f ρ) c fun d => ∃ ds, d = .tup ds ∧ P ds := by
  rw [s_dTupOf]
  refine run_bind0 h fun s hs => ?_
  rw [if_pos (szl (by omega))]
  exact run_ok ⟨_, rfl, hs.1⟩
end
theorem opNe_nil {xs : List D} (h : D.plains xs = true) : opNe (.tup xs) (.tup []) = .ok (.bl (!xs.isEmpty)) := by
  have e : min (D.tup xs).py.depth (D.tup []).py.depth ≤ 64 := by simp [D.py, D.pys, PyData.depth, PyData.depthAll]
  show (if _ ∧ _ ∧ _ then _ else _) = _
  rw [if_pos ⟨by simpa only [D.plain] using h, rfl, e⟩]
  cases xs with
  | nil => simp [D.py, D.pys, PyData.eqv, PyData.eqvAll]
  | cons x r => simp [D.py, D.pys, PyData.eqv, PyData.eqvAll]
theorem plains_nD (l : List Nat) : D.plains (l.map nD) = true := plains_iff.mpr fun d hd => by
  obtain ⟨x, _, rfl⟩ := List.mem_map.mp hd
  exact plain_nD x
end
end AL
namespace G74
open PySem PySem.Spec PyProof.Rows L2 AL
noncomputable section
def topS (i : Nat) : Stmt := PySem.Challenge.pw_arrivesalike_k74_programs_judged.main.body.getD i (.Pass ⟨0, 0, 0, 0⟩)
abbrev s_law_well : Stmt := topS 43
theorem sc_law_well : FnScope ["script", "at", "seed", "cell", "own"] ["script", "at"] (defScope s_law_well) := ⟨rfl, rfl, rfl, by decide +kernel, rfl, by decide +kernel, by decide +kernel⟩
abbrev s_law_take : Stmt := topS 44
theorem sc_law_take : FnScope ["well", "many", "digit", "one", "two"] ["well", "many"] (defScope s_law_take) := ⟨rfl, rfl, rfl, by decide +kernel, rfl, by decide +kernel, by decide +kernel⟩
abbrev s_law_choose : Stmt := topS 45
theorem sc_law_choose : FnScope ["well", "things"] ["well", "things"] (defScope s_law_choose) := ⟨rfl, rfl, rfl, by decide +kernel, rfl, by decide +kernel, by decide +kernel⟩
abbrev s_law_bent_part : Stmt := topS 54
theorem sc_law_bent_part : FnScope ["well", "thing", "at"] ["well", "thing"] (defScope s_law_bent_part) := ⟨rfl, rfl, rfl, by decide +kernel, rfl, by decide +kernel, by decide +kernel⟩
abbrev s_law_equal : Stmt := topS 46
theorem sc_law_equal : FnScope ["told", "due"] ["told", "due"] (defScope s_law_equal) := ⟨rfl, rfl, rfl, by decide +kernel, rfl, by decide +kernel, by decide +kernel⟩
abbrev s_law_whole : Stmt := topS 50
theorem sc_law_whole : FnScope ["thing", "low"] ["thing", "low"] (defScope s_law_whole) := ⟨rfl, rfl, rfl, by decide +kernel, rfl, by decide +kernel, by decide +kernel⟩
abbrev s_law_is_expression : Stmt := topS 51
theorem sc_law_is_expression : FnScope ["cells", "thing"] ["cells", "thing"] (defScope s_law_is_expression) := ⟨rfl, rfl, rfl, by decide +kernel, rfl, by decide +kernel, by decide +kernel⟩
abbrev s_law_are_statements : Stmt := topS 52
theorem sc_law_are_statements : FnScope ["cells", "thing", "one"] ["cells", "thing"] (defScope s_law_are_statements) := ⟨rfl, rfl, rfl, by decide +kernel, rfl, by decide +kernel, by decide +kernel⟩
abbrev s_law_fault : Stmt := topS 53
theorem sc_law_fault : FnScope ["value", "one", "event"] ["value"] (defScope s_law_fault) := ⟨rfl, rfl, rfl, by decide +kernel, rfl, by decide +kernel, by decide +kernel⟩
abbrev s_law_expression : Stmt := topS 47
theorem sc_law_expression : FnScope ["well", "sizes", "depth", "way", "word"] ["well", "sizes", "depth"] (defScope s_law_expression) := ⟨rfl, rfl, rfl, by decide +kernel, rfl, by decide +kernel, by decide +kernel⟩
abbrev s_law_statements : Stmt := topS 48
theorem sc_law_statements : FnScope ["well", "sizes", "depth", "found", "turn", "test"] ["well", "sizes", "depth"] (defScope s_law_statements) := ⟨rfl, rfl, rfl, by decide +kernel, rfl, by decide +kernel, by decide +kernel⟩
abbrev s_law_program : Stmt := topS 49
theorem sc_law_program : FnScope ["well", "events", "sizes", "cell", "steps", "event"] ["well", "events"] (defScope s_law_program) := ⟨rfl, rfl, rfl, by decide +kernel, rfl, by decide +kernel, by decide +kernel⟩
abbrev s_of_two : Stmt := topS 33
theorem sc_of_two : FnScope ["word", "one", "two"] ["word", "one", "two"] (defScope s_of_two) := ⟨rfl, rfl, rfl, by decide +kernel, rfl, by decide +kernel, by decide +kernel⟩
abbrev s_value_of : Stmt := topS 34
theorem sc_value_of : FnScope ["cells", "expression", "word"] ["cells", "expression"] (defScope s_value_of) := ⟨rfl, rfl, rfl, by decide +kernel, rfl, by decide +kernel, by decide +kernel⟩
abbrev s_done : Stmt := topS 35
theorem sc_done : FnScope ["sizes", "cells", "statements", "statement", "at"] ["sizes", "cells", "statements"] (defScope s_done) := ⟨rfl, rfl, rfl, by decide +kernel, rfl, by decide +kernel, by decide +kernel⟩
abbrev s_cells_in : Stmt := topS 36
theorem sc_cells_in : FnScope ["program", "log", "cells", "event"] ["program", "log"] (defScope s_cells_in) := ⟨rfl, rfl, rfl, by decide +kernel, rfl, by decide +kernel, by decide +kernel⟩
abbrev s_is_integer : Stmt := topS 7
theorem sc_is_integer : FnScope ["thing"] ["thing"] (defScope s_is_integer) := ⟨rfl, rfl, rfl, by decide +kernel, rfl, by decide +kernel, by decide +kernel⟩
abbrev s_is_from : Stmt := topS 8
theorem sc_is_from : FnScope ["low", "thing"] ["low", "thing"] (defScope s_is_from) := ⟨rfl, rfl, rfl, by decide +kernel, rfl, by decide +kernel, by decide +kernel⟩
abbrev s_is_below : Stmt := topS 9
theorem sc_is_below : FnScope ["many", "thing"] ["many", "thing"] (defScope s_is_below) := ⟨rfl, rfl, rfl, by decide +kernel, rfl, by decide +kernel, by decide +kernel⟩
abbrev s_row_fault : Stmt := topS 11
theorem sc_row_fault : FnScope ["many", "thing", "index", "one"] ["many", "thing"] (defScope s_row_fault) := ⟨rfl, rfl, rfl, by decide +kernel, rfl, by decide +kernel, by decide +kernel⟩
abbrev s_check_log : Stmt := topS 12
theorem sc_check_log : FnScope ["events", "thing", "index"] ["events", "thing"] (defScope s_check_log) := ⟨rfl, rfl, rfl, by decide +kernel, rfl, by decide +kernel, by decide +kernel⟩
abbrev s_is_expression : Stmt := topS 26
theorem sc_is_expression : FnScope ["cells", "thing", "part"] ["cells", "thing"] (defScope s_is_expression) := ⟨rfl, rfl, rfl, by decide +kernel, rfl, by decide +kernel, by decide +kernel⟩
abbrev s_is_statement : Stmt := topS 27
theorem sc_is_statement : FnScope ["cells", "thing"] ["cells", "thing"] (defScope s_is_statement) := ⟨rfl, rfl, rfl, by decide +kernel, rfl, by decide +kernel, by decide +kernel⟩
abbrev s_are_statements : Stmt := topS 28
theorem sc_are_statements : FnScope ["cells", "thing", "one"] ["cells", "thing"] (defScope s_are_statements) := ⟨rfl, rfl, rfl, by decide +kernel, rfl, by decide +kernel, by decide +kernel⟩
abbrev s_is_tuple : Stmt := topS 10
theorem sc_is_tuple : FnScope ["many", "thing"] ["many", "thing"] (defScope s_is_tuple) := ⟨rfl, rfl, rfl, by decide +kernel, rfl, by decide +kernel, by decide +kernel⟩
abbrev s_program_fault : Stmt := topS 29
theorem sc_program_fault : FnScope ["value", "events", "sizes", "steps", "result", "one", "event", "statements"] ["value"] (defScope s_program_fault) := ⟨rfl, rfl, rfl, by decide +kernel, rfl, by decide +kernel, by decide +kernel⟩
abbrev s_check_program : Stmt := topS 31
theorem sc_check_program : FnScope ["thing", "place"] ["thing"] (defScope s_check_program) := ⟨rfl, rfl, rfl, by decide +kernel, rfl, by decide +kernel, by decide +kernel⟩
abbrev s_check_run : Stmt := topS 37
theorem sc_check_run : FnScope ["program", "log"] ["program", "log"] (defScope s_check_run) := ⟨rfl, rfl, rfl, by decide +kernel, rfl, by decide +kernel, by decide +kernel⟩
abbrev s_answer_by : Stmt := topS 38
theorem sc_answer_by : FnScope ["program", "log"] ["program", "log"] (defScope s_answer_by) := ⟨rfl, rfl, rfl, by decide +kernel, rfl, by decide +kernel, by decide +kernel⟩
abbrev s_check_other_program : Stmt := topS 32
theorem sc_check_other_program : FnScope ["program", "thing"] ["program", "thing"] (defScope s_check_other_program) := ⟨rfl, rfl, rfl, by decide +kernel, rfl, by decide +kernel, by decide +kernel⟩
abbrev s_parting_from : Stmt := topS 19
theorem sc_parting_from : FnScope ["summary", "state", "other", "other_state"] ["summary", "state", "other", "other_state"] (defScope s_parting_from) := ⟨rfl, rfl, rfl, by decide +kernel, rfl, by decide +kernel, by decide +kernel⟩
abbrev s_summary_in : Stmt := topS 39
theorem sc_summary_in : FnScope ["program", "labels", "moves", "cells"] ["program"] (defScope s_summary_in) := ⟨rfl, rfl, rfl, by decide +kernel, rfl, by decide +kernel, by decide +kernel⟩
abbrev s_program_parting : Stmt := topS 41
theorem sc_program_parting : FnScope ["program", "other_program"] ["program", "other_program"] (defScope s_program_parting) := ⟨rfl, rfl, rfl, by decide +kernel, rfl, by decide +kernel, by decide +kernel⟩
abbrev s_summary_of_program : Stmt := topS 40
theorem sc_summary_of_program : FnScope ["program"] ["program"] (defScope s_summary_of_program) := ⟨rfl, rfl, rfl, by decide +kernel, rfl, by decide +kernel, by decide +kernel⟩
abbrev s_law_told : Stmt := topS 55
theorem sc_law_told : FnScope ["which", "value", "told", "e"] ["which", "value"] (defScope s_law_told) := ⟨rfl, rfl, rfl, by decide +kernel, rfl, by decide +kernel, by decide +kernel⟩
abbrev s_is_program : Stmt := topS 30
theorem sc_is_program : FnScope ["value"] ["value"] (defScope s_is_program) := ⟨rfl, rfl, rfl, by decide +kernel, rfl, by decide +kernel, by decide +kernel⟩
abbrev s_law_right : Stmt := topS 56
theorem sc_law_right : FnScope ["well", "program", "turn", "value", "place", "which"] ["well"] (defScope s_law_right) := ⟨rfl, rfl, rfl, by decide +kernel, rfl, by decide +kernel, by decide +kernel⟩
abbrev s_law : Stmt := topS 57
theorem sc_law : FnScope ["script", "at", "well", "turn"] ["script"] (defScope s_law) := ⟨rfl, rfl, rfl, by decide +kernel, rfl, by decide +kernel, by decide +kernel⟩
abbrev si_InvalidProgram : Stmt := inClass (topS 3) 0
theorem sci_InvalidProgram : FnScope ["self", "place"] ["self", "place"] (defScope si_InvalidProgram) := ⟨rfl, rfl, rfl, by decide +kernel, rfl, by decide +kernel, by decide +kernel⟩
def tb_InvalidProgram : List (Str × Bool) := [("InvalidProgram", true)]
def tb_ArriveError : List (Str × Bool) := [("InvalidProgram", true)]
structure Txt (K : PySem.W.Frag) (mg : Str → Option Value) where
  a_law_well : Addr
  fd_law_well : FuncData
  F_law_well : Fun K "_law_well" "_law_well" s_law_well a_law_well fd_law_well
  m_law_well : mg "_law_well" = some (.ref a_law_well)
  b_law_well : Binds K fd_law_well ["script", "at"] []
  a_law_take : Addr
  fd_law_take : FuncData
  F_law_take : Fun K "_law_take" "_law_take" s_law_take a_law_take fd_law_take
  m_law_take : mg "_law_take" = some (.ref a_law_take)
  b_law_take : Binds K fd_law_take ["well", "many"] []
  a_law_choose : Addr
  fd_law_choose : FuncData
  F_law_choose : Fun K "_law_choose" "_law_choose" s_law_choose a_law_choose fd_law_choose
  m_law_choose : mg "_law_choose" = some (.ref a_law_choose)
  b_law_choose : Binds K fd_law_choose ["well", "things"] []
  a_law_bent_part : Addr
  fd_law_bent_part : FuncData
  F_law_bent_part : Fun K "_law_bent_part" "_law_bent_part" s_law_bent_part a_law_bent_part fd_law_bent_part
  m_law_bent_part : mg "_law_bent_part" = some (.ref a_law_bent_part)
  b_law_bent_part : Binds K fd_law_bent_part ["well", "thing"] []
  a_law_equal : Addr
  fd_law_equal : FuncData
  F_law_equal : Fun K "_law_equal" "_law_equal" s_law_equal a_law_equal fd_law_equal
  m_law_equal : mg "_law_equal" = some (.ref a_law_equal)
  b_law_equal : Binds K fd_law_equal ["told", "due"] []
  a_law_whole : Addr
  fd_law_whole : FuncData
  F_law_whole : Fun K "_law_whole" "_law_whole" s_law_whole a_law_whole fd_law_whole
  m_law_whole : mg "_law_whole" = some (.ref a_law_whole)
  b_law_whole : Binds K fd_law_whole ["thing", "low"] []
  a_law_is_expression : Addr
  fd_law_is_expression : FuncData
  F_law_is_expression : Fun K "_law_is_expression" "_law_is_expression" s_law_is_expression a_law_is_expression fd_law_is_expression
  m_law_is_expression : mg "_law_is_expression" = some (.ref a_law_is_expression)
  b_law_is_expression : Binds K fd_law_is_expression ["cells", "thing"] []
  a_law_are_statements : Addr
  fd_law_are_statements : FuncData
  F_law_are_statements : Fun K "_law_are_statements" "_law_are_statements" s_law_are_statements a_law_are_statements fd_law_are_statements
  m_law_are_statements : mg "_law_are_statements" = some (.ref a_law_are_statements)
  b_law_are_statements : Binds K fd_law_are_statements ["cells", "thing"] []
  a_law_fault : Addr
  fd_law_fault : FuncData
  F_law_fault : Fun K "_law_fault" "_law_fault" s_law_fault a_law_fault fd_law_fault
  m_law_fault : mg "_law_fault" = some (.ref a_law_fault)
  b_law_fault : Binds K fd_law_fault ["value"] []
  a_law_expression : Addr
  fd_law_expression : FuncData
  F_law_expression : Fun K "_law_expression" "_law_expression" s_law_expression a_law_expression fd_law_expression
  m_law_expression : mg "_law_expression" = some (.ref a_law_expression)
  b_law_expression : Binds K fd_law_expression ["well", "sizes", "depth"] []
  a_law_statements : Addr
  fd_law_statements : FuncData
  F_law_statements : Fun K "_law_statements" "_law_statements" s_law_statements a_law_statements fd_law_statements
  m_law_statements : mg "_law_statements" = some (.ref a_law_statements)
  b_law_statements : Binds K fd_law_statements ["well", "sizes", "depth"] []
  a_law_program : Addr
  fd_law_program : FuncData
  F_law_program : Fun K "_law_program" "_law_program" s_law_program a_law_program fd_law_program
  m_law_program : mg "_law_program" = some (.ref a_law_program)
  b_law_program : Binds K fd_law_program ["well", "events"] []
  a_of_two : Addr
  fd_of_two : FuncData
  F_of_two : Fun K "of_two" "of_two" s_of_two a_of_two fd_of_two
  m_of_two : mg "of_two" = some (.ref a_of_two)
  b_of_two : Binds K fd_of_two ["word", "one", "two"] []
  a_value_of : Addr
  fd_value_of : FuncData
  F_value_of : Fun K "value_of" "value_of" s_value_of a_value_of fd_value_of
  m_value_of : mg "value_of" = some (.ref a_value_of)
  b_value_of : Binds K fd_value_of ["cells", "expression"] []
  a_done : Addr
  fd_done : FuncData
  F_done : Fun K "done" "done" s_done a_done fd_done
  m_done : mg "done" = some (.ref a_done)
  b_done : Binds K fd_done ["sizes", "cells", "statements"] []
  a_cells_in : Addr
  fd_cells_in : FuncData
  F_cells_in : Fun K "cells_in" "cells_in" s_cells_in a_cells_in fd_cells_in
  m_cells_in : mg "cells_in" = some (.ref a_cells_in)
  b_cells_in : Binds K fd_cells_in ["program", "log"] []
  a_is_integer : Addr
  fd_is_integer : FuncData
  F_is_integer : Fun K "is_integer" "is_integer" s_is_integer a_is_integer fd_is_integer
  m_is_integer : mg "is_integer" = some (.ref a_is_integer)
  b_is_integer : Binds K fd_is_integer ["thing"] []
  a_is_from : Addr
  fd_is_from : FuncData
  F_is_from : Fun K "is_from" "is_from" s_is_from a_is_from fd_is_from
  m_is_from : mg "is_from" = some (.ref a_is_from)
  b_is_from : Binds K fd_is_from ["low", "thing"] []
  a_is_below : Addr
  fd_is_below : FuncData
  F_is_below : Fun K "is_below" "is_below" s_is_below a_is_below fd_is_below
  m_is_below : mg "is_below" = some (.ref a_is_below)
  b_is_below : Binds K fd_is_below ["many", "thing"] []
  a_row_fault : Addr
  fd_row_fault : FuncData
  F_row_fault : Fun K "row_fault" "row_fault" s_row_fault a_row_fault fd_row_fault
  m_row_fault : mg "row_fault" = some (.ref a_row_fault)
  b_row_fault : Binds K fd_row_fault ["many", "thing"] []
  a_check_log : Addr
  fd_check_log : FuncData
  F_check_log : Fun K "check_log" "check_log" s_check_log a_check_log fd_check_log
  m_check_log : mg "check_log" = some (.ref a_check_log)
  b_check_log : Binds K fd_check_log ["events", "thing"] []
  a_is_expression : Addr
  fd_is_expression : FuncData
  F_is_expression : Fun K "is_expression" "is_expression" s_is_expression a_is_expression fd_is_expression
  m_is_expression : mg "is_expression" = some (.ref a_is_expression)
  b_is_expression : Binds K fd_is_expression ["cells", "thing"] []
  a_is_statement : Addr
  fd_is_statement : FuncData
  F_is_statement : Fun K "is_statement" "is_statement" s_is_statement a_is_statement fd_is_statement
  m_is_statement : mg "is_statement" = some (.ref a_is_statement)
  b_is_statement : Binds K fd_is_statement ["cells", "thing"] []
  a_are_statements : Addr
  fd_are_statements : FuncData
  F_are_statements : Fun K "are_statements" "are_statements" s_are_statements a_are_statements fd_are_statements
  m_are_statements : mg "are_statements" = some (.ref a_are_statements)
  b_are_statements : Binds K fd_are_statements ["cells", "thing"] []
  a_is_tuple : Addr
  fd_is_tuple : FuncData
  F_is_tuple : Fun K "is_tuple" "is_tuple" s_is_tuple a_is_tuple fd_is_tuple
  m_is_tuple : mg "is_tuple" = some (.ref a_is_tuple)
  b_is_tuple : Binds K fd_is_tuple ["many", "thing"] []
  a_program_fault : Addr
  fd_program_fault : FuncData
  F_program_fault : Fun K "program_fault" "program_fault" s_program_fault a_program_fault fd_program_fault
  m_program_fault : mg "program_fault" = some (.ref a_program_fault)
  b_program_fault : Binds K fd_program_fault ["value"] []
  a_check_program : Addr
  fd_check_program : FuncData
  F_check_program : Fun K "check_program" "check_program" s_check_program a_check_program fd_check_program
  m_check_program : mg "check_program" = some (.ref a_check_program)
  b_check_program : Binds K fd_check_program ["thing"] []
  a_check_run : Addr
  fd_check_run : FuncData
  F_check_run : Fun K "check_run" "check_run" s_check_run a_check_run fd_check_run
  m_check_run : mg "check_run" = some (.ref a_check_run)
  b_check_run : Binds K fd_check_run ["program", "log"] []
  a_answer_by : Addr
  fd_answer_by : FuncData
  F_answer_by : Fun K "answer_by" "answer_by" s_answer_by a_answer_by fd_answer_by
  m_answer_by : mg "answer_by" = some (.ref a_answer_by)
  b_answer_by : Binds K fd_answer_by ["program", "log"] []
  a_check_other_program : Addr
  fd_check_other_program : FuncData
  F_check_other_program : Fun K "check_other_program" "check_other_program" s_check_other_program a_check_other_program fd_check_other_program
  m_check_other_program : mg "check_other_program" = some (.ref a_check_other_program)
  b_check_other_program : Binds K fd_check_other_program ["program", "thing"] []
  a_parting_from : Addr
  fd_parting_from : FuncData
  F_parting_from : Fun K "parting_from" "parting_from" s_parting_from a_parting_from fd_parting_from
  m_parting_from : mg "parting_from" = some (.ref a_parting_from)
  b_parting_from : Binds K fd_parting_from ["summary", "state", "other", "other_state"] []
  a_summary_in : Addr
  fd_summary_in : FuncData
  F_summary_in : Fun K "summary_in" "summary_in" s_summary_in a_summary_in fd_summary_in
  m_summary_in : mg "summary_in" = some (.ref a_summary_in)
  b_summary_in : Binds K fd_summary_in ["program"] []
  a_program_parting : Addr
  fd_program_parting : FuncData
  F_program_parting : Fun K "program_parting" "program_parting" s_program_parting a_program_parting fd_program_parting
  m_program_parting : mg "program_parting" = some (.ref a_program_parting)
  b_program_parting : Binds K fd_program_parting ["program", "other_program"] []
  a_summary_of_program : Addr
  fd_summary_of_program : FuncData
  F_summary_of_program : Fun K "summary_of_program" "summary_of_program" s_summary_of_program a_summary_of_program fd_summary_of_program
  m_summary_of_program : mg "summary_of_program" = some (.ref a_summary_of_program)
  b_summary_of_program : Binds K fd_summary_of_program ["program"] []
  a_law_told : Addr
  fd_law_told : FuncData
  F_law_told : Fun K "_law_told" "_law_told" s_law_told a_law_told fd_law_told
  m_law_told : mg "_law_told" = some (.ref a_law_told)
  b_law_told : Binds K fd_law_told ["which", "value"] []
  a_is_program : Addr
  fd_is_program : FuncData
  F_is_program : Fun K "is_program" "is_program" s_is_program a_is_program fd_is_program
  m_is_program : mg "is_program" = some (.ref a_is_program)
  b_is_program : Binds K fd_is_program ["value"] []
  a_law_right : Addr
  fd_law_right : FuncData
  F_law_right : Fun K "_law_right" "_law_right" s_law_right a_law_right fd_law_right
  m_law_right : mg "_law_right" = some (.ref a_law_right)
  b_law_right : Binds K fd_law_right ["well"] []
  a_law : Addr
  fd_law : FuncData
  F_law : Fun K "law" "law" s_law a_law fd_law
  m_law : mg "law" = some (.ref a_law)
  b_law : Binds K fd_law ["script"] []
  z_abs : mg "abs" = none
  z_all : mg "all" = none
  z_bool : mg "bool" = none
  z_enumerate : mg "enumerate" = none
  z_int : mg "int" = none
  z_isinstance : mg "isinstance" = none
  z_len : mg "len" = none
  z_list : mg "list" = none
  z_max : mg "max" = none
  z_min : mg "min" = none
  z_range : mg "range" = none
  z_repr : mg "repr" = none
  z_str : mg "str" = none
  z_tuple : mg "tuple" = none
  u_SET : Value
  m_SET : mg "SET" = some u_SET
  r_SET : RelV (.str "set") u_SET
  u_VALUE : Value
  m_VALUE : mg "VALUE" = some u_VALUE
  r_VALUE : RelV (.str "value") u_VALUE
  u_CELL : Value
  m_CELL : mg "CELL" = some u_CELL
  r_CELL : RelV (.str "cell") u_CELL
  u_IF : Value
  m_IF : mg "IF" = some u_IF
  r_IF : RelV (.str "if") u_IF
  a_OF_TWO : Addr
  m_OF_TWO : mg "OF_TWO" = some (.ref a_OF_TWO)
  tc_OF_TWO : tupSB K a_OF_TWO ["plus", "minus", "least", "greatest", "equal", "less"] = true
  a_InvalidProgram : Addr
  m_InvalidProgram : mg "InvalidProgram" = some (.ref a_InvalidProgram)
  a_ArriveError : Addr
  m_ArriveError : mg "ArriveError" = some (.ref a_ArriveError)
  O_InvalidProgram : OexC K a_InvalidProgram
  ai_InvalidProgram : Addr
  fdi_InvalidProgram : FuncData
  Fi_InvalidProgram : Fun K "__init__" "InvalidProgram.__init__" si_InvalidProgram ai_InvalidProgram fdi_InvalidProgram
  i_InvalidProgram : PySem.W.findIn K (.ref a_InvalidProgram) "__init__" = some (some (.ref ai_InvalidProgram))
  ti_InvalidProgram : PySem.W.typeIn K (.ref ai_InvalidProgram) = some (.type "function")
  bi_InvalidProgram : Binds K fdi_InvalidProgram ["self", "place"] []
  n_InvalidProgram : PySem.W.findIn K (.ref a_InvalidProgram) "place" = some none
  xf_InvalidProgram : XfC K a_InvalidProgram
  rd_ArriveError : PySem.W.readsIn K a_ArriveError (.type "type") = true
  sp_ArriveError : PySem.W.specialIn K (.ref a_ArriveError) "__getattribute__" = some (some (.builtin "type.__getattribute__"))
  vi_ArriveError : PySem.W.findCls K (.ref a_ArriveError) (.type "type") "__init__" = some (.val (.builtin "ValueError.__init__"))
  x_InvalidProgram_InvalidProgram : PySem.W.exmOne K (.ref a_InvalidProgram) (.ref a_InvalidProgram) = some true
  x_InvalidProgram_ArriveError : PySem.W.exmOne K (.ref a_InvalidProgram) (.ref a_ArriveError) = some true
section
variable {P : Program} {w : World} {K : PySem.W.Frag} {mg : Str → Option Value} {base : Heap}
theorem tabk_InvalidProgram (T : Txt K mg) : TabOk K mg (.ref T.a_InvalidProgram) tb_InvalidProgram := (tab_cons T.m_InvalidProgram T.x_InvalidProgram_InvalidProgram tab_nil)
theorem tabk_ArriveError (T : Txt K mg) : TabOk K mg (.ref T.a_ArriveError) tb_ArriveError := (tab_cons T.m_InvalidProgram T.x_InvalidProgram_ArriveError tab_nil)
theorem oki_InvalidProgram (T : Txt K mg) : FnG P w K mg base 1 T.ai_InvalidProgram T.fdi_InvalidProgram ["self", "place"] (spInit K T.a_InvalidProgram "place") := by
  refine FnG.of T.Fi_InvalidProgram sci_InvalidProgram (fun vs H Q E h => by obtain ⟨a, v, d, rfl, _⟩ := h; rfl) fun cdv A outer s H vs Q E hr hG hu tk h => ?_
  obtain ⟨a, v, d, rfl, TC, hno, ea, hd, hl, hsh, hz, hz2, hdp, q⟩ := h
  refine ⟨_, pss_cons (ps_expr (pe_cveinit (by rfl) T.m_ArriveError T.rd_ArriveError T.sp_ArriveError T.vi_ArriveError (pa_cons (pv 0) (pa_cons (pe_op op_add_str pe_str (pe_callTy (cr_str hG hu) (by rfl) T.z_str (by decide +kernel) (pa_cons (pv 1) pa_nil))) pa_nil)))) (pss_one (ps_ost (pv 0) (pv 1))), ?_⟩
  refine ⟨_, rfl, _, rfl, v, d, rfl, hd, hl, hsh, Nat.le_trans hz (szl (by decide)), hdp, _, _, rfl, rfl, Nat.le_trans (Nat.add_le_add_left hz2 _) (szl (by decide +kernel)), a, T.a_InvalidProgram, _, rfl, by show 1 ≤ 1000; decide, TC, ea, ?_⟩
  exact ⟨v, rfl, .ref a, rfl, a, T.a_InvalidProgram, rfl, TC, hno, .inl ⟨ea, fun dx n ne => q dx n ne⟩⟩
theorem kw_is_program_p0_value (T : Txt K mg) : KwOk T.fd_is_program ["value"] ["value"] 0 [0] := kw_of T.F_is_program fun _ _ _ _ _ _ us ws hu hw => match us, ws, hu, hw with | [], [_], _, _ => rfl
theorem kw_program_fault_p0_value (T : Txt K mg) : KwOk T.fd_program_fault ["value"] ["value"] 0 [0] := kw_of T.F_program_fault fun _ _ _ _ _ _ us ws hu hw => match us, ws, hu, hw with | [], [_], _, _ => rfl
theorem kw_summary_of_program_p0_program (T : Txt K mg) : KwOk T.fd_summary_of_program ["program"] ["program"] 0 [0] := kw_of T.F_summary_of_program fun _ _ _ _ _ _ us ws hu hw => match us, ws, hu, hw with | [], [_], _, _ => rfl
def f_law_well : List D → T D := fun _ => .fail
theorem ok_law_well (T : Txt K mg) : FnG P w K mg base 1 T.a_law_well T.fd_law_well ["script", "at"] (spWell K) := by
  refine FnG.of_ok (T.F_law_well.okX sc_law_well (fun vs H Q E h => by obtain ⟨a, ns, i, rfl, _⟩ := h; rfl) fun cdv A outer s H vs Q E hr h => ?_)
  obtain ⟨a, ns, i, rfl, hS, hlen, hbits, hi0, hi1, q⟩ := h
  have hl : (ns.map V.int).length ≤ 63 := by rw [List.length_map]; exact hlen
  refine ⟨_, pss_cons (ps_set (i := 2) sc_law_well.nd rfl (.inl rfl) (pe_op op_add (pe_op op_add (pe_op op_mulX pe_int (pv 1)) (pe_op op_mulX pe_int (pe_callB call_len_seq (by rfl) T.z_len (by decide +kernel) (pa_cons (pe_slice sl_list (pv 0) po_none (po_some pe_int)) pa_nil)))) pe_int))
    (pss_cons (ps_for (passes_of rfl) rfl (pi_list (pe_slice sl_list (pv 0) po_none (po_some pe_int))) (pg_name (i := 3) sc_law_well.nd rfl (.inl rfl))
      (pss_one (ps_set (i := 2) sc_law_well.nd rfl (.inl rfl) (pe_op op_mod (pe_callTy call_int1 (by rfl) T.z_int (by decide +kernel) (pa_cons (pe_op op_add (pe_op op_add (pe_op op_mulX (pv 2) pe_int) (pe_op op_mulX (pe_callTy call_int1 (by rfl) T.z_int (by decide +kernel) (pa_cons (pv 3) pa_nil)) pe_int)) pe_int) pa_nil)) (pe_op op_add (pe_op op_powI pe_int pe_int) pe_int)))))
    (pss_cons (ps_set (i := 4) sc_law_well.nd rfl (.inl rfl) (pe_ifExp (pt_cmpR op_lt (pv 1) (pe_callB call_len_seq (by rfl) T.z_len (by decide +kernel) (pa_cons (pv 0) pa_nil)) (nomark _)) (pe_callB call_abs (by rfl) T.z_abs (by decide +kernel) (pa_cons (pe_callTy call_int1 (by rfl) T.z_int (by decide +kernel) (pa_cons (pe_ix ix_list (pv 0) (pv 1) (fun _ _ => rfl)) pa_nil)) pa_nil)) pe_int))
    (pss_one (ps_ret (pe_lst (pa_cons (pe_callB (call_max2 rfl) (by rfl) T.z_max (by decide +kernel) (pa_cons pe_int (pa_cons (pe_op op_sub (pv 4) (pe_op op_powI pe_int pe_int)) pa_nil))) (pa_cons (pv 2) (pa_cons pe_int pa_nil)))))))), ?_⟩
  have c0 : (86243 : Int).natAbs < 2 ^ 17 := by decide
  have c1 : (1009 : Int).natAbs < 2 ^ 17 := by decide
  have d0 : i.natAbs < 2 ^ 6 := by omega
  have d1 : (((ns.map V.int).length : Nat) : Int).natAbs < 2 ^ 6 := by omega
  refine ⟨_, rfl, _, _, rfl, rfl, mul_ok c0 d0 (by decide) (by decide) (by decide), _, rfl, _, rfl, a, _, rfl, hS, fun c nc => ?_⟩
  rw [cut63 hl]
  have k1 := keep_upd (o := .lst (ns.map V.int)) nc
  refine ⟨_, _, rfl, .inl (.inl (.inl upd_same)), _, _, rfl, rfl, mul_ok c1 d1 (by decide) (by decide) (by decide), _, _, rfl, rfl, _, _, rfl, rfl, ?_⟩
  have h1 : SqL K (upd H c (.lst (ns.map V.int))) a (ns.map V.int) := SqL.keep k1 hS
  refine ⟨_, rfl, _, rfl, a, _, rfl, h1, fun c2 nc2 => ?_⟩
  rw [cut63 hl]
  have k2 := keep_upd (o := .lst (ns.map V.int)) nc2
  have h2 : SqL K (upd (upd H c (.lst (ns.map V.int))) c2 (.lst (ns.map V.int))) a (ns.map V.int) := SqL.keep k2 h1
  have kH : ∀ b o, H b = some o → (upd (upd H c (.lst (ns.map V.int))) c2 (.lst (ns.map V.int))) b = some o := fun b o h => k2 b o (k1 b o h)
  have hC : (upd (upd H c (.lst (ns.map V.int))) c2 (.lst (ns.map V.int))) c2 = some (.lst (ns.map V.int)) := upd_same
  revert h2 kH hC
  generalize upd (upd H c (.lst (ns.map V.int))) c2 (.lst (ns.map V.int)) = H2
  intro h2 kH hC
  have s0 : (86243 * i + 1009 * (((ns.map V.int).length : Nat) : Int) + 17).natAbs < 2 ^ 120 := lt_mono (a := 60) (by omega) (by decide)
  have jm : (0 : Int) < 10 ^ (29 : Int).toNat + 319 := by decide +kernel
  have km : ((10 : Int) ^ (29 : Int).toNat + 319).natAbs < 2 ^ 120 := by decide +kernel
  have p1 : PowOk 10 29 := pow_ok (i := 10) (a := 4) (e := 29) (by decide) (by decide) (by decide)
  have p2 : PowOk 10 17 := pow_ok (i := 10) (a := 4) (e := 17) (by decide) (by decide) (by decide)
  have m0 : (6700417 : Int).natAbs < 2 ^ 40 := by decide
  have m1 : (2147483647 : Int).natAbs < 2 ^ 40 := by decide
  refine ⟨_, rfl, ⟨_, SqL.of hC⟩, for_list (K := K) (a := c2) (xs := ns.map V.int) (fun k σ H3 => ∃ (sd : Int) (v3 : Option V), σ = [some (.ref a), some (.int i), some (.int sd), v3, none] ∧ sd.natAbs < 2 ^ 120 ∧ H3 = H2)
    ⟨_, none, rfl, s0, rfl⟩ (fun k σ H3 _ ⟨_, _, _, _, e⟩ => by rw [e]; exact SqL.of hC) ?_ ?_⟩
  · rintro k y σ H3 hk ⟨sd, v3, rfl, hsd, rfl⟩
    obtain ⟨z, hz, rfl⟩ : ∃ z, z ∈ ns ∧ y = V.int z := by
      rw [List.getElem?_map] at hk
      cases e : ns[k]? with
      | none => rw [e] at hk; cases hk
      | some z => rw [e] at hk; exact ⟨z, List.mem_of_getElem? e, (Option.some.inj hk).symm⟩
    have bz := lt_bits (hbits z hz)
    refine ⟨_, rfl, _, _, rfl, rfl, mul_ok hsd m0 (by decide) (by decide) (by decide), _, rfl, .inl ⟨_, rfl, _, _, rfl, rfl, mul_ok bz m1 (by decide) (by decide) (by decide), _, _, rfl, rfl, _, _, rfl, rfl, .inl ⟨_, rfl, _, _, rfl, rfl, p1, _, _, rfl, rfl, _, _, rfl, rfl, jm, ?_⟩⟩⟩
    exact ⟨_, _, rfl, mod_lt jm km, rfl⟩
  · rintro σ H3 ⟨sd, v3, rfl, hsd, rfl⟩
    -- the cell itself
    have fin : ∀ (ow : Int), ow.natAbs < 2 ^ 1048577 → ∀ p, H3 p = none → Q (.ref p) (upd H3 p (.lst [.int (if (ow - 10 ^ (17 : Int).toNat) > 0 then (ow - 10 ^ (17 : Int).toNat) else 0), .int sd, .int 0])) := fun ow how p np => by
      refine q _ p _ sd (fun b o h => keep_upd np b o (kH b o h)) ?_ upd_same ?_ ?_ (lt_mono hsd (by decide))
      · cases e : H p with
        | none => rfl
        | some o => rw [kH p o e] at np; cases np
      · split <;> omega
      · have h10 : ((10 : Int) ^ (17 : Int).toNat).natAbs < 2 ^ 60 := by decide +kernel
        have h11 : (0 : Int) < (10 : Int) ^ (17 : Int).toNat := by decide +kernel
        have big : (2 : Nat) ^ 1048577 ≤ 2 ^ 2000000 := Nat.pow_le_pow_right (by decide) (by decide)
        split
        · exact Nat.lt_of_lt_of_le (by omega : (ow - 10 ^ (17 : Int).toNat).natAbs < 2 ^ 1048577) big
        · exact Nat.pow_pos (by decide)
    refine ⟨_, rfl, _, rfl, a, _, rfl, .inl h2, _, _, rfl, rfl, _, rfl, ite2 (fun e => ?_) (fun e => ?_)⟩
    · have e1 : i < (((ns.map V.int).length : Nat) : Int) := of_decide_eq_true e
      have e2 : i.toNat < ns.length := by rw [List.length_map] at e1; omega
      obtain ⟨z, hz, e3⟩ : ∃ z, z ∈ ns ∧ (ns.map V.int)[i.toNat]? = some (.int z) := ⟨ns[i.toNat], List.getElem_mem e2, by rw [List.getElem?_map, List.getElem?_eq_getElem e2]; rfl⟩
      have bz := lt_bits (hbits _ hz)
      have ea : atI (ns.map V.int) i = some (.int z) := by
        have := atI_nat e3
        rwa [Int.toNat_of_nonneg hi0] at this
      refine ⟨_, rfl, _, rfl, a, _, i, .int z, rfl, rfl, h2, ea, .inl ⟨_, rfl, _, rfl, _, rfl, _, _, rfl, rfl, p2, _, _, rfl, rfl, _, _, rfl, _, rfl, by show 3 ≤ sizeLine; decide, fun p np => ?_⟩⟩
      refine fin _ ?_ p np
      exact lt_mono (a := 1048576) (by split <;> omega) (by decide)
    · exact ⟨_, rfl, _, _, rfl, rfl, p2, _, _, rfl, rfl, _, _, rfl, _, rfl, by show 3 ≤ sizeLine; decide, fun p np => fin 0 (Nat.pow_pos (by decide)) p np⟩

def f_law_take : List D → T D := fTake
theorem ok_law_take (T : Txt K mg) : FnG P w K mg base 1 T.a_law_take T.fd_law_take ["well", "many"] (spD K mg 2 f_law_take) := by
  refine FnG.of_ok (T.F_law_take.okX sc_law_take (fun vs H Q E h => h.1) fun cdv A outer s H vs Q E hr h => ?_)
  obtain ⟨hl, w', F, n, ds, b, r, q⟩ := h
  obtain ⟨m, x, y, z, rfl, hm0, hm1, hn, hw, hx0, hx1, hy, hz0, hz1, _, q⟩ := take_pre b r q
  have hA : SqL K H w' [V.int x, V.int y, V.int z] := SqL.of hw
  refine ⟨_, pss_cons (ps_if (pt_cmpR op_gt (pe_ix ix_list (pv 0) pe_int (fun _ _ => rfl)) pe_int (nomark _))
      (pss_cons (ps_set (i := 2) sc_law_take.nd rfl (.inl rfl) (pe_op op_mod (pe_callTy call_int1 (by rfl) T.z_int (by decide +kernel) (pa_cons (pe_ix ix_list (pv 0) pe_int (fun _ _ => rfl)) pa_nil)) (pv 1)))
      (pss_cons (ps_asg (pe_op op_fdivW (pe_ix ix_list (pv 0) pe_int (fun _ _ => rfl)) (pv 1)) (pg_sub (pv 0) pe_int set_list))
      (pss_one (ps_ret (pv 2))))) pss_nil)
    (pss_cons (ps_asg (pe_op op_add (pe_ix ix_list (pv 0) pe_int (fun _ _ => rfl)) pe_int) (pg_sub (pv 0) pe_int set_list))
    (pss_cons (ps_set (i := 3) sc_law_take.nd rfl (.inl rfl) (pe_op op_mod (pe_callTy call_int1 (by rfl) T.z_int (by decide +kernel) (pa_cons (pe_op op_add (pe_op op_add (pe_op op_powI (pe_op op_add (pe_ix ix_list (pv 0) pe_int (fun _ _ => rfl)) (pe_op op_mulW pe_int (pe_ix ix_list (pv 0) pe_int (fun _ _ => rfl)))) pe_int) (pe_op op_mulW pe_int (pe_ix ix_list (pv 0) pe_int (fun _ _ => rfl)))) pe_int) pa_nil)) (pe_op op_add (pe_op op_powI pe_int pe_int) pe_int)))
    (pss_cons (ps_set (i := 4) sc_law_take.nd rfl (.inl rfl) (pe_op op_mod (pe_callTy call_int1 (by rfl) T.z_int (by decide +kernel) (pa_cons (pe_op op_add (pe_op op_add (pe_op op_powI (pv 3) pe_int) (pe_op op_mulW pe_int (pe_ix ix_list (pv 0) pe_int (fun _ _ => rfl)))) (pe_ix ix_list (pv 0) pe_int (fun _ _ => rfl))) pa_nil)) (pe_op op_add (pe_op op_powI pe_int pe_int) pe_int)))
    (pss_one (ps_ret (pe_op op_mod (pe_callTy call_int1 (by rfl) T.z_int (by decide +kernel) (pa_cons (pe_op op_fdivW (pv 4) (pe_op op_powI pe_int pe_int)) pa_nil)) (pv 1))))))), ?_⟩
  refine ⟨_, rfl, w', _, 0, .int x, rfl, rfl, hA, atI_nat (j := 0) rfl, x, 0, rfl, rfl, _, rfl, ite2 (fun e => ?_) (fun e => ?_)⟩
  · have hx : 0 < x := of_decide_eq_true e
    refine ⟨_, rfl, w', _, 0, .int x, rfl, rfl, hA, atI_nat (j := 0) rfl, .inl ⟨x, rfl, .int m, rfl, x, m, rfl, rfl, hm0, ?_⟩⟩
    refine ⟨_, rfl, w', _, 0, .int x, rfl, rfl, hA, atI_nat (j := 0) rfl, .int m, rfl, x, m, rfl, rfl, wide_div hm0 hm1 (by decide) (by decide), ?_⟩
    refine ⟨_, rfl, w', _, 0, 0, rfl, rfl, hw, rfl, .int (x % m), rfl, ?_⟩
    have h1 := Int.emod_nonneg x (by omega : m ≠ 0)
    have h2 := Int.emod_lt_of_pos x hm0
    exact q (x % m) (x / m) z h1 h2 (Int.ediv_nonneg hx0 (by omega)) (Int.ediv_le_self m hx0) hz0 (by omega)
  · have hz : (z + 1).natAbs < 2 ^ 41 := by
      have : n < 1000000000000 := hn
      omega
    have hB : SqL K (upd H w' (.lst [.int x, .int y, .int (z + 1)])) w' [.int x, .int y, .int (z + 1)] := SqL.of upd_same
    have c0 : ((179424673 : Int)).natAbs < 2 ^ 28 := by decide
    have c1 : ((32452843 : Int)).natAbs < 2 ^ 28 := by decide
    have c2 : ((15485867 : Int)).natAbs < 2 ^ 28 := by decide
    have a0 := add_lt hy (wide_lt c0 hz) (by decide)
    have p0 : PowOk (y + 179424673 * (z + 1)) 3 := pow_ok (e := 3) a0 (by decide) (by decide)
    have p1 : PowOk 10 28 := pow_ok (i := 10) (a := 4) (e := 28) (by decide) (by decide) (by decide)
    have p2 : PowOk 10 26 := pow_ok (i := 10) (a := 4) (e := 26) (by decide) (by decide) (by decide)
    have p3 : PowOk 10 8 := pow_ok (i := 10) (a := 4) (e := 8) (by decide) (by decide) (by decide)
    have j1 : (0 : Int) < 10 ^ (28 : Int).toNat + 331 := by decide +kernel
    have k1 : ((10 : Int) ^ (28 : Int).toNat + 331).natAbs < 2 ^ 110 := by decide +kernel
    have j2 : (0 : Int) < 10 ^ (26 : Int).toNat + 67 := by decide +kernel
    have d3 : CDivW 0 (10 ^ (8 : Int).toNat) := wide_div (b := 40) (by decide +kernel) (by decide +kernel) (by decide) (by decide)
    refine ⟨_, rfl, w', _, 2, .int z, rfl, rfl, hA, atI_nat (j := 2) rfl, z, 1, rfl, rfl, _, rfl, w', _, 2, 2, rfl, rfl, hw, rfl, ?_⟩
    refine ⟨_, rfl, w', _, 1, .int y, rfl, rfl, hB, atI_nat (j := 1) rfl, _, rfl, w', _, 2, .int (z + 1), rfl, rfl, hB, atI_nat (j := 2) rfl, _, _, rfl, rfl, wide_mul c0 hz (by decide) (by decide) (by decide), _, _, rfl, rfl, _, _, rfl, rfl, p0, _, rfl, w', _, 2, .int (z + 1), rfl, rfl, hB, atI_nat (j := 2) rfl, _, _, rfl, rfl, wide_mul c1 hz (by decide) (by decide) (by decide), _, _, rfl, rfl, _, _, rfl, rfl, .inl ⟨_, rfl, _, _, rfl, rfl, p1, _, _, rfl, rfl, _, _, rfl, rfl, j1, ?_⟩⟩
    have p4 : PowOk (((y + 179424673 * (z + 1)) ^ (3 : Int).toNat + 32452843 * (z + 1) + 7) % (10 ^ (28 : Int).toNat + 331)) 2 := pow_ok (e := 2) (mod_lt j1 k1) (by decide) (by decide)
    refine ⟨_, rfl, _, _, rfl, rfl, p4, _, rfl, w', _, 2, .int (z + 1), rfl, rfl, hB, atI_nat (j := 2) rfl, _, _, rfl, rfl, wide_mul c2 hz (by decide) (by decide) (by decide), _, _, rfl, rfl, _, rfl, w', _, 1, .int y, rfl, rfl, hB, atI_nat (j := 1) rfl, _, _, rfl, rfl, .inl ⟨_, rfl, _, _, rfl, rfl, p2, _, _, rfl, rfl, _, _, rfl, rfl, j2, ?_⟩⟩
    refine ⟨_, rfl, _, _, rfl, rfl, p3, _, _, rfl, rfl, d3, .inl ⟨_, rfl, .int m, rfl, _, _, rfl, rfl, hm0, ?_⟩⟩
    exact q _ x (z + 1) (Int.emod_nonneg _ (by omega)) (Int.emod_lt_of_pos _ hm0) hx0 (Int.le_refl _) (by omega) (Int.le_refl _)

def g_law_choose : DEnv → T Fl :=
  (gRet (dIx (dSqV 1) (dCall 2 f_law_take (dCons (dV 0) (dCons (dLen (dSqV 1)) dNil)))))
def f_law_choose : List D → T D := bodyT 2 g_law_choose
theorem ok_law_choose (T : Txt K mg) : FnG P w K mg base 2 T.a_law_choose T.fd_law_choose ["well", "things"] (spD K mg 2 f_law_choose) :=
  FnG.of_body T.F_law_choose sc_law_choose g_law_choose 2 2 rfl rfl fun cdv A outer s H E hr hG hu tk =>
  (dss_one (ds_ret (de_ix (dq_var 1 (pv 1)) (de_call (ok_law_take T) (hr.mono (by decide)) hG tk (by rfl) T.m_law_take T.F_law_take.kp T.b_law_take (da_cons (de_var 0 (pv 0)) (da_cons (de_len (by rfl) T.z_len (dq_var 1 (pv 1))) da_nil))))))
def g_law_bent_part (r_law_bent_part : List D → T D) : DEnv → T Fl :=
  (gSeq (gIf (dTAnd (dT (dIsi "tuple" (dV 1))) (dTAnd (dT (dB opNe (dV 1) (dTup dNil))) (dT (dB opGt (dCall 2 f_law_take (dCons (dV 0) (dCons (dC (.int 4)) dNil))) (dC (.int 0))))))
  (gSeq (gSet 2 (dCall 2 f_law_take (dCons (dV 0) (dCons (dLen (dSqV 1)) dNil))))
  (gRet (dB opAdd (dB opAdd (dSlT (dSqV 1) dNoP (dP (dV 2))) (dTup (dCons (dCall 2 r_law_bent_part (dCons (dV 0) (dCons (dIx (dSqV 1) (dV 2)) dNil))) dNil))) (dSlT (dSqV 1) (dP (dB opAdd (dV 2) (dC (.int 1)))) dNoP))))
  gNil)
  (gSeq (gIf (dTAnd (dT (dIsi "tuple" (dV 1))) (dT (dB opEq (dCall 2 f_law_take (dCons (dV 0) (dCons (dC (.int 2)) dNil))) (dC (.int 0)))))
  (gRet (dCall 2 f_law_choose (dCons (dV 0) (dCons (dFz (dLst (dCons (dB opAdd (dV 1) (dTup (dCons (dC (.int 0)) dNil))) (dCons (dSlT (dSqV 1) dNoP (dP (dNeg (dC (.int 1))))) (dCons (dFz (dListOf (dSqV 1))) (dCons (dB opAdd (dV 1) (dV 1)) dNil)))))) dNil))))
  gNil)
  (gRet (dCall 2 f_law_choose (dCons (dV 0) (dCons (dFz (dLst (dCons (dC .non) (dCons (dNeg (dC (.int 1))) (dCons (dC (.int 0)) (dCons (dC (.int 1)) (dCons (dC (.int 3)) (dCons (dC (.bl true)) (dCons (dC (.str "set")) (dCons (dC (.str "if")) (dCons (dC (.str "cell")) (dCons (dC (.str "value")) (dCons (dC (.str "plus")) (dCons (dC (.str "last")) (dCons (dTup dNil) (dCons (dTup (dCons (dC (.str "value")) (dCons (dC (.int 0)) dNil))) (dCons (dTup (dCons (dC (.str "cell")) (dCons (dC (.int 0)) dNil))) (dCons (dTup (dCons (dC (.str "cell")) (dCons (dC (.int 3)) dNil))) (dCons (dTup (dCons (dTup (dCons (dC (.str "set")) (dCons (dC (.int 0)) (dCons (dTup (dCons (dC (.str "value")) (dCons (dC (.int 1)) dNil))) dNil)))) dNil)) dNil))))))))))))))))))) dNil))))))
def f_law_bent_part : Nat → List D → T D
  | 0 => fun _ => .fail
  | n + 1 => bodyT 3 (g_law_bent_part (f_law_bent_part n))
theorem okr_law_bent_part (T : Txt K mg) : ∀ n, FnG P w K mg base (3 + n) T.a_law_bent_part T.fd_law_bent_part ["well", "thing"] (spD K mg 2 (f_law_bent_part n))
  | 0 => FnG.never fun _ => rfl
  | n + 1 => have ih := okr_law_bent_part T n
  (FnG.of_body (k := 3 + n) T.F_law_bent_part sc_law_bent_part (g_law_bent_part (f_law_bent_part n)) 3 2 rfl rfl fun cdv A outer s H E hr hG hu tk =>
  (dss_cons (ds_if (dt_w (dw_and (dt_of (de_isi (Ts := "tuple") (by rfl) T.z_isinstance (by rfl) T.z_tuple (by decide +kernel) (by decide) (by decide) (by decide +kernel) (de_var 1 (pv 1)))) (dw_and (dt_cmp (or_ne (by exact Nat.lt_of_le_of_lt (Nat.add_le_add_left (by decide) _) hu)) ok_ne (de_var 1 (pv 1)) (de_tup da_nil) (nomark _)) (dw_and1 (dt_cmp op_gt ok_gt (de_call (ok_law_take T) (hr.mono (by omega)) hG tk (by rfl) T.m_law_take T.F_law_take.kp T.b_law_take (da_cons (de_var 0 (pv 0)) (da_cons de_int da_nil))) de_int (nomark _))))))
  (dss_cons (ds_set (i := 2) sc_law_bent_part.nd rfl (by first | exact .inl rfl | exact .inr rfl) (de_call (ok_law_take T) (hr.mono (by omega)) hG tk (by rfl) T.m_law_take T.F_law_take.kp T.b_law_take (da_cons (de_var 0 (pv 0)) (da_cons (de_len (by rfl) T.z_len (dq_var 1 (pv 1))) da_nil))))
  (dss_one (ds_ret (de_bin or_add ok_add (de_bin or_add ok_add (de_slT (dq_var 1 (pv 1)) do_none (do_some (de_var 2 (pv 2)))) (de_tup (da_cons (de_call (ih) (hr.mono (by omega)) hG tk (by rfl) T.m_law_bent_part T.F_law_bent_part.kp T.b_law_bent_part (da_cons (de_var 0 (pv 0)) (da_cons (de_ix (dq_var 1 (pv 1)) (de_var 2 (pv 2))) da_nil))) da_nil))) (de_slT (dq_var 1 (pv 1)) (do_some (de_bin or_add ok_add (de_var 2 (pv 2)) de_int)) do_none)))))
  dss_nil)
  (dss_cons (ds_if (dt_w (dw_and (dt_of (de_isi (Ts := "tuple") (by rfl) T.z_isinstance (by rfl) T.z_tuple (by decide +kernel) (by decide) (by decide) (by decide +kernel) (de_var 1 (pv 1)))) (dw_and1 (dt_cmp (or_eq (by exact Nat.lt_of_le_of_lt (Nat.add_le_add_left (by decide) _) hu)) ok_eq (de_call (ok_law_take T) (hr.mono (by omega)) hG tk (by rfl) T.m_law_take T.F_law_take.kp T.b_law_take (da_cons (de_var 0 (pv 0)) (da_cons de_int da_nil))) de_int (nomark _)))))
  (dss_one (ds_ret (de_call (ok_law_choose T) (hr.mono (by omega)) hG tk (by rfl) T.m_law_choose T.F_law_choose.kp T.b_law_choose (da_cons (de_var 0 (pv 0)) (da_cons (de_fz (dn_lst (da_cons (de_bin or_add ok_add (de_var 1 (pv 1)) (de_tup (da_cons de_int da_nil))) (da_cons (de_slT (dq_var 1 (pv 1)) do_none (do_some (de_neg de_int))) (da_cons (de_fz (dn_listOf (by rfl) T.z_list (dq_var 1 (pv 1)))) (da_cons (de_bin or_add ok_add (de_var 1 (pv 1)) (de_var 1 (pv 1))) da_nil)))))) da_nil)))))
  dss_nil)
  (dss_one (ds_ret (de_call (ok_law_choose T) (hr.mono (by omega)) hG tk (by rfl) T.m_law_choose T.F_law_choose.kp T.b_law_choose (da_cons (de_var 0 (pv 0)) (da_cons (de_fz (dn_lst (da_cons de_non (da_cons (de_neg de_int) (da_cons de_int (da_cons de_int (da_cons de_int (da_cons de_bl (da_cons de_str (da_cons de_str (da_cons de_str (da_cons de_str (da_cons de_str (da_cons de_str (da_cons (de_tup da_nil) (da_cons (de_tup (da_cons de_str (da_cons de_int da_nil))) (da_cons (de_tup (da_cons de_str (da_cons de_int da_nil))) (da_cons (de_tup (da_cons de_str (da_cons de_int da_nil))) (da_cons (de_tup (da_cons (de_tup (da_cons de_str (da_cons de_int (da_cons (de_tup (da_cons de_str (da_cons de_int da_nil))) da_nil)))) da_nil)) da_nil))))))))))))))))))) da_nil))))))))
def g_law_equal : DEnv → T Fl :=
  (gRet (dB opEq (dRepr (dV 0)) (dRepr (dV 1))))
def f_law_equal : List D → T D := bodyT 2 g_law_equal
theorem ok_law_equal (T : Txt K mg) : FnG P w K mg base 1 T.a_law_equal T.fd_law_equal ["told", "due"] (spD K mg 2 f_law_equal) :=
  FnG.of_body T.F_law_equal sc_law_equal g_law_equal 2 2 rfl rfl fun cdv A outer s H E hr hG hu tk =>
  (dss_one (ds_ret (de_cmp (or_eq (by exact Nat.lt_of_le_of_lt (Nat.add_le_add_left (by decide) _) hu)) ok_eq (de_repr hG hu (by rfl) T.z_repr (de_var 0 (pv 0))) (de_repr hG hu (by rfl) T.z_repr (de_var 1 (pv 1))) (nomark _))))
def g_law_whole : DEnv → T Fl :=
  (gRet (dAnd (dIsi "int" (dV 0)) (dAnd (dNot (dIsi "bool" (dV 0))) (dB opGe (dV 0) (dV 1)))))
def f_law_whole : List D → T D := bodyT 2 g_law_whole
theorem ok_law_whole (T : Txt K mg) : FnG P w K mg base 1 T.a_law_whole T.fd_law_whole ["thing", "low"] (spD K mg 2 f_law_whole) :=
  FnG.of_body T.F_law_whole sc_law_whole g_law_whole 2 2 rfl rfl fun cdv A outer s H E hr hG hu tk =>
  (dss_one (ds_ret (de_and (de_isi (Ts := "int") (by rfl) T.z_isinstance (by rfl) T.z_int (by decide +kernel) (by decide) (by decide) (by decide +kernel) (de_var 0 (pv 0))) (de_and (de_not (de_isi (Ts := "bool") (by rfl) T.z_isinstance (by rfl) T.z_bool (by decide +kernel) (by decide) (by decide) (by decide +kernel) (de_var 0 (pv 0)))) (de_one (de_cmp op_ge ok_ge (de_var 0 (pv 0)) (de_var 1 (pv 1)) (nomark _)))))))
def g_law_is_expression (r_law_is_expression : List D → T D) : DEnv → T Fl :=
  (gSeq (gIf (dTOr (dTNot (dT (dIsi "tuple" (dV 1)))) (dTOr (dT (dIn not (dLen (dSqV 1)) (dSq (dTup (dCons (dC (.int 2)) (dCons (dC (.int 3)) dNil)))))) (dTNot (dT (dIsi "str" (dIx (dSqV 1) (dC (.int 0))))))))
  (gRet (dC (.bl false)))
  gNil)
  (gSeq (gIf (dT (dB opEq (dLen (dSqV 1)) (dC (.int 2))))
  (gRet (dOr (dAnd (dB opEq (dIx (dSqV 1) (dC (.int 0))) (dC (.str "value"))) (dCall 2 f_law_whole (dCons (dIx (dSqV 1) (dC (.int 1))) (dCons (dC (.int 0)) dNil)))) (dAnd (dB opEq (dIx (dSqV 1) (dC (.int 0))) (dC (.str "cell"))) (dAnd (dCall 2 f_law_whole (dCons (dIx (dSqV 1) (dC (.int 1))) (dCons (dC (.int 0)) dNil))) (dB opLt (dIx (dSqV 1) (dC (.int 1))) (dV 0))))))
  gNil)
  (gSeq (gIf (dT (dIn not (dIx (dSqV 1) (dC (.int 0))) (dSqN (dLst (dCons (dC (.str "plus")) (dCons (dC (.str "minus")) (dCons (dC (.str "least")) (dCons (dC (.str "greatest")) (dCons (dC (.str "equal")) (dCons (dC (.str "less")) dNil))))))))))
  (gRet (dC (.bl false)))
  gNil)
  (gRet (dAnd (dCall 2 r_law_is_expression (dCons (dV 0) (dCons (dIx (dSqV 1) (dC (.int 1))) dNil))) (dCall 2 r_law_is_expression (dCons (dV 0) (dCons (dIx (dSqV 1) (dC (.int 2))) dNil))))))))
def f_law_is_expression : Nat → List D → T D
  | 0 => fun _ => .fail
  | n + 1 => bodyT 2 (g_law_is_expression (f_law_is_expression n))
theorem okr_law_is_expression (T : Txt K mg) : ∀ n, FnG P w K mg base (2 + n) T.a_law_is_expression T.fd_law_is_expression ["cells", "thing"] (spD K mg 2 (f_law_is_expression n))
  | 0 => FnG.never fun _ => rfl
  | n + 1 => have ih := okr_law_is_expression T n
  (FnG.of_body (k := 2 + n) T.F_law_is_expression sc_law_is_expression (g_law_is_expression (f_law_is_expression n)) 2 2 rfl rfl fun cdv A outer s H E hr hG hu tk =>
  (dss_cons (ds_if (dt_w (dw_or (dt_not (dt_of (de_isi (Ts := "tuple") (by rfl) T.z_isinstance (by rfl) T.z_tuple (by decide +kernel) (by decide) (by decide) (by decide +kernel) (de_var 1 (pv 1))))) (dw_or (dt_in (or_notin (by exact Nat.lt_of_le_of_lt (Nat.add_le_add_left (by decide) _) hu)) (rfl) (de_len (by rfl) T.z_len (dq_var 1 (pv 1))) (dq_of (de_tup (da_cons de_int (da_cons de_int da_nil))))) (dw_or1 (dt_not (dt_of (de_isi (Ts := "str") (by rfl) T.z_isinstance (by rfl) T.z_str (by decide +kernel) (by decide) (by decide) (by decide +kernel) (de_ix (dq_var 1 (pv 1)) de_int))))))))
  (dss_one (ds_ret de_bl))
  dss_nil)
  (dss_cons (ds_if (dt_cmp (or_eq (by exact Nat.lt_of_le_of_lt (Nat.add_le_add_left (by decide) _) hu)) ok_eq (de_len (by rfl) T.z_len (dq_var 1 (pv 1))) de_int (nomark _))
  (dss_one (ds_ret (de_or (de_and (de_cmp (or_eq (by exact Nat.lt_of_le_of_lt (Nat.add_le_add_left (by decide) _) hu)) ok_eq (de_ix (dq_var 1 (pv 1)) de_int) de_str (nomark _)) (de_one (de_call (ok_law_whole T) (hr.mono (by omega)) hG tk (by rfl) T.m_law_whole T.F_law_whole.kp T.b_law_whole (da_cons (de_ix (dq_var 1 (pv 1)) de_int) (da_cons de_int da_nil))))) (de_one (de_and (de_cmp (or_eq (by exact Nat.lt_of_le_of_lt (Nat.add_le_add_left (by decide) _) hu)) ok_eq (de_ix (dq_var 1 (pv 1)) de_int) de_str (nomark _)) (de_and (de_call (ok_law_whole T) (hr.mono (by omega)) hG tk (by rfl) T.m_law_whole T.F_law_whole.kp T.b_law_whole (da_cons (de_ix (dq_var 1 (pv 1)) de_int) (da_cons de_int da_nil))) (de_one (de_cmp op_lt ok_lt (de_ix (dq_var 1 (pv 1)) de_int) (de_var 0 (pv 0)) (nomark _)))))))))
  dss_nil)
  (dss_cons (ds_if (dt_in (or_notin (by exact Nat.lt_of_le_of_lt (Nat.add_le_add_left (by decide) _) hu)) (rfl) (de_ix (dq_var 1 (pv 1)) de_int) (dq_new (dn_lst (da_cons de_str (da_cons de_str (da_cons de_str (da_cons de_str (da_cons de_str (da_cons de_str da_nil)))))))))
  (dss_one (ds_ret de_bl))
  dss_nil)
  (dss_one (ds_ret (de_and (de_call (ih) (hr.mono (by omega)) hG tk (by rfl) T.m_law_is_expression T.F_law_is_expression.kp T.b_law_is_expression (da_cons (de_var 0 (pv 0)) (da_cons (de_ix (dq_var 1 (pv 1)) de_int) da_nil))) (de_one (de_call (ih) (hr.mono (by omega)) hG tk (by rfl) T.m_law_is_expression T.F_law_is_expression.kp T.b_law_is_expression (da_cons (de_var 0 (pv 0)) (da_cons (de_ix (dq_var 1 (pv 1)) de_int) da_nil)))))))))))
def g_law_are_statements (r_law_are_statements : List D → T D) : DEnv → T Fl :=
  (gSeq (gIf (dTNot (dT (dIsi "tuple" (dV 1))))
  (gRet (dC (.bl false)))
  gNil)
  (gSeq (gFor (dItems (dSq (dV 1))) (bName 2)
  (gSeq (gIf (dTOr (dTNot (dT (dIsi "tuple" (dV 2)))) (dTOr (dT (dIn not (dLen (dSqV 2)) (dSq (dTup (dCons (dC (.int 3)) (dCons (dC (.int 4)) dNil)))))) (dTNot (dT (dIsi "str" (dIx (dSqV 2) (dC (.int 0))))))))
  (gRet (dC (.bl false)))
  gNil)
  (gSeq (gIf (dTAnd (dT (dB opEq (dLen (dSqV 2)) (dC (.int 3)))) (dTOr (dT (dB opNe (dIx (dSqV 2) (dC (.int 0))) (dC (.str "set")))) (dTOr (dTNot (dT (dCall 2 f_law_whole (dCons (dIx (dSqV 2) (dC (.int 1))) (dCons (dC (.int 0)) dNil))))) (dTOr (dT (dB opGe (dIx (dSqV 2) (dC (.int 1))) (dV 0))) (dTNot (dT (dCall 2 (f_law_is_expression 24) (dCons (dV 0) (dCons (dIx (dSqV 2) (dC (.int 2))) dNil)))))))))
  (gRet (dC (.bl false)))
  gNil)
  (gSeq (gIf (dTAnd (dT (dB opEq (dLen (dSqV 2)) (dC (.int 4)))) (dTOr (dT (dB opNe (dIx (dSqV 2) (dC (.int 0))) (dC (.str "if")))) (dTNot (dT (dCall 2 (f_law_is_expression 24) (dCons (dV 0) (dCons (dIx (dSqV 2) (dC (.int 1))) dNil)))))))
  (gRet (dC (.bl false)))
  gNil)
  (gIf (dTAnd (dT (dB opEq (dLen (dSqV 2)) (dC (.int 4)))) (dTNot (dTAnd (dT (dCall 2 r_law_are_statements (dCons (dV 0) (dCons (dIx (dSqV 2) (dC (.int 2))) dNil)))) (dT (dCall 2 r_law_are_statements (dCons (dV 0) (dCons (dIx (dSqV 2) (dC (.int 3))) dNil)))))))
  (gRet (dC (.bl false)))
  gNil)))))
  (gRet (dC (.bl true)))))
def f_law_are_statements : Nat → List D → T D
  | 0 => fun _ => .fail
  | n + 1 => bodyT 3 (g_law_are_statements (f_law_are_statements n))
theorem okr_law_are_statements (T : Txt K mg) : ∀ n, FnG P w K mg base (27 + n) T.a_law_are_statements T.fd_law_are_statements ["cells", "thing"] (spD K mg 2 (f_law_are_statements n))
  | 0 => FnG.never fun _ => rfl
  | n + 1 => have ih := okr_law_are_statements T n
  (FnG.of_body (k := 27 + n) T.F_law_are_statements sc_law_are_statements (g_law_are_statements (f_law_are_statements n)) 3 2 rfl rfl fun cdv A outer s H E hr hG hu tk =>
  (dss_cons (ds_if (dt_not (dt_of (de_isi (Ts := "tuple") (by rfl) T.z_isinstance (by rfl) T.z_tuple (by decide +kernel) (by decide) (by decide) (by decide +kernel) (de_var 1 (pv 1)))))
  (dss_one (ds_ret de_bl))
  dss_nil)
  (dss_cons (ds_for (passes_of rfl) rfl (di_seq (dQ_fz (de_var 1 (pv 1)))) (dg_name (i := 2) sc_law_are_statements.nd rfl (by first | exact .inl rfl | exact .inr rfl))
  (dss_cons (ds_if (dt_w (dw_or (dt_not (dt_of (de_isi (Ts := "tuple") (by rfl) T.z_isinstance (by rfl) T.z_tuple (by decide +kernel) (by decide) (by decide) (by decide +kernel) (de_var 2 (pv 2))))) (dw_or (dt_in (or_notin (by exact Nat.lt_of_le_of_lt (Nat.add_le_add_left (by decide) _) hu)) (rfl) (de_len (by rfl) T.z_len (dq_var 2 (pv 2))) (dq_of (de_tup (da_cons de_int (da_cons de_int da_nil))))) (dw_or1 (dt_not (dt_of (de_isi (Ts := "str") (by rfl) T.z_isinstance (by rfl) T.z_str (by decide +kernel) (by decide) (by decide) (by decide +kernel) (de_ix (dq_var 2 (pv 2)) de_int))))))))
  (dss_one (ds_ret de_bl))
  dss_nil)
  (dss_cons (ds_if (dt_w (dw_and (dt_cmp (or_eq (by exact Nat.lt_of_le_of_lt (Nat.add_le_add_left (by decide) _) hu)) ok_eq (de_len (by rfl) T.z_len (dq_var 2 (pv 2))) de_int (nomark _)) (dw_and1 (dt_w (dw_or (dt_cmp (or_ne (by exact Nat.lt_of_le_of_lt (Nat.add_le_add_left (by decide) _) hu)) ok_ne (de_ix (dq_var 2 (pv 2)) de_int) de_str (nomark _)) (dw_or (dt_not (dt_of (de_call (ok_law_whole T) (hr.mono (by omega)) hG tk (by rfl) T.m_law_whole T.F_law_whole.kp T.b_law_whole (da_cons (de_ix (dq_var 2 (pv 2)) de_int) (da_cons de_int da_nil))))) (dw_or (dt_cmp op_ge ok_ge (de_ix (dq_var 2 (pv 2)) de_int) (de_var 0 (pv 0)) (nomark _)) (dw_or1 (dt_not (dt_of (de_call ((okr_law_is_expression T 24)) (hr.mono (by omega)) hG tk (by rfl) T.m_law_is_expression T.F_law_is_expression.kp T.b_law_is_expression (da_cons (de_var 0 (pv 0)) (da_cons (de_ix (dq_var 2 (pv 2)) de_int) da_nil)))))))))))))
  (dss_one (ds_ret de_bl))
  dss_nil)
  (dss_cons (ds_if (dt_w (dw_and (dt_cmp (or_eq (by exact Nat.lt_of_le_of_lt (Nat.add_le_add_left (by decide) _) hu)) ok_eq (de_len (by rfl) T.z_len (dq_var 2 (pv 2))) de_int (nomark _)) (dw_and1 (dt_w (dw_or (dt_cmp (or_ne (by exact Nat.lt_of_le_of_lt (Nat.add_le_add_left (by decide) _) hu)) ok_ne (de_ix (dq_var 2 (pv 2)) de_int) de_str (nomark _)) (dw_or1 (dt_not (dt_of (de_call ((okr_law_is_expression T 24)) (hr.mono (by omega)) hG tk (by rfl) T.m_law_is_expression T.F_law_is_expression.kp T.b_law_is_expression (da_cons (de_var 0 (pv 0)) (da_cons (de_ix (dq_var 2 (pv 2)) de_int) da_nil)))))))))))
  (dss_one (ds_ret de_bl))
  dss_nil)
  (dss_one (ds_if (dt_w (dw_and (dt_cmp (or_eq (by exact Nat.lt_of_le_of_lt (Nat.add_le_add_left (by decide) _) hu)) ok_eq (de_len (by rfl) T.z_len (dq_var 2 (pv 2))) de_int (nomark _)) (dw_and1 (dt_not (dt_w (dw_and (dt_of (de_call (ih) (hr.mono (by omega)) hG tk (by rfl) T.m_law_are_statements T.F_law_are_statements.kp T.b_law_are_statements (da_cons (de_var 0 (pv 0)) (da_cons (de_ix (dq_var 2 (pv 2)) de_int) da_nil)))) (dw_and1 (dt_of (de_call (ih) (hr.mono (by omega)) hG tk (by rfl) T.m_law_are_statements T.F_law_are_statements.kp T.b_law_are_statements (da_cons (de_var 0 (pv 0)) (da_cons (de_ix (dq_var 2 (pv 2)) de_int) da_nil)))))))))))
  (dss_one (ds_ret de_bl))
  dss_nil))))))
  (dss_one (ds_ret de_bl)))))
def g_law_fault : DEnv → T Fl :=
  (gSeq (gIf (dTOr (dTNot (dT (dIsi "tuple" (dV 0)))) (dT (dB opNe (dLen (dSqV 0)) (dC (.int 4)))))
  (gRet (dTup dNil))
  gNil)
  (gSeq (gIf (dTNot (dT (dCall 2 f_law_whole (dCons (dIx (dSqV 0) (dC (.int 0))) (dCons (dC (.int 1)) dNil)))))
  (gRet (dTup (dCons (dC (.int 0)) dNil)))
  gNil)
  (gSeq (gIf (dTOr (dTNot (dT (dIsi "tuple" (dIx (dSqV 0) (dC (.int 1)))))) (dT (dB opNe (dFz (dLc (dItems (dSq (dIx (dSqV 0) (dC (.int 1))))) (bName 1) (dTNot (dT (dCall 2 f_law_whole (dCons (dV 1) (dCons (dC (.int 1)) dNil))))) (dV 1) [1])) (dFz (dLst dNil)))))
  (gRet (dTup (dCons (dC (.int 1)) dNil)))
  gNil)
  (gSeq (gIf (dTOr (dTNot (dT (dIsi "tuple" (dIx (dSqV 0) (dC (.int 2)))))) (dT (dB opNe (dLen (dSq (dIx (dSqV 0) (dC (.int 2))))) (dIx (dSqV 0) (dC (.int 0))))))
  (gRet (dTup (dCons (dC (.int 2)) dNil)))
  gNil)
  (gSeq (gFor (dRange1 (dIx (dSqV 0) (dC (.int 0)))) (bName 2)
  (gIf (dTNot (dT (dCall 2 (f_law_are_statements 24) (dCons (dLen (dSq (dIx (dSqV 0) (dC (.int 1))))) (dCons (dIx (dSq (dIx (dSqV 0) (dC (.int 2)))) (dV 2)) dNil)))))
  (gRet (dTup (dCons (dC (.int 2)) (dCons (dV 2) dNil))))
  gNil))
  (gRet (dIf (dT (dCall 2 (f_law_is_expression 24) (dCons (dLen (dSq (dIx (dSqV 0) (dC (.int 1))))) (dCons (dIx (dSqV 0) (dC (.int 3))) dNil)))) (dC .non) (dTup (dCons (dC (.int 3)) dNil)))))))))
def f_law_fault : List D → T D := bodyT 3 g_law_fault
theorem ok_law_fault (T : Txt K mg) : FnG P w K mg base 52 T.a_law_fault T.fd_law_fault ["value"] (spD K mg 1 f_law_fault) :=
  FnG.of_body T.F_law_fault sc_law_fault g_law_fault 3 1 rfl rfl fun cdv A outer s H E hr hG hu tk =>
  (dss_cons (ds_if (dt_w (dw_or (dt_not (dt_of (de_isi (Ts := "tuple") (by rfl) T.z_isinstance (by rfl) T.z_tuple (by decide +kernel) (by decide) (by decide) (by decide +kernel) (de_var 0 (pv 0))))) (dw_or1 (dt_cmp (or_ne (by exact Nat.lt_of_le_of_lt (Nat.add_le_add_left (by decide) _) hu)) ok_ne (de_len (by rfl) T.z_len (dq_var 0 (pv 0))) de_int (nomark _)))))
  (dss_one (ds_ret (de_tup da_nil)))
  dss_nil)
  (dss_cons (ds_if (dt_not (dt_of (de_call (ok_law_whole T) (hr.mono (by decide)) hG tk (by rfl) T.m_law_whole T.F_law_whole.kp T.b_law_whole (da_cons (de_ix (dq_var 0 (pv 0)) de_int) (da_cons de_int da_nil)))))
  (dss_one (ds_ret (de_tup (da_cons de_int da_nil))))
  dss_nil)
  (dss_cons (ds_if (dt_w (dw_or (dt_not (dt_of (de_isi (Ts := "tuple") (by rfl) T.z_isinstance (by rfl) T.z_tuple (by decide +kernel) (by decide) (by decide) (by decide +kernel) (de_ix (dq_var 0 (pv 0)) de_int)))) (dw_or1 (dt_cmp (or_ne (by exact Nat.lt_of_le_of_lt (Nat.add_le_add_left (by decide) _) hu)) ok_ne (de_fz (dn_lc (own := [("one", 1)]) rfl sc_law_fault.nd (di_seq (dQ_all (dq_of (de_ix (dq_var 0 (pv 0)) de_int)))) (blkOk_by (own := [("one", 1)]) rfl) (by decide) (fun _ _ _ _ _ => (dg_name (i := 1) sc_law_fault.nd rfl (by first | exact .inl rfl | exact .inr rfl))) (fun _ _ _ _ _ => (dts_one (dt_not (dt_of (de_call (ok_law_whole T) (hr.mono (by decide)) hG takes0 (by rfl) T.m_law_whole T.F_law_whole.kp T.b_law_whole (da_cons (de_var 1 (pv 1)) (da_cons de_int da_nil))))))) (fun _ _ _ _ _ => (de_var 1 (pv 1))))) (de_fz (dn_lst da_nil)) (nomark _)))))
  (dss_one (ds_ret (de_tup (da_cons de_int da_nil))))
  dss_nil)
  (dss_cons (ds_if (dt_w (dw_or (dt_not (dt_of (de_isi (Ts := "tuple") (by rfl) T.z_isinstance (by rfl) T.z_tuple (by decide +kernel) (by decide) (by decide) (by decide +kernel) (de_ix (dq_var 0 (pv 0)) de_int)))) (dw_or1 (dt_cmp (or_ne (by exact Nat.lt_of_le_of_lt (Nat.add_le_add_left (by decide) _) hu)) ok_ne (de_len (by rfl) T.z_len (dq_of (de_ix (dq_var 0 (pv 0)) de_int))) (de_ix (dq_var 0 (pv 0)) de_int) (nomark _)))))
  (dss_one (ds_ret (de_tup (da_cons de_int da_nil))))
  dss_nil)
  (dss_cons (ds_for (passes_of rfl) rfl (di_range1 (by rfl) T.z_range (de_ix (dq_var 0 (pv 0)) de_int)) (dg_name (i := 2) sc_law_fault.nd rfl (by first | exact .inl rfl | exact .inr rfl))
  (dss_one (ds_if (dt_not (dt_of (de_call ((okr_law_are_statements T 24)) (hr.mono (by decide)) hG tk (by rfl) T.m_law_are_statements T.F_law_are_statements.kp T.b_law_are_statements (da_cons (de_len (by rfl) T.z_len (dq_of (de_ix (dq_var 0 (pv 0)) de_int))) (da_cons (de_ix (dq_of (de_ix (dq_var 0 (pv 0)) de_int)) (de_var 2 (pv 2))) da_nil)))))
  (dss_one (ds_ret (de_tup (da_cons de_int (da_cons (de_var 2 (pv 2)) da_nil)))))
  dss_nil)))
  (dss_one (ds_ret (de_if (dt_of (de_call ((okr_law_is_expression T 24)) (hr.mono (by decide)) hG tk (by rfl) T.m_law_is_expression T.F_law_is_expression.kp T.b_law_is_expression (da_cons (de_len (by rfl) T.z_len (dq_of (de_ix (dq_var 0 (pv 0)) de_int))) (da_cons (de_ix (dq_var 0 (pv 0)) de_int) da_nil)))) de_non (de_tup (da_cons de_int da_nil))))))))))
def g_law_expression (r_law_expression : List D → T D) : DEnv → T Fl :=
  (gSeq (gSet 3 (dCall 2 f_law_take (dCons (dV 0) (dCons (dIf (dT (dB opGt (dV 2) (dC (.int 0)))) (dC (.int 8)) (dC (.int 3))) dNil))))
  (gSeq (gIf (dTAnd (dT (dB opLt (dV 3) (dC (.int 2)))) (dT (dB opNe (dV 1) (dTup dNil))))
  (gRet (dTup (dCons (dC (.str "cell")) (dCons (dCall 2 f_law_take (dCons (dV 0) (dCons (dLen (dSqV 1)) dNil))) dNil))))
  gNil)
  (gSeq (gIf (dT (dB opLt (dV 3) (dC (.int 3))))
  (gRet (dTup (dCons (dC (.str "value")) (dCons (dCall 2 f_law_take (dCons (dV 0) (dCons (dC (.int 4)) dNil))) dNil))))
  gNil)
  (gSeq (gSet 4 (dIx (dSqN (dLst (dCons (dC (.str "plus")) (dCons (dC (.str "minus")) (dCons (dC (.str "least")) (dCons (dC (.str "greatest")) (dCons (dC (.str "equal")) (dCons (dC (.str "less")) dNil)))))))) (dCall 2 f_law_take (dCons (dV 0) (dCons (dC (.int 6)) dNil)))))
  (gRet (dTup (dCons (dV 4) (dCons (dCall 3 r_law_expression (dCons (dV 0) (dCons (dV 1) (dCons (dB opSub (dV 2) (dC (.int 1))) dNil)))) (dCons (dCall 3 r_law_expression (dCons (dV 0) (dCons (dV 1) (dCons (dB opSub (dV 2) (dC (.int 1))) dNil)))) dNil)))))))))
def f_law_expression : Nat → List D → T D
  | 0 => fun _ => .fail
  | n + 1 => bodyT 5 (g_law_expression (f_law_expression n))
theorem okr_law_expression (T : Txt K mg) : ∀ n, FnG P w K mg base (2 + n) T.a_law_expression T.fd_law_expression ["well", "sizes", "depth"] (spD K mg 3 (f_law_expression n))
  | 0 => FnG.never fun _ => rfl
  | n + 1 => have ih := okr_law_expression T n
  (FnG.of_body (k := 2 + n) T.F_law_expression sc_law_expression (g_law_expression (f_law_expression n)) 5 3 rfl rfl fun cdv A outer s H E hr hG hu tk =>
  (dss_cons (ds_set (i := 3) sc_law_expression.nd rfl (by first | exact .inl rfl | exact .inr rfl) (de_call (ok_law_take T) (hr.mono (by omega)) hG tk (by rfl) T.m_law_take T.F_law_take.kp T.b_law_take (da_cons (de_var 0 (pv 0)) (da_cons (de_if (dt_cmp op_gt ok_gt (de_var 2 (pv 2)) de_int (nomark _)) de_int de_int) da_nil))))
  (dss_cons (ds_if (dt_w (dw_and (dt_cmp op_lt ok_lt (de_var 3 (pv 3)) de_int (nomark _)) (dw_and1 (dt_cmp (or_ne (by exact Nat.lt_of_le_of_lt (Nat.add_le_add_left (by decide) _) hu)) ok_ne (de_var 1 (pv 1)) (de_tup da_nil) (nomark _)))))
  (dss_one (ds_ret (de_tup (da_cons de_str (da_cons (de_call (ok_law_take T) (hr.mono (by omega)) hG tk (by rfl) T.m_law_take T.F_law_take.kp T.b_law_take (da_cons (de_var 0 (pv 0)) (da_cons (de_len (by rfl) T.z_len (dq_var 1 (pv 1))) da_nil))) da_nil)))))
  dss_nil)
  (dss_cons (ds_if (dt_cmp op_lt ok_lt (de_var 3 (pv 3)) de_int (nomark _))
  (dss_one (ds_ret (de_tup (da_cons de_str (da_cons (de_call (ok_law_take T) (hr.mono (by omega)) hG tk (by rfl) T.m_law_take T.F_law_take.kp T.b_law_take (da_cons (de_var 0 (pv 0)) (da_cons de_int da_nil))) da_nil)))))
  dss_nil)
  (dss_cons (ds_set (i := 4) sc_law_expression.nd rfl (by first | exact .inl rfl | exact .inr rfl) (de_ix (dq_new (dn_lst (da_cons de_str (da_cons de_str (da_cons de_str (da_cons de_str (da_cons de_str (da_cons de_str da_nil)))))))) (de_call (ok_law_take T) (hr.mono (by omega)) hG tk (by rfl) T.m_law_take T.F_law_take.kp T.b_law_take (da_cons (de_var 0 (pv 0)) (da_cons de_int da_nil)))))
  (dss_one (ds_ret (de_tup (da_cons (de_var 4 (pv 4)) (da_cons (de_call (ih) (hr.mono (by omega)) hG tk (by rfl) T.m_law_expression T.F_law_expression.kp T.b_law_expression (da_cons (de_var 0 (pv 0)) (da_cons (de_var 1 (pv 1)) (da_cons (de_bin op_sub ok_sub (de_var 2 (pv 2)) de_int) da_nil)))) (da_cons (de_call (ih) (hr.mono (by omega)) hG tk (by rfl) T.m_law_expression T.F_law_expression.kp T.b_law_expression (da_cons (de_var 0 (pv 0)) (da_cons (de_var 1 (pv 1)) (da_cons (de_bin op_sub ok_sub (de_var 2 (pv 2)) de_int) da_nil)))) da_nil)))))))))))
def g_law_statements (r_law_statements : List D → T D) : DEnv → T Fl :=
  (gSeq (gSetN 3 (dLst dNil))
  (gSeq (gFor (dRange1 (dCall 2 f_law_take (dCons (dV 0) (dCons (dC (.int 3)) dNil)))) (bName 4)
  (gIf (dTAnd (dT (dB opGt (dV 2) (dC (.int 0)))) (dT (dB opEq (dCall 2 f_law_take (dCons (dV 0) (dCons (dC (.int 3)) dNil))) (dC (.int 0)))))
  (gSeq (gSet 5 (dCall 3 (f_law_expression 24) (dCons (dV 0) (dCons (dV 1) (dCons (dC (.int 1)) dNil)))))
  (gAppend 3 (dTup (dCons (dC (.str "if")) (dCons (dV 5) (dCons (dCall 3 r_law_statements (dCons (dV 0) (dCons (dV 1) (dCons (dB opSub (dV 2) (dC (.int 1))) dNil)))) (dCons (dCall 3 r_law_statements (dCons (dV 0) (dCons (dV 1) (dCons (dB opSub (dV 2) (dC (.int 1))) dNil)))) dNil)))))))
  (gIf (dT (dB opNe (dV 1) (dTup dNil)))
  (gAppend 3 (dTup (dCons (dC (.str "set")) (dCons (dCall 2 f_law_take (dCons (dV 0) (dCons (dLen (dSqV 1)) dNil))) (dCons (dCall 3 (f_law_expression 24) (dCons (dV 0) (dCons (dV 1) (dCons (dC (.int 2)) dNil)))) dNil)))))
  gNil)))
  (gRet (dTupOf (dSqV 3)))))
def f_law_statements : Nat → List D → T D
  | 0 => fun _ => .fail
  | n + 1 => bodyT 6 (g_law_statements (f_law_statements n))
theorem okr_law_statements (T : Txt K mg) : ∀ n, FnG P w K mg base (27 + n) T.a_law_statements T.fd_law_statements ["well", "sizes", "depth"] (spD K mg 3 (f_law_statements n))
  | 0 => FnG.never fun _ => rfl
  | n + 1 => have ih := okr_law_statements T n
  (FnG.of_body (k := 27 + n) T.F_law_statements sc_law_statements (g_law_statements (f_law_statements n)) 6 3 rfl rfl fun cdv A outer s H E hr hG hu tk =>
  (dss_cons (ds_setN (i := 3) sc_law_statements.nd rfl (by first | exact .inl rfl | exact .inr rfl) (dn_lst da_nil))
  (dss_cons (ds_for (passes_of rfl) rfl (di_range1 (by rfl) T.z_range (de_call (ok_law_take T) (hr.mono (by omega)) hG tk (by rfl) T.m_law_take T.F_law_take.kp T.b_law_take (da_cons (de_var 0 (pv 0)) (da_cons de_int da_nil)))) (dg_name (i := 4) sc_law_statements.nd rfl (by first | exact .inl rfl | exact .inr rfl))
  (dss_one (ds_if (dt_w (dw_and (dt_cmp op_gt ok_gt (de_var 2 (pv 2)) de_int (nomark _)) (dw_and1 (dt_cmp (or_eq (by exact Nat.lt_of_le_of_lt (Nat.add_le_add_left (by decide) _) hu)) ok_eq (de_call (ok_law_take T) (hr.mono (by omega)) hG tk (by rfl) T.m_law_take T.F_law_take.kp T.b_law_take (da_cons (de_var 0 (pv 0)) (da_cons de_int da_nil))) de_int (nomark _)))))
  (dss_cons (ds_set (i := 5) sc_law_statements.nd rfl (by first | exact .inl rfl | exact .inr rfl) (de_call ((okr_law_expression T 24)) (hr.mono (by omega)) hG tk (by rfl) T.m_law_expression T.F_law_expression.kp T.b_law_expression (da_cons (de_var 0 (pv 0)) (da_cons (de_var 1 (pv 1)) (da_cons de_int da_nil)))))
  (dss_one (ds_append 3 (pv 3) (de_tup (da_cons de_str (da_cons (de_var 5 (pv 5)) (da_cons (de_call (ih) (hr.mono (by omega)) hG tk (by rfl) T.m_law_statements T.F_law_statements.kp T.b_law_statements (da_cons (de_var 0 (pv 0)) (da_cons (de_var 1 (pv 1)) (da_cons (de_bin op_sub ok_sub (de_var 2 (pv 2)) de_int) da_nil)))) (da_cons (de_call (ih) (hr.mono (by omega)) hG tk (by rfl) T.m_law_statements T.F_law_statements.kp T.b_law_statements (da_cons (de_var 0 (pv 0)) (da_cons (de_var 1 (pv 1)) (da_cons (de_bin op_sub ok_sub (de_var 2 (pv 2)) de_int) da_nil)))) da_nil))))) (fun t h => pe_bm PySem.F.plainAttrs_list PySem.F.slot_list_append PySem.F.type_list_append mt_append (pv 3) (pa_cons h pa_nil)))))
  (dss_one (ds_if (dt_cmp (or_ne (by exact Nat.lt_of_le_of_lt (Nat.add_le_add_left (by decide) _) hu)) ok_ne (de_var 1 (pv 1)) (de_tup da_nil) (nomark _))
  (dss_one (ds_append 3 (pv 3) (de_tup (da_cons de_str (da_cons (de_call (ok_law_take T) (hr.mono (by omega)) hG tk (by rfl) T.m_law_take T.F_law_take.kp T.b_law_take (da_cons (de_var 0 (pv 0)) (da_cons (de_len (by rfl) T.z_len (dq_var 1 (pv 1))) da_nil))) (da_cons (de_call ((okr_law_expression T 24)) (hr.mono (by omega)) hG tk (by rfl) T.m_law_expression T.F_law_expression.kp T.b_law_expression (da_cons (de_var 0 (pv 0)) (da_cons (de_var 1 (pv 1)) (da_cons de_int da_nil)))) da_nil)))) (fun t h => pe_bm PySem.F.plainAttrs_list PySem.F.slot_list_append PySem.F.type_list_append mt_append (pv 3) (pa_cons h pa_nil))))
  dss_nil)))))
  (dss_one (ds_ret (de_tupOf (by rfl) T.z_tuple (dq_var 3 (pv 3))))))))
def g_law_program : DEnv → T Fl :=
  (gSeq (gSet 2 (dTupOf (dSqN (dLc (dRange1 (dCall 2 f_law_take (dCons (dV 0) (dCons (dC (.int 4)) dNil)))) (bName 3) dYes (dB opAdd (dC (.int 1)) (dCall 2 f_law_take (dCons (dV 0) (dCons (dC (.int 3)) dNil)))) [3]))))
  (gSeq (gSet 4 (dTupOf (dSqN (dLc (dRange1 (dV 1)) (bName 5) dYes (dCall 3 (f_law_statements 24) (dCons (dV 0) (dCons (dV 2) (dCons (dC (.int 2)) dNil)))) [5]))))
  (gRet (dTup (dCons (dV 1) (dCons (dV 2) (dCons (dV 4) (dCons (dCall 3 (f_law_expression 24) (dCons (dV 0) (dCons (dV 2) (dCons (dC (.int 2)) dNil)))) dNil))))))))
def f_law_program : List D → T D := bodyT 6 g_law_program
theorem ok_law_program (T : Txt K mg) : FnG P w K mg base 52 T.a_law_program T.fd_law_program ["well", "events"] (spD K mg 2 f_law_program) :=
  FnG.of_body T.F_law_program sc_law_program g_law_program 6 2 rfl rfl fun cdv A outer s H E hr hG hu tk =>
  (dss_cons (ds_set (i := 2) sc_law_program.nd rfl (by first | exact .inl rfl | exact .inr rfl) (de_tupOf (by rfl) T.z_tuple (dq_new (dn_lc (own := [("cell", 3)]) rfl sc_law_program.nd (di_range1 (by rfl) T.z_range (de_call (ok_law_take T) (hr.mono (by decide)) hG tk (by rfl) T.m_law_take T.F_law_take.kp T.b_law_take (da_cons (de_var 0 (pv 0)) (da_cons de_int da_nil)))) (blkOk_by (own := [("cell", 3)]) rfl) (by decide) (fun _ _ _ _ _ => (dg_name (i := 3) sc_law_program.nd rfl (by first | exact .inl rfl | exact .inr rfl))) (fun _ _ _ _ _ => dts_nil) (fun _ _ _ _ _ => (de_bin or_add ok_add de_int (de_call (ok_law_take T) (hr.mono (by decide)) hG takes0 (by rfl) T.m_law_take T.F_law_take.kp T.b_law_take (da_cons (de_var 0 (pv 0)) (da_cons de_int da_nil)))))))))
  (dss_cons (ds_set (i := 4) sc_law_program.nd rfl (by first | exact .inl rfl | exact .inr rfl) (de_tupOf (by rfl) T.z_tuple (dq_new (dn_lc (own := [("event", 5)]) rfl sc_law_program.nd (di_range1 (by rfl) T.z_range (de_var 1 (pv 1))) (blkOk_by (own := [("event", 5)]) rfl) (by decide) (fun _ _ _ _ _ => (dg_name (i := 5) sc_law_program.nd rfl (by first | exact .inl rfl | exact .inr rfl))) (fun _ _ _ _ _ => dts_nil) (fun _ _ _ _ _ => (de_call ((okr_law_statements T 24)) (hr.mono (by decide)) hG takes0 (by rfl) T.m_law_statements T.F_law_statements.kp T.b_law_statements (da_cons (de_var 0 (pv 0)) (da_cons (de_var 2 (pv 2)) (da_cons de_int da_nil)))))))))
  (dss_one (ds_ret (de_tup (da_cons (de_var 1 (pv 1)) (da_cons (de_var 2 (pv 2)) (da_cons (de_var 4 (pv 4)) (da_cons (de_call ((okr_law_expression T 24)) (hr.mono (by decide)) hG tk (by rfl) T.m_law_expression T.F_law_expression.kp T.b_law_expression (da_cons (de_var 0 (pv 0)) (da_cons (de_var 2 (pv 2)) (da_cons de_int da_nil)))) da_nil)))))))))
def g_of_two : DEnv → T Fl :=
  (gSeq (gIf (dT (dB opEq (dV 0) (dC (.str "plus"))))
  (gRet (dB opAdd (dV 1) (dV 2)))
  gNil)
  (gSeq (gIf (dT (dB opEq (dV 0) (dC (.str "minus"))))
  (gRet (dMax (dC (.int 0)) (dB opSub (dV 1) (dV 2))))
  gNil)
  (gSeq (gIf (dT (dB opEq (dV 0) (dC (.str "least"))))
  (gRet (dMin (dV 1) (dV 2)))
  gNil)
  (gSeq (gIf (dT (dB opEq (dV 0) (dC (.str "greatest"))))
  (gRet (dMax (dV 1) (dV 2)))
  gNil)
  (gRet (dIf (dT (dB opEq (dV 0) (dC (.str "equal")))) (dInt (dB opEq (dV 1) (dV 2))) (dInt (dB opLt (dV 1) (dV 2)))))))))
def f_of_two : List D → T D := bodyT 3 g_of_two
theorem ok_of_two (T : Txt K mg) : FnG P w K mg base 1 T.a_of_two T.fd_of_two ["word", "one", "two"] (spD K mg 3 f_of_two) :=
  FnG.of_body T.F_of_two sc_of_two g_of_two 3 3 rfl rfl fun cdv A outer s H E hr hG hu tk =>
  (dss_cons (ds_if (dt_cmp (or_eq (by exact Nat.lt_of_le_of_lt (Nat.add_le_add_left (by decide) _) hu)) ok_eq (de_var 0 (pv 0)) de_str (nomark _))
  (dss_one (ds_ret (de_bin or_add ok_add (de_var 1 (pv 1)) (de_var 2 (pv 2)))))
  dss_nil)
  (dss_cons (ds_if (dt_cmp (or_eq (by exact Nat.lt_of_le_of_lt (Nat.add_le_add_left (by decide) _) hu)) ok_eq (de_var 0 (pv 0)) de_str (nomark _))
  (dss_one (ds_ret (de_max2 rfl (by rfl) T.z_max de_int (de_bin op_sub ok_sub (de_var 1 (pv 1)) (de_var 2 (pv 2))))))
  dss_nil)
  (dss_cons (ds_if (dt_cmp (or_eq (by exact Nat.lt_of_le_of_lt (Nat.add_le_add_left (by decide) _) hu)) ok_eq (de_var 0 (pv 0)) de_str (nomark _))
  (dss_one (ds_ret (de_min2 rfl (by rfl) T.z_min (de_var 1 (pv 1)) (de_var 2 (pv 2)))))
  dss_nil)
  (dss_cons (ds_if (dt_cmp (or_eq (by exact Nat.lt_of_le_of_lt (Nat.add_le_add_left (by decide) _) hu)) ok_eq (de_var 0 (pv 0)) de_str (nomark _))
  (dss_one (ds_ret (de_max2 rfl (by rfl) T.z_max (de_var 1 (pv 1)) (de_var 2 (pv 2)))))
  dss_nil)
  (dss_one (ds_ret (de_if (dt_cmp (or_eq (by exact Nat.lt_of_le_of_lt (Nat.add_le_add_left (by decide) _) hu)) ok_eq (de_var 0 (pv 0)) de_str (nomark _)) (de_int1 (by rfl) T.z_int (de_cmp (or_eq (by exact Nat.lt_of_le_of_lt (Nat.add_le_add_left (by decide) _) hu)) ok_eq (de_var 1 (pv 1)) (de_var 2 (pv 2)) (nomark _))) (de_int1 (by rfl) T.z_int (de_cmp op_lt ok_lt (de_var 1 (pv 1)) (de_var 2 (pv 2)) (nomark _))))))))))
def g_value_of (r_value_of : List D → T D) : DEnv → T Fl :=
  (gSeq (gSet 2 (dIx (dSqV 1) (dC (.int 0))))
  (gSeq (gIf (dT (dB opEq (dV 2) (dC (.str "value"))))
  (gRet (dIx (dSqV 1) (dC (.int 1))))
  gNil)
  (gSeq (gIf (dT (dB opEq (dV 2) (dC (.str "cell"))))
  (gRet (dIx (dSqV 0) (dIx (dSqV 1) (dC (.int 1)))))
  gNil)
  (gRet (dCall 3 f_of_two (dCons (dV 2) (dCons (dCall 2 r_value_of (dCons (dV 0) (dCons (dIx (dSqV 1) (dC (.int 1))) dNil))) (dCons (dCall 2 r_value_of (dCons (dV 0) (dCons (dIx (dSqV 1) (dC (.int 2))) dNil))) dNil))))))))
def f_value_of : Nat → List D → T D
  | 0 => fun _ => .fail
  | n + 1 => bodyT 3 (g_value_of (f_value_of n))
theorem okr_value_of (T : Txt K mg) : ∀ n, FnG P w K mg base (2 + n) T.a_value_of T.fd_value_of ["cells", "expression"] (spD K mg 2 (f_value_of n))
  | 0 => FnG.never fun _ => rfl
  | n + 1 => have ih := okr_value_of T n
  (FnG.of_body (k := 2 + n) T.F_value_of sc_value_of (g_value_of (f_value_of n)) 3 2 rfl rfl fun cdv A outer s H E hr hG hu tk =>
  (dss_cons (ds_set (i := 2) sc_value_of.nd rfl (by first | exact .inl rfl | exact .inr rfl) (de_ix (dq_var 1 (pv 1)) de_int))
  (dss_cons (ds_if (dt_cmp (or_eq (by exact Nat.lt_of_le_of_lt (Nat.add_le_add_left (by decide) _) hu)) ok_eq (de_var 2 (pv 2)) (de_c (pe_glob (v := .str "value") (by rfl) T.m_VALUE T.r_VALUE) fun _ _ _ => .str _) (nomark _))
  (dss_one (ds_ret (de_ix (dq_var 1 (pv 1)) de_int)))
  dss_nil)
  (dss_cons (ds_if (dt_cmp (or_eq (by exact Nat.lt_of_le_of_lt (Nat.add_le_add_left (by decide) _) hu)) ok_eq (de_var 2 (pv 2)) (de_c (pe_glob (v := .str "cell") (by rfl) T.m_CELL T.r_CELL) fun _ _ _ => .str _) (nomark _))
  (dss_one (ds_ret (de_ix (dq_var 0 (pv 0)) (de_ix (dq_var 1 (pv 1)) de_int))))
  dss_nil)
  (dss_one (ds_ret (de_call (ok_of_two T) (hr.mono (by omega)) hG tk (by rfl) T.m_of_two T.F_of_two.kp T.b_of_two (da_cons (de_var 2 (pv 2)) (da_cons (de_call (ih) (hr.mono (by omega)) hG tk (by rfl) T.m_value_of T.F_value_of.kp T.b_value_of (da_cons (de_var 0 (pv 0)) (da_cons (de_ix (dq_var 1 (pv 1)) de_int) da_nil))) (da_cons (de_call (ih) (hr.mono (by omega)) hG tk (by rfl) T.m_value_of T.F_value_of.kp T.b_value_of (da_cons (de_var 0 (pv 0)) (da_cons (de_ix (dq_var 1 (pv 1)) de_int) da_nil))) da_nil))))))))))
def g_done (r_done : List D → T D) : DEnv → T Fl :=
  (gSeq (gFor (dItems (dSq (dV 2))) (bName 3)
  (gIf (dT (dB opEq (dIx (dSqV 3) (dC (.int 0))) (dC (.str "set"))))
  (gSeq (gSet 4 (dIx (dSqV 3) (dC (.int 1))))
  (gSet 1 (dB opAdd (dB opAdd (dSlT (dSqV 1) dNoP (dP (dV 4))) (dTup (dCons (dB opMod (dInt (dCall 2 (f_value_of 24) (dCons (dV 1) (dCons (dIx (dSqV 3) (dC (.int 2))) dNil)))) (dIx (dSqV 0) (dV 4))) dNil))) (dSlT (dSqV 1) (dP (dB opAdd (dV 4) (dC (.int 1)))) dNoP))))
  (gSet 1 (dCall 3 r_done (dCons (dV 0) (dCons (dV 1) (dCons (dIf (dT (dB opNe (dCall 2 (f_value_of 24) (dCons (dV 1) (dCons (dIx (dSqV 3) (dC (.int 1))) dNil))) (dC (.int 0)))) (dIx (dSqV 3) (dC (.int 2))) (dIx (dSqV 3) (dC (.int 3)))) dNil)))))))
  (gRet (dV 1)))
def f_done : Nat → List D → T D
  | 0 => fun _ => .fail
  | n + 1 => bodyT 5 (g_done (f_done n))
theorem okr_done (T : Txt K mg) : ∀ n, FnG P w K mg base (27 + n) T.a_done T.fd_done ["sizes", "cells", "statements"] (spD K mg 3 (f_done n))
  | 0 => FnG.never fun _ => rfl
  | n + 1 => have ih := okr_done T n
  (FnG.of_body (k := 27 + n) T.F_done sc_done (g_done (f_done n)) 5 3 rfl rfl fun cdv A outer s H E hr hG hu tk =>
  (dss_cons (ds_for (passes_of rfl) rfl (di_seq (dQ_fz (de_var 2 (pv 2)))) (dg_name (i := 3) sc_done.nd rfl (by first | exact .inl rfl | exact .inr rfl))
  (dss_one (ds_if (dt_cmp (or_eq (by exact Nat.lt_of_le_of_lt (Nat.add_le_add_left (by decide) _) hu)) ok_eq (de_ix (dq_var 3 (pv 3)) de_int) (de_c (pe_glob (v := .str "set") (by rfl) T.m_SET T.r_SET) fun _ _ _ => .str _) (nomark _))
  (dss_cons (ds_set (i := 4) sc_done.nd rfl (by first | exact .inl rfl | exact .inr rfl) (de_ix (dq_var 3 (pv 3)) de_int))
  (dss_one (ds_set (i := 1) sc_done.nd rfl (by first | exact .inl rfl | exact .inr rfl) (de_bin or_add ok_add (de_bin or_add ok_add (de_slT (dq_var 1 (pv 1)) do_none (do_some (de_var 4 (pv 4)))) (de_tup (da_cons (de_bin op_mod ok_mod (de_int1 (by rfl) T.z_int (de_call ((okr_value_of T 24)) (hr.mono (by omega)) hG tk (by rfl) T.m_value_of T.F_value_of.kp T.b_value_of (da_cons (de_var 1 (pv 1)) (da_cons (de_ix (dq_var 3 (pv 3)) de_int) da_nil)))) (de_ix (dq_var 0 (pv 0)) (de_var 4 (pv 4)))) da_nil))) (de_slT (dq_var 1 (pv 1)) (do_some (de_bin or_add ok_add (de_var 4 (pv 4)) de_int)) do_none)))))
  (dss_one (ds_set (i := 1) sc_done.nd rfl (by first | exact .inl rfl | exact .inr rfl) (de_call (ih) (hr.mono (by omega)) hG tk (by rfl) T.m_done T.F_done.kp T.b_done (da_cons (de_var 0 (pv 0)) (da_cons (de_var 1 (pv 1)) (da_cons (de_if (dt_cmp (or_ne (by exact Nat.lt_of_le_of_lt (Nat.add_le_add_left (by decide) _) hu)) ok_ne (de_call ((okr_value_of T 24)) (hr.mono (by omega)) hG tk (by rfl) T.m_value_of T.F_value_of.kp T.b_value_of (da_cons (de_var 1 (pv 1)) (da_cons (de_ix (dq_var 3 (pv 3)) de_int) da_nil))) de_int (nomark _)) (de_ix (dq_var 3 (pv 3)) de_int) (de_ix (dq_var 3 (pv 3)) de_int)) da_nil)))))))))
  (dss_one (ds_ret (de_var 1 (pv 1))))))
def g_cells_in : DEnv → T Fl :=
  (gSeq (gSet 2 (dRepT (dSq (dTup (dCons (dC (.int 0)) dNil))) (dLen (dSq (dIx (dSqV 0) (dC (.int 1)))))))
  (gSeq (gFor (dItems (dSq (dV 1))) (bName 3)
  (gSet 2 (dCall 3 (f_done 24) (dCons (dIx (dSqV 0) (dC (.int 1))) (dCons (dV 2) (dCons (dIx (dSq (dIx (dSqV 0) (dC (.int 2)))) (dV 3)) dNil))))))
  (gRet (dV 2))))
def f_cells_in : List D → T D := bodyT 4 g_cells_in
theorem ok_cells_in (T : Txt K mg) : FnG P w K mg base 52 T.a_cells_in T.fd_cells_in ["program", "log"] (spD K mg 2 f_cells_in) :=
  FnG.of_body T.F_cells_in sc_cells_in g_cells_in 4 2 rfl rfl fun cdv A outer s H E hr hG hu tk =>
  (dss_cons (ds_set (i := 2) sc_cells_in.nd rfl (by first | exact .inl rfl | exact .inr rfl) (de_repT (dq_of (de_tup (da_cons de_int da_nil))) (de_len (by rfl) T.z_len (dq_of (de_ix (dq_var 0 (pv 0)) de_int)))))
  (dss_cons (ds_for (passes_of rfl) rfl (di_seq (dQ_fz (de_var 1 (pv 1)))) (dg_name (i := 3) sc_cells_in.nd rfl (by first | exact .inl rfl | exact .inr rfl))
  (dss_one (ds_set (i := 2) sc_cells_in.nd rfl (by first | exact .inl rfl | exact .inr rfl) (de_call ((okr_done T 24)) (hr.mono (by decide)) hG tk (by rfl) T.m_done T.F_done.kp T.b_done (da_cons (de_ix (dq_var 0 (pv 0)) de_int) (da_cons (de_var 2 (pv 2)) (da_cons (de_ix (dq_of (de_ix (dq_var 0 (pv 0)) de_int)) (de_var 3 (pv 3))) da_nil)))))))
  (dss_one (ds_ret (de_var 2 (pv 2))))))
def g_is_integer : DEnv → T Fl :=
  (gRet (dAnd (dIsi "int" (dV 0)) (dNot (dIsi "bool" (dV 0)))))
def f_is_integer : List D → T D := bodyT 1 g_is_integer
theorem ok_is_integer (T : Txt K mg) : FnG P w K mg base 1 T.a_is_integer T.fd_is_integer ["thing"] (spD K mg 1 f_is_integer) :=
  FnG.of_body T.F_is_integer sc_is_integer g_is_integer 1 1 rfl rfl fun cdv A outer s H E hr hG hu tk =>
  (dss_one (ds_ret (de_and (de_isi (Ts := "int") (by rfl) T.z_isinstance (by rfl) T.z_int (by decide +kernel) (by decide) (by decide) (by decide +kernel) (de_var 0 (pv 0))) (de_one (de_not (de_isi (Ts := "bool") (by rfl) T.z_isinstance (by rfl) T.z_bool (by decide +kernel) (by decide) (by decide) (by decide +kernel) (de_var 0 (pv 0))))))))
def g_is_from : DEnv → T Fl :=
  (gRet (dAnd (dCall 1 f_is_integer (dCons (dV 1) dNil)) (dB opGe (dV 1) (dV 0))))
def f_is_from : List D → T D := bodyT 2 g_is_from
theorem ok_is_from (T : Txt K mg) : FnG P w K mg base 2 T.a_is_from T.fd_is_from ["low", "thing"] (spD K mg 2 f_is_from) :=
  FnG.of_body T.F_is_from sc_is_from g_is_from 2 2 rfl rfl fun cdv A outer s H E hr hG hu tk =>
  (dss_one (ds_ret (de_and (de_call (ok_is_integer T) (hr.mono (by decide)) hG tk (by rfl) T.m_is_integer T.F_is_integer.kp T.b_is_integer (da_cons (de_var 1 (pv 1)) da_nil)) (de_one (de_cmp op_ge ok_ge (de_var 1 (pv 1)) (de_var 0 (pv 0)) (nomark _))))))
def g_is_below : DEnv → T Fl :=
  (gRet (dAnd (dCall 2 f_is_from (dCons (dC (.int 0)) (dCons (dV 1) dNil))) (dB opLt (dV 1) (dV 0))))
def f_is_below : List D → T D := bodyT 2 g_is_below
theorem ok_is_below (T : Txt K mg) : FnG P w K mg base 3 T.a_is_below T.fd_is_below ["many", "thing"] (spD K mg 2 f_is_below) :=
  FnG.of_body T.F_is_below sc_is_below g_is_below 2 2 rfl rfl fun cdv A outer s H E hr hG hu tk =>
  (dss_one (ds_ret (de_and (de_call (ok_is_from T) (hr.mono (by decide)) hG tk (by rfl) T.m_is_from T.F_is_from.kp T.b_is_from (da_cons de_int (da_cons (de_var 1 (pv 1)) da_nil))) (de_one (de_cmp op_lt ok_lt (de_var 1 (pv 1)) (de_var 0 (pv 0)) (nomark _))))))
def g_row_fault : DEnv → T Fl :=
  (gSeq (gIf (dTNot (dT (dIsi "tuple" (dV 1))))
  (gRet (dNeg (dC (.int 1))))
  gNil)
  (gSeq (gFor (dEnum (dSq (dV 1))) (bTup 2 (bCons (bName 2) (bCons (bName 3) bNil)))
  (gIf (dTNot (dT (dCall 2 f_is_below (dCons (dV 0) (dCons (dV 3) dNil)))))
  (gRet (dV 2))
  gNil))
  (gRet (dC .non))))
def f_row_fault : List D → T D := bodyT 4 g_row_fault
theorem ok_row_fault (T : Txt K mg) : FnG P w K mg base 4 T.a_row_fault T.fd_row_fault ["many", "thing"] (spD K mg 2 f_row_fault) :=
  FnG.of_body T.F_row_fault sc_row_fault g_row_fault 4 2 rfl rfl fun cdv A outer s H E hr hG hu tk =>
  (dss_cons (ds_if (dt_not (dt_of (de_isi (Ts := "tuple") (by rfl) T.z_isinstance (by rfl) T.z_tuple (by decide +kernel) (by decide) (by decide) (by decide +kernel) (de_var 1 (pv 1)))))
  (dss_one (ds_ret (de_neg de_int)))
  dss_nil)
  (dss_cons (ds_for (passes_of rfl) rfl (di_enum (by rfl) T.z_enumerate (dQ_fz (de_var 1 (pv 1)))) (dg_tup rfl (dgs_cons (dg_name (i := 2) sc_row_fault.nd rfl (by first | exact .inl rfl | exact .inr rfl)) (dgs_cons (dg_name (i := 3) sc_row_fault.nd rfl (by first | exact .inl rfl | exact .inr rfl)) dgs_nil)))
  (dss_one (ds_if (dt_not (dt_of (de_call (ok_is_below T) (hr.mono (by decide)) hG tk (by rfl) T.m_is_below T.F_is_below.kp T.b_is_below (da_cons (de_var 0 (pv 0)) (da_cons (de_var 3 (pv 3)) da_nil)))))
  (dss_one (ds_ret (de_var 2 (pv 2))))
  dss_nil)))
  (dss_one (ds_ret de_non))))
def g_check_log : DEnv → T Fl :=
  (gSeq (gSet 2 (dCall 2 f_row_fault (dCons (dV 0) (dCons (dV 1) dNil))))
  (gIf (dT (dB (opIs not) (dV 2) (dC .non)))
  gNever
  gNil))
def f_check_log : List D → T D := bodyT 3 g_check_log
theorem ok_check_log (T : Txt K mg) : FnG P w K mg base 5 T.a_check_log T.fd_check_log ["events", "thing"] (spD K mg 2 f_check_log) :=
  FnG.of_body T.F_check_log sc_check_log g_check_log 3 2 rfl rfl fun cdv A outer s H E hr hG hu tk =>
  (dss_cons (ds_set (i := 2) sc_check_log.nd rfl (by first | exact .inl rfl | exact .inr rfl) (de_call (ok_row_fault T) (hr.mono (by decide)) hG tk (by rfl) T.m_row_fault T.F_row_fault.kp T.b_row_fault (da_cons (de_var 0 (pv 0)) (da_cons (de_var 1 (pv 1)) da_nil))))
  (dss_one (ds_if (dt_cmp op_notN ok_isnot (de_var 2 (pv 2)) de_non (nomark _))
  (dss_one ds_never)
  dss_nil)))
def g_is_expression (r_is_expression : List D → T D) : DEnv → T Fl :=
  (gSeq (gIf (dTOr (dTNot (dT (dIsi "tuple" (dV 1)))) (dTOr (dT (dB opEq (dV 1) (dTup dNil))) (dTNot (dT (dIsi "str" (dIx (dSqV 1) (dC (.int 0))))))))
  (gRet (dC (.bl false)))
  gNil)
  (gSeq (gIf (dT (dB opEq (dIx (dSqV 1) (dC (.int 0))) (dC (.str "value"))))
  (gRet (dAnd (dB opEq (dLen (dSqV 1)) (dC (.int 2))) (dCall 2 f_is_from (dCons (dC (.int 0)) (dCons (dIx (dSqV 1) (dC (.int 1))) dNil)))))
  gNil)
  (gSeq (gIf (dT (dB opEq (dIx (dSqV 1) (dC (.int 0))) (dC (.str "cell"))))
  (gRet (dAnd (dB opEq (dLen (dSqV 1)) (dC (.int 2))) (dCall 2 f_is_below (dCons (dV 0) (dCons (dIx (dSqV 1) (dC (.int 1))) dNil)))))
  gNil)
  (gRet (dAnd (dIn id (dIx (dSqV 1) (dC (.int 0))) (dSq (dC (strsD ["plus", "minus", "least", "greatest", "equal", "less"])))) (dAnd (dB opEq (dLen (dSqV 1)) (dC (.int 3))) (dQuant (·.all id) (dSqN (dLc (dItems (dSq (dSlT (dSqV 1) (dP (dC (.int 1))) dNoP))) (bName 2) dYes (dCall 2 r_is_expression (dCons (dV 0) (dCons (dV 2) dNil))) [2])))))))))
def f_is_expression : Nat → List D → T D
  | 0 => fun _ => .fail
  | n + 1 => bodyT 3 (g_is_expression (f_is_expression n))
theorem okr_is_expression (T : Txt K mg) : ∀ n, FnG P w K mg base (4 + n) T.a_is_expression T.fd_is_expression ["cells", "thing"] (spD K mg 2 (f_is_expression n))
  | 0 => FnG.never fun _ => rfl
  | n + 1 => have ih := okr_is_expression T n
  (FnG.of_body (k := 4 + n) T.F_is_expression sc_is_expression (g_is_expression (f_is_expression n)) 3 2 rfl rfl fun cdv A outer s H E hr hG hu tk =>
  (dss_cons (ds_if (dt_w (dw_or (dt_not (dt_of (de_isi (Ts := "tuple") (by rfl) T.z_isinstance (by rfl) T.z_tuple (by decide +kernel) (by decide) (by decide) (by decide +kernel) (de_var 1 (pv 1))))) (dw_or (dt_cmp (or_eq (by exact Nat.lt_of_le_of_lt (Nat.add_le_add_left (by decide) _) hu)) ok_eq (de_var 1 (pv 1)) (de_tup da_nil) (nomark _)) (dw_or1 (dt_not (dt_of (de_isi (Ts := "str") (by rfl) T.z_isinstance (by rfl) T.z_str (by decide +kernel) (by decide) (by decide) (by decide +kernel) (de_ix (dq_var 1 (pv 1)) de_int))))))))
  (dss_one (ds_ret de_bl))
  dss_nil)
  (dss_cons (ds_if (dt_cmp (or_eq (by exact Nat.lt_of_le_of_lt (Nat.add_le_add_left (by decide) _) hu)) ok_eq (de_ix (dq_var 1 (pv 1)) de_int) (de_c (pe_glob (v := .str "value") (by rfl) T.m_VALUE T.r_VALUE) fun _ _ _ => .str _) (nomark _))
  (dss_one (ds_ret (de_and (de_cmp (or_eq (by exact Nat.lt_of_le_of_lt (Nat.add_le_add_left (by decide) _) hu)) ok_eq (de_len (by rfl) T.z_len (dq_var 1 (pv 1))) de_int (nomark _)) (de_one (de_call (ok_is_from T) (hr.mono (by omega)) hG tk (by rfl) T.m_is_from T.F_is_from.kp T.b_is_from (da_cons de_int (da_cons (de_ix (dq_var 1 (pv 1)) de_int) da_nil)))))))
  dss_nil)
  (dss_cons (ds_if (dt_cmp (or_eq (by exact Nat.lt_of_le_of_lt (Nat.add_le_add_left (by decide) _) hu)) ok_eq (de_ix (dq_var 1 (pv 1)) de_int) (de_c (pe_glob (v := .str "cell") (by rfl) T.m_CELL T.r_CELL) fun _ _ _ => .str _) (nomark _))
  (dss_one (ds_ret (de_and (de_cmp (or_eq (by exact Nat.lt_of_le_of_lt (Nat.add_le_add_left (by decide) _) hu)) ok_eq (de_len (by rfl) T.z_len (dq_var 1 (pv 1))) de_int (nomark _)) (de_one (de_call (ok_is_below T) (hr.mono (by omega)) hG tk (by rfl) T.m_is_below T.F_is_below.kp T.b_is_below (da_cons (de_var 0 (pv 0)) (da_cons (de_ix (dq_var 1 (pv 1)) de_int) da_nil)))))))
  dss_nil)
  (dss_one (ds_ret (de_and (de_in (or_in (by exact Nat.lt_of_le_of_lt (Nat.add_le_add_left (by decide) _) hu)) (rfl) (de_ix (dq_var 1 (pv 1)) de_int) (dq_of (de_tupC (by rfl) T.m_OF_TWO T.tc_OF_TWO))) (de_and (de_cmp (or_eq (by exact Nat.lt_of_le_of_lt (Nat.add_le_add_left (by decide) _) hu)) ok_eq (de_len (by rfl) T.z_len (dq_var 1 (pv 1))) de_int (nomark _)) (de_one (de_all rfl (by rfl) T.z_all (dq_new (dn_lc (own := [("part", 2)]) rfl sc_is_expression.nd (di_seq (dQ_all (dq_of (de_slT (dq_var 1 (pv 1)) (do_some de_int) do_none)))) (blkOk_by (own := [("part", 2)]) rfl) (by decide) (fun _ _ _ _ _ => (dg_name (i := 2) sc_is_expression.nd rfl (by first | exact .inl rfl | exact .inr rfl))) (fun _ _ _ _ _ => dts_nil) (fun _ _ _ _ _ => (de_call (ih) (hr.mono (by omega)) hG takes0 (by rfl) T.m_is_expression T.F_is_expression.kp T.b_is_expression (da_cons (de_var 0 (pv 0)) (da_cons (de_var 2 (pv 2)) da_nil))))))))))))))))
def g_is_statement (r_is_statement r_are_statements : List D → T D) : DEnv → T Fl :=
  (gSeq (gIf (dTOr (dTNot (dT (dIsi "tuple" (dV 1)))) (dTOr (dT (dB opEq (dV 1) (dTup dNil))) (dTNot (dT (dIsi "str" (dIx (dSqV 1) (dC (.int 0))))))))
  (gRet (dC (.bl false)))
  gNil)
  (gSeq (gIf (dT (dB opEq (dIx (dSqV 1) (dC (.int 0))) (dC (.str "set"))))
  (gRet (dAnd (dB opEq (dLen (dSqV 1)) (dC (.int 3))) (dAnd (dCall 2 f_is_below (dCons (dV 0) (dCons (dIx (dSqV 1) (dC (.int 1))) dNil))) (dCall 2 (f_is_expression 24) (dCons (dV 0) (dCons (dIx (dSqV 1) (dC (.int 2))) dNil))))))
  gNil)
  (gSeq (gIf (dTOr (dT (dB opNe (dIx (dSqV 1) (dC (.int 0))) (dC (.str "if")))) (dTOr (dT (dB opNe (dLen (dSqV 1)) (dC (.int 4)))) (dTNot (dT (dCall 2 (f_is_expression 24) (dCons (dV 0) (dCons (dIx (dSqV 1) (dC (.int 1))) dNil)))))))
  (gRet (dC (.bl false)))
  gNil)
  (gRet (dAnd (dCall 2 r_are_statements (dCons (dV 0) (dCons (dIx (dSqV 1) (dC (.int 2))) dNil))) (dCall 2 r_are_statements (dCons (dV 0) (dCons (dIx (dSqV 1) (dC (.int 3))) dNil))))))))
def g_are_statements (r_is_statement r_are_statements : List D → T D) : DEnv → T Fl :=
  (gRet (dAnd (dIsi "tuple" (dV 1)) (dQuant (·.all id) (dSqN (dLc (dItems (dSqV 1)) (bName 2) dYes (dCall 2 r_is_statement (dCons (dV 0) (dCons (dV 2) dNil))) [2])))))
mutual
def f_is_statement : Nat → List D → T D
  | 0 => fun _ => .fail
  | n + 1 => bodyT 2 (g_is_statement (f_is_statement n) (f_are_statements n))
def f_are_statements : Nat → List D → T D
  | 0 => fun _ => .fail
  | n + 1 => bodyT 3 (g_are_statements (f_is_statement n) (f_are_statements n))
end
theorem okr_is_statement_are_statements (T : Txt K mg) : ∀ n, FnG P w K mg base (29 + n) T.a_is_statement T.fd_is_statement ["cells", "thing"] (spD K mg 2 (f_is_statement n)) ∧ FnG P w K mg base (29 + n) T.a_are_statements T.fd_are_statements ["cells", "thing"] (spD K mg 2 (f_are_statements n))
  | 0 => ⟨FnG.never fun _ => rfl, FnG.never fun _ => rfl⟩
  | n + 1 => have ih := okr_is_statement_are_statements T n
  ⟨(FnG.of_body (k := 29 + n) T.F_is_statement sc_is_statement (g_is_statement (f_is_statement n) (f_are_statements n)) 2 2 rfl rfl fun cdv A outer s H E hr hG hu tk =>
  (dss_cons (ds_if (dt_w (dw_or (dt_not (dt_of (de_isi (Ts := "tuple") (by rfl) T.z_isinstance (by rfl) T.z_tuple (by decide +kernel) (by decide) (by decide) (by decide +kernel) (de_var 1 (pv 1))))) (dw_or (dt_cmp (or_eq (by exact Nat.lt_of_le_of_lt (Nat.add_le_add_left (by decide) _) hu)) ok_eq (de_var 1 (pv 1)) (de_tup da_nil) (nomark _)) (dw_or1 (dt_not (dt_of (de_isi (Ts := "str") (by rfl) T.z_isinstance (by rfl) T.z_str (by decide +kernel) (by decide) (by decide) (by decide +kernel) (de_ix (dq_var 1 (pv 1)) de_int))))))))
  (dss_one (ds_ret de_bl))
  dss_nil)
  (dss_cons (ds_if (dt_cmp (or_eq (by exact Nat.lt_of_le_of_lt (Nat.add_le_add_left (by decide) _) hu)) ok_eq (de_ix (dq_var 1 (pv 1)) de_int) (de_c (pe_glob (v := .str "set") (by rfl) T.m_SET T.r_SET) fun _ _ _ => .str _) (nomark _))
  (dss_one (ds_ret (de_and (de_cmp (or_eq (by exact Nat.lt_of_le_of_lt (Nat.add_le_add_left (by decide) _) hu)) ok_eq (de_len (by rfl) T.z_len (dq_var 1 (pv 1))) de_int (nomark _)) (de_and (de_call (ok_is_below T) (hr.mono (by omega)) hG tk (by rfl) T.m_is_below T.F_is_below.kp T.b_is_below (da_cons (de_var 0 (pv 0)) (da_cons (de_ix (dq_var 1 (pv 1)) de_int) da_nil))) (de_one (de_call ((okr_is_expression T 24)) (hr.mono (by omega)) hG tk (by rfl) T.m_is_expression T.F_is_expression.kp T.b_is_expression (da_cons (de_var 0 (pv 0)) (da_cons (de_ix (dq_var 1 (pv 1)) de_int) da_nil))))))))
  dss_nil)
  (dss_cons (ds_if (dt_w (dw_or (dt_cmp (or_ne (by exact Nat.lt_of_le_of_lt (Nat.add_le_add_left (by decide) _) hu)) ok_ne (de_ix (dq_var 1 (pv 1)) de_int) (de_c (pe_glob (v := .str "if") (by rfl) T.m_IF T.r_IF) fun _ _ _ => .str _) (nomark _)) (dw_or (dt_cmp (or_ne (by exact Nat.lt_of_le_of_lt (Nat.add_le_add_left (by decide) _) hu)) ok_ne (de_len (by rfl) T.z_len (dq_var 1 (pv 1))) de_int (nomark _)) (dw_or1 (dt_not (dt_of (de_call ((okr_is_expression T 24)) (hr.mono (by omega)) hG tk (by rfl) T.m_is_expression T.F_is_expression.kp T.b_is_expression (da_cons (de_var 0 (pv 0)) (da_cons (de_ix (dq_var 1 (pv 1)) de_int) da_nil)))))))))
  (dss_one (ds_ret de_bl))
  dss_nil)
  (dss_one (ds_ret (de_and (de_call (ih.2) (hr.mono (by omega)) hG tk (by rfl) T.m_are_statements T.F_are_statements.kp T.b_are_statements (da_cons (de_var 0 (pv 0)) (da_cons (de_ix (dq_var 1 (pv 1)) de_int) da_nil))) (de_one (de_call (ih.2) (hr.mono (by omega)) hG tk (by rfl) T.m_are_statements T.F_are_statements.kp T.b_are_statements (da_cons (de_var 0 (pv 0)) (da_cons (de_ix (dq_var 1 (pv 1)) de_int) da_nil))))))))))), (FnG.of_body (k := 29 + n) T.F_are_statements sc_are_statements (g_are_statements (f_is_statement n) (f_are_statements n)) 3 2 rfl rfl fun cdv A outer s H E hr hG hu tk =>
  (dss_one (ds_ret (de_and (de_isi (Ts := "tuple") (by rfl) T.z_isinstance (by rfl) T.z_tuple (by decide +kernel) (by decide) (by decide) (by decide +kernel) (de_var 1 (pv 1))) (de_one (de_all rfl (by rfl) T.z_all (dq_new (dn_lc (own := [("one", 2)]) rfl sc_are_statements.nd (di_seq (dQ_all (dq_var 1 (pv 1)))) (blkOk_by (own := [("one", 2)]) rfl) (by decide) (fun _ _ _ _ _ => (dg_name (i := 2) sc_are_statements.nd rfl (by first | exact .inl rfl | exact .inr rfl))) (fun _ _ _ _ _ => dts_nil) (fun _ _ _ _ _ => (de_call (ih.1) (hr.mono (by omega)) hG takes0 (by rfl) T.m_is_statement T.F_is_statement.kp T.b_is_statement (da_cons (de_var 0 (pv 0)) (da_cons (de_var 2 (pv 2)) da_nil))))))))))))⟩
def g_is_tuple : DEnv → T Fl :=
  (gRet (dAnd (dIsi "tuple" (dV 1)) (dOr (dB (opIs id) (dV 0) (dC .non)) (dB opEq (dLen (dSqV 1)) (dV 0)))))
def f_is_tuple : List D → T D := bodyT 2 g_is_tuple
theorem ok_is_tuple (T : Txt K mg) : FnG P w K mg base 1 T.a_is_tuple T.fd_is_tuple ["many", "thing"] (spD K mg 2 f_is_tuple) :=
  FnG.of_body T.F_is_tuple sc_is_tuple g_is_tuple 2 2 rfl rfl fun cdv A outer s H E hr hG hu tk =>
  (dss_one (ds_ret (de_and (de_isi (Ts := "tuple") (by rfl) T.z_isinstance (by rfl) T.z_tuple (by decide +kernel) (by decide) (by decide) (by decide +kernel) (de_var 1 (pv 1))) (de_one (de_or (de_cmp op_isN ok_is (de_var 0 (pv 0)) de_non (nomark _)) (de_one (de_cmp (or_eq (by exact Nat.lt_of_le_of_lt (Nat.add_le_add_left (by decide) _) hu)) ok_eq (de_len (by rfl) T.z_len (dq_var 1 (pv 1))) (de_var 0 (pv 0)) (nomark _))))))))
def g_program_fault : DEnv → T Fl :=
  (gSeq (gIf (dTNot (dT (dCall 2 f_is_tuple (dCons (dC (.int 4)) (dCons (dV 0) dNil)))))
  (gRet (dTup dNil))
  gNil)
  (gSeq (gAsg (dV 0) (bTup 4 (bCons (bName 1) (bCons (bName 2) (bCons (bName 3) (bCons (bName 4) bNil))))))
  (gSeq (gIf (dTNot (dT (dCall 2 f_is_from (dCons (dC (.int 1)) (dCons (dV 1) dNil)))))
  (gRet (dTup (dCons (dC (.int 0)) dNil)))
  gNil)
  (gSeq (gIf (dTOr (dTNot (dT (dIsi "tuple" (dV 2)))) (dTNot (dT (dQuant (·.all id) (dSqN (dLc (dItems (dSqV 2)) (bName 5) dYes (dCall 2 f_is_from (dCons (dC (.int 1)) (dCons (dV 5) dNil))) [5]))))))
  (gRet (dTup (dCons (dC (.int 1)) dNil)))
  gNil)
  (gSeq (gIf (dTNot (dT (dCall 2 f_is_tuple (dCons (dV 1) (dCons (dV 3) dNil)))))
  (gRet (dTup (dCons (dC (.int 2)) dNil)))
  gNil)
  (gSeq (gFor (dEnum (dSq (dV 3))) (bTup 2 (bCons (bName 6) (bCons (bName 7) bNil)))
  (gIf (dTNot (dT (dCall 2 (f_are_statements 24) (dCons (dLen (dSqV 2)) (dCons (dV 7) dNil)))))
  (gRet (dTup (dCons (dC (.int 2)) (dCons (dV 6) dNil))))
  gNil))
  (gRet (dIf (dT (dCall 2 (f_is_expression 24) (dCons (dLen (dSqV 2)) (dCons (dV 4) dNil)))) (dC .non) (dTup (dCons (dC (.int 3)) dNil))))))))))
def f_program_fault : List D → T D := bodyT 8 g_program_fault
theorem ok_program_fault (T : Txt K mg) : FnG P w K mg base 54 T.a_program_fault T.fd_program_fault ["value"] (spD K mg 1 f_program_fault) :=
  FnG.of_body T.F_program_fault sc_program_fault g_program_fault 8 1 rfl rfl fun cdv A outer s H E hr hG hu tk =>
  (dss_cons (ds_if (dt_not (dt_of (de_call (ok_is_tuple T) (hr.mono (by decide)) hG tk (by rfl) T.m_is_tuple T.F_is_tuple.kp T.b_is_tuple (da_cons de_int (da_cons (de_var 0 (pv 0)) da_nil)))))
  (dss_one (ds_ret (de_tup da_nil)))
  dss_nil)
  (dss_cons (ds_asg (de_var 0 (pv 0)) (dg_tup rfl (dgs_cons (dg_name (i := 1) sc_program_fault.nd rfl (by first | exact .inl rfl | exact .inr rfl)) (dgs_cons (dg_name (i := 2) sc_program_fault.nd rfl (by first | exact .inl rfl | exact .inr rfl)) (dgs_cons (dg_name (i := 3) sc_program_fault.nd rfl (by first | exact .inl rfl | exact .inr rfl)) (dgs_cons (dg_name (i := 4) sc_program_fault.nd rfl (by first | exact .inl rfl | exact .inr rfl)) dgs_nil))))))
  (dss_cons (ds_if (dt_not (dt_of (de_call (ok_is_from T) (hr.mono (by decide)) hG tk (by rfl) T.m_is_from T.F_is_from.kp T.b_is_from (da_cons de_int (da_cons (de_var 1 (pv 1)) da_nil)))))
  (dss_one (ds_ret (de_tup (da_cons de_int da_nil))))
  dss_nil)
  (dss_cons (ds_if (dt_w (dw_or (dt_not (dt_of (de_isi (Ts := "tuple") (by rfl) T.z_isinstance (by rfl) T.z_tuple (by decide +kernel) (by decide) (by decide) (by decide +kernel) (de_var 2 (pv 2))))) (dw_or1 (dt_not (dt_of (de_all rfl (by rfl) T.z_all (dq_new (dn_lc (own := [("one", 5)]) rfl sc_program_fault.nd (di_seq (dQ_all (dq_var 2 (pv 2)))) (blkOk_by (own := [("one", 5)]) rfl) (by decide) (fun _ _ _ _ _ => (dg_name (i := 5) sc_program_fault.nd rfl (by first | exact .inl rfl | exact .inr rfl))) (fun _ _ _ _ _ => dts_nil) (fun _ _ _ _ _ => (de_call (ok_is_from T) (hr.mono (by decide)) hG takes0 (by rfl) T.m_is_from T.F_is_from.kp T.b_is_from (da_cons de_int (da_cons (de_var 5 (pv 5)) da_nil))))))))))))
  (dss_one (ds_ret (de_tup (da_cons de_int da_nil))))
  dss_nil)
  (dss_cons (ds_if (dt_not (dt_of (de_call (ok_is_tuple T) (hr.mono (by decide)) hG tk (by rfl) T.m_is_tuple T.F_is_tuple.kp T.b_is_tuple (da_cons (de_var 1 (pv 1)) (da_cons (de_var 3 (pv 3)) da_nil)))))
  (dss_one (ds_ret (de_tup (da_cons de_int da_nil))))
  dss_nil)
  (dss_cons (ds_for (passes_of rfl) rfl (di_enum (by rfl) T.z_enumerate (dQ_fz (de_var 3 (pv 3)))) (dg_tup rfl (dgs_cons (dg_name (i := 6) sc_program_fault.nd rfl (by first | exact .inl rfl | exact .inr rfl)) (dgs_cons (dg_name (i := 7) sc_program_fault.nd rfl (by first | exact .inl rfl | exact .inr rfl)) dgs_nil)))
  (dss_one (ds_if (dt_not (dt_of (de_call ((okr_is_statement_are_statements T 24).2) (hr.mono (by decide)) hG tk (by rfl) T.m_are_statements T.F_are_statements.kp T.b_are_statements (da_cons (de_len (by rfl) T.z_len (dq_var 2 (pv 2))) (da_cons (de_var 7 (pv 7)) da_nil)))))
  (dss_one (ds_ret (de_tup (da_cons de_int (da_cons (de_var 6 (pv 6)) da_nil)))))
  dss_nil)))
  (dss_one (ds_ret (de_if (dt_of (de_call ((okr_is_expression T 24)) (hr.mono (by decide)) hG tk (by rfl) T.m_is_expression T.F_is_expression.kp T.b_is_expression (da_cons (de_len (by rfl) T.z_len (dq_var 2 (pv 2))) (da_cons (de_var 4 (pv 4)) da_nil)))) de_non (de_tup (da_cons de_int da_nil)))))))))))
def g_check_program : DEnv → T Fl :=
  (gSeq (gSet 1 (dCall 1 f_program_fault (dCons (dV 0) dNil)))
  (gIf (dT (dB (opIs not) (dV 1) (dC .non)))
  (gRaise1 "InvalidProgram" "place" (dV 1))
  gNil))
def f_check_program : List D → T D := bodyT 2 g_check_program
theorem ok_check_program (T : Txt K mg) : FnG P w K mg base 55 T.a_check_program T.fd_check_program ["thing"] (spD K mg 1 f_check_program) :=
  FnG.of_body T.F_check_program sc_check_program g_check_program 2 1 rfl rfl fun cdv A outer s H E hr hG hu tk =>
  (dss_cons (ds_set (i := 1) sc_check_program.nd rfl (by first | exact .inl rfl | exact .inr rfl) (de_call (ok_program_fault T) (hr.mono (by decide)) hG tk (by rfl) T.m_program_fault T.F_program_fault.kp T.b_program_fault (da_cons (de_var 0 (pv 0)) da_nil)))
  (dss_one (ds_if (dt_cmp op_notN ok_isnot (de_var 1 (pv 1)) de_non (nomark _))
  (dss_one (ds_raise1 rfl tk T.O_InvalidProgram T.n_InvalidProgram T.i_InvalidProgram T.ti_InvalidProgram (oki_InvalidProgram T) (hr.mono (by decide)) hG T.bi_InvalidProgram (by rfl) T.m_InvalidProgram (de_var 1 (pv 1))))
  dss_nil)))
def g_check_run : DEnv → T Fl :=
  (gSeq (gExpr (dCall 1 f_check_program (dCons (dV 0) dNil)))
  (gExpr (dCall 2 f_check_log (dCons (dIx (dSqV 0) (dC (.int 0))) (dCons (dV 1) dNil)))))
def f_check_run : List D → T D := bodyT 2 g_check_run
theorem ok_check_run (T : Txt K mg) : FnG P w K mg base 56 T.a_check_run T.fd_check_run ["program", "log"] (spD K mg 2 f_check_run) :=
  FnG.of_body T.F_check_run sc_check_run g_check_run 2 2 rfl rfl fun cdv A outer s H E hr hG hu tk =>
  (dss_cons (ds_expr (de_call (ok_check_program T) (hr.mono (by decide)) hG tk (by rfl) T.m_check_program T.F_check_program.kp T.b_check_program (da_cons (de_var 0 (pv 0)) da_nil)))
  (dss_one (ds_expr (de_call (ok_check_log T) (hr.mono (by decide)) hG tk (by rfl) T.m_check_log T.F_check_log.kp T.b_check_log (da_cons (de_ix (dq_var 0 (pv 0)) de_int) (da_cons (de_var 1 (pv 1)) da_nil))))))
def g_answer_by : DEnv → T Fl :=
  (gSeq (gExpr (dCall 2 f_check_run (dCons (dV 0) (dCons (dV 1) dNil))))
  (gRet (dCall 2 (f_value_of 24) (dCons (dCall 2 f_cells_in (dCons (dV 0) (dCons (dV 1) dNil))) (dCons (dIx (dSqV 0) (dC (.int 3))) dNil)))))
def f_answer_by : List D → T D := bodyT 2 g_answer_by
theorem ok_answer_by (T : Txt K mg) : FnG P w K mg base 57 T.a_answer_by T.fd_answer_by ["program", "log"] (spD K mg 2 f_answer_by) :=
  FnG.of_body T.F_answer_by sc_answer_by g_answer_by 2 2 rfl rfl fun cdv A outer s H E hr hG hu tk =>
  (dss_cons (ds_expr (de_call (ok_check_run T) (hr.mono (by decide)) hG tk (by rfl) T.m_check_run T.F_check_run.kp T.b_check_run (da_cons (de_var 0 (pv 0)) (da_cons (de_var 1 (pv 1)) da_nil))))
  (dss_one (ds_ret (de_call ((okr_value_of T 24)) (hr.mono (by decide)) hG tk (by rfl) T.m_value_of T.F_value_of.kp T.b_value_of (da_cons (de_call (ok_cells_in T) (hr.mono (by decide)) hG tk (by rfl) T.m_cells_in T.F_cells_in.kp T.b_cells_in (da_cons (de_var 0 (pv 0)) (da_cons (de_var 1 (pv 1)) da_nil))) (da_cons (de_ix (dq_var 0 (pv 0)) de_int) da_nil))))))
def g_check_other_program : DEnv → T Fl :=
  (gSeq (gExpr (dCall 1 f_check_program (dCons (dV 1) dNil)))
  (gIf (dT (dB opNe (dIx (dSqV 1) (dC (.int 0))) (dIx (dSqV 0) (dC (.int 0)))))
  gNever
  gNil))
def f_check_other_program : List D → T D := bodyT 2 g_check_other_program
theorem ok_check_other_program (T : Txt K mg) : FnG P w K mg base 56 T.a_check_other_program T.fd_check_other_program ["program", "thing"] (spD K mg 2 f_check_other_program) :=
  FnG.of_body T.F_check_other_program sc_check_other_program g_check_other_program 2 2 rfl rfl fun cdv A outer s H E hr hG hu tk =>
  (dss_cons (ds_expr (de_call (ok_check_program T) (hr.mono (by decide)) hG tk (by rfl) T.m_check_program T.F_check_program.kp T.b_check_program (da_cons (de_var 1 (pv 1)) da_nil)))
  (dss_one (ds_if (dt_cmp (or_ne (by exact Nat.lt_of_le_of_lt (Nat.add_le_add_left (by decide) _) hu)) ok_ne (de_ix (dq_var 1 (pv 1)) de_int) (de_ix (dq_var 0 (pv 0)) de_int) (nomark _))
  (dss_one ds_never)
  dss_nil)))
def f_parting_from : List D → T D := fun _ => .fail
theorem ok_parting_from (T : Txt K mg) : FnG P w K mg base 1 T.a_parting_from T.fd_parting_from ["summary", "state", "other", "other_state"] (spD K mg 4 f_parting_from) := FnG.never fun _ => rfl
def f_summary_in : List D → T D := fun _ => .fail
theorem ok_summary_in (T : Txt K mg) : FnG P w K mg base 1 T.a_summary_in T.fd_summary_in ["program"] (spD K mg 1 f_summary_in) := FnG.never fun _ => rfl
def g_program_parting : DEnv → T Fl :=
  (gSeq (gExpr (dCall 1 f_check_program (dCons (dV 0) dNil)))
  (gSeq (gExpr (dCall 2 f_check_other_program (dCons (dV 0) (dCons (dV 1) dNil))))
  (gRet (dCall 4 f_parting_from (dCons (dCall 1 f_summary_in (dCons (dV 0) dNil)) (dCons (dC (.int 0)) (dCons (dCall 1 f_summary_in (dCons (dV 1) dNil)) (dCons (dC (.int 0)) dNil))))))))
def f_program_parting : List D → T D := bodyT 2 g_program_parting
theorem ok_program_parting (T : Txt K mg) : FnG P w K mg base 57 T.a_program_parting T.fd_program_parting ["program", "other_program"] (spD K mg 2 f_program_parting) :=
  FnG.of_body T.F_program_parting sc_program_parting g_program_parting 2 2 rfl rfl fun cdv A outer s H E hr hG hu tk =>
  (dss_cons (ds_expr (de_call (ok_check_program T) (hr.mono (by decide)) hG tk (by rfl) T.m_check_program T.F_check_program.kp T.b_check_program (da_cons (de_var 0 (pv 0)) da_nil)))
  (dss_cons (ds_expr (de_call (ok_check_other_program T) (hr.mono (by decide)) hG tk (by rfl) T.m_check_other_program T.F_check_other_program.kp T.b_check_other_program (da_cons (de_var 0 (pv 0)) (da_cons (de_var 1 (pv 1)) da_nil))))
  (dss_one (ds_ret (de_call (ok_parting_from T) (hr.mono (by decide)) hG tk (by rfl) T.m_parting_from T.F_parting_from.kp T.b_parting_from (da_cons (de_call (ok_summary_in T) (hr.mono (by decide)) hG tk (by rfl) T.m_summary_in T.F_summary_in.kp T.b_summary_in (da_cons (de_var 0 (pv 0)) da_nil)) (da_cons de_int (da_cons (de_call (ok_summary_in T) (hr.mono (by decide)) hG tk (by rfl) T.m_summary_in T.F_summary_in.kp T.b_summary_in (da_cons (de_var 1 (pv 1)) da_nil)) (da_cons de_int da_nil)))))))))
def g_summary_of_program : DEnv → T Fl :=
  (gSeq (gExpr (dCall 1 f_check_program (dCons (dV 0) dNil)))
  (gRet (dCall 1 f_summary_in (dCons (dV 0) dNil))))
def f_summary_of_program : List D → T D := bodyT 1 g_summary_of_program
theorem ok_summary_of_program (T : Txt K mg) : FnG P w K mg base 56 T.a_summary_of_program T.fd_summary_of_program ["program"] (spD K mg 1 f_summary_of_program) :=
  FnG.of_body T.F_summary_of_program sc_summary_of_program g_summary_of_program 1 1 rfl rfl fun cdv A outer s H E hr hG hu tk =>
  (dss_cons (ds_expr (de_call (ok_check_program T) (hr.mono (by decide)) hG tk (by rfl) T.m_check_program T.F_check_program.kp T.b_check_program (da_cons (de_var 0 (pv 0)) da_nil)))
  (dss_one (ds_ret (de_call (ok_summary_in T) (hr.mono (by decide)) hG tk (by rfl) T.m_summary_in T.F_summary_in.kp T.b_summary_in (da_cons (de_var 0 (pv 0)) da_nil)))))
def g_law_told : DEnv → T Fl :=
  (gSeq (gSet 2 (dC .non))
  (gSeq (gTry (gIf (dT (dB opEq (dV 0) (dC (.int 0))))
  (gExpr (dCallK 1 0 1 [0] f_summary_of_program dNil (dCons (dV 1) dNil)))
  (gIf (dT (dB opEq (dV 0) (dC (.int 1))))
  (gExpr (dCall 2 f_answer_by (dCons (dV 1) (dCons (dTup dNil) dNil))))
  (gExpr (dCall 2 f_program_parting (dCons (dTup (dCons (dC (.int 1)) (dCons (dTup dNil) (dCons (dTup (dCons (dTup dNil) dNil)) (dCons (dTup (dCons (dC (.str "value")) (dCons (dC (.int 0)) dNil))) dNil))))) (dCons (dV 1) dNil))))))
  [⟨some (3, "InvalidProgram"), tb_InvalidProgram, fun a d => (gSet 2 (dXf a d 3 "place"))⟩, ⟨none, tb_ArriveError, fun _ _ => (gSet 2 (dC (.str "other")))⟩])
  (gRet (dV 2))))
def f_law_told : List D → T D := bodyT 4 g_law_told
theorem ok_law_told (T : Txt K mg) : FnG P w K mg base 58 T.a_law_told T.fd_law_told ["which", "value"] (spD K mg 2 f_law_told) :=
  FnG.of_body T.F_law_told sc_law_told g_law_told 4 2 rfl rfl fun cdv A outer s H E hr hG hu tk =>
  (dss_cons (ds_set (i := 2) sc_law_told.nd rfl (by first | exact .inl rfl | exact .inr rfl) de_non)
  (dss_cons (ds_try (cs := [(.ref T.a_InvalidProgram, ⟨some (3, "InvalidProgram"), tb_InvalidProgram, fun a d => (gSet 2 (dXf a d 3 "place"))⟩), (.ref T.a_ArriveError, ⟨none, tb_ArriveError, fun _ _ => (gSet 2 (dC (.str "other")))⟩)]) rfl rfl sc_law_told.nd tk (fun W2 pn xe tk hp => (dss_one (ds_if (dt_cmp (or_eq (by exact Nat.lt_of_le_of_lt (Nat.add_le_add_left (by decide) _) hu)) ok_eq (de_var 0 (pv 0)) de_int (nomark _))
  (dss_one (ds_expr (de_callK0 (ks := ["program"]) (ok_summary_of_program T) (hr.mono (by decide)) hG tk (by rfl) T.m_summary_of_program T.F_summary_of_program.kp (kw_summary_of_program_p0_program T) rfl (dk_cons (de_var 1 (pv 1)) dk_nil))))
  (dss_one (ds_if (dt_cmp (or_eq (by exact Nat.lt_of_le_of_lt (Nat.add_le_add_left (by decide) _) hu)) ok_eq (de_var 0 (pv 0)) de_int (nomark _))
  (dss_one (ds_expr (de_call (ok_answer_by T) (hr.mono (by decide)) hG tk (by rfl) T.m_answer_by T.F_answer_by.kp T.b_answer_by (da_cons (de_var 1 (pv 1)) (da_cons (de_tup da_nil) da_nil)))))
  (dss_one (ds_expr (de_call (ok_program_parting T) (hr.mono (by decide)) hG tk (by rfl) T.m_program_parting T.F_program_parting.kp T.b_program_parting (da_cons (de_tup (da_cons de_int (da_cons (de_tup da_nil) (da_cons (de_tup (da_cons (de_tup da_nil) da_nil)) (da_cons (de_tup (da_cons de_str (da_cons de_int da_nil))) da_nil))))) (da_cons (de_var 1 (pv 1)) da_nil))))))))))
  (List.forall_mem_cons.mpr ⟨(tabk_InvalidProgram T), (List.forall_mem_cons.mpr ⟨(tabk_ArriveError T), (fun _ h => nomatch h)⟩)⟩)
  (mix_named (cs := [(.ref T.a_ArriveError, ⟨none, tb_ArriveError, fun _ _ => (gSet 2 (dC (.str "other")))⟩)]) (i := 3) (tab := tb_InvalidProgram) (g := fun a d => (gSet 2 (dXf a d 3 "place"))) ⟨by rfl, by decide, .inl T.m_InvalidProgram⟩ T.m_InvalidProgram rfl rfl (fun a oe d pn hz hf => (dss_one (ds_set (i := 2) sc_law_told.nd rfl (by first | exact .inl rfl | exact .inr rfl) (de_xf 3 T.xf_InvalidProgram T.n_InvalidProgram hz hf (pv 3))))) (mix_plain (cs := []) (tab := tb_ArriveError) (g := fun _ _ => (gSet 2 (dC (.str "other")))) ⟨by rfl, by decide, .inl T.m_ArriveError⟩ (fun a oe d pn => (dss_one (ds_set (i := 2) sc_law_told.nd rfl (by first | exact .inl rfl | exact .inr rfl) de_str))) mix_nil)))
  (dss_one (ds_ret (de_var 2 (pv 2))))))
def g_is_program : DEnv → T Fl :=
  (gRet (dB (opIs id) (dCall 1 f_program_fault (dCons (dV 0) dNil)) (dC .non)))
def f_is_program : List D → T D := bodyT 1 g_is_program
theorem ok_is_program (T : Txt K mg) : FnG P w K mg base 55 T.a_is_program T.fd_is_program ["value"] (spD K mg 1 f_is_program) :=
  FnG.of_body T.F_is_program sc_is_program g_is_program 1 1 rfl rfl fun cdv A outer s H E hr hG hu tk =>
  (dss_one (ds_ret (de_cmp op_isN ok_is (de_call (ok_program_fault T) (hr.mono (by decide)) hG tk (by rfl) T.m_program_fault T.F_program_fault.kp T.b_program_fault (da_cons (de_var 0 (pv 0)) da_nil)) de_non (nomark _))))
def g_law_right : DEnv → T Fl :=
  (gSeq (gSet 1 (dCall 2 f_law_program (dCons (dV 0) (dCons (dB opAdd (dC (.int 1)) (dCall 2 f_law_take (dCons (dV 0) (dCons (dC (.int 3)) dNil)))) dNil))))
  (gSeq (gIf (dTNot (dT (dCall 2 f_law_equal (dCons (dFz (dLst (dCons (dCall 1 f_program_fault (dCons (dV 1) dNil)) (dCons (dCallK 1 0 1 [0] f_is_program dNil (dCons (dV 1) dNil)) (dCons (dCall 1 f_law_fault (dCons (dV 1) dNil)) dNil))))) (dCons (dFz (dLst (dCons (dC .non) (dCons (dC (.bl true)) (dCons (dC .non) dNil))))) dNil)))))
  (gRet (dC (.bl false)))
  gNil)
  (gSeq (gFor (dRange1 (dC (.int 8))) (bName 2)
  (gSeq (gSet 3 (dIf (dT (dB opGt (dV 2) (dC (.int 0)))) (dCall 2 (f_law_bent_part 24) (dCons (dV 0) (dCons (dV 1) dNil))) (dCall 2 f_law_choose (dCons (dV 0) (dCons (dFz (dLst (dCons (dC .non) (dCons (dTup dNil) (dCons (dC (.int 0)) (dCons (dC (.str "program")) (dCons (dFz (dListOf (dSqV 1))) (dCons (dB opAdd (dV 1) (dTup (dCons (dC (.int 0)) dNil))) (dCons (dSlT (dSqV 1) dNoP (dP (dC (.int 3)))) dNil))))))))) dNil)))))
  (gSeq (gSet 4 (dCall 1 f_law_fault (dCons (dV 3) dNil)))
  (gSeq (gIf (dTNot (dT (dCall 2 f_law_equal (dCons (dFz (dLst (dCons (dCall 1 f_program_fault (dCons (dV 3) dNil)) (dCons (dCallK 1 0 1 [0] f_program_fault dNil (dCons (dV 3) dNil)) (dCons (dCall 1 f_is_program (dCons (dV 3) dNil)) dNil))))) (dCons (dFz (dLst (dCons (dV 4) (dCons (dV 4) (dCons (dB (opIs id) (dV 4) (dC .non)) dNil))))) dNil)))))
  (gRet (dC (.bl false)))
  gNil)
  (gSeq (gIf (dTAnd (dT (dB (opIs not) (dV 4) (dC .non))) (dTNot (dT (dCall 2 f_law_equal (dCons (dFz (dLc (dRange1 (dC (.int 3))) (bName 5) dYes (dCall 2 f_law_told (dCons (dV 5) (dCons (dV 3) dNil))) [5])) (dCons (dFz (dRepL (dSqN (dLst (dCons (dV 4) dNil))) (dC (.int 3)))) dNil))))))
  (gRet (dC (.bl false)))
  gNil)
  (gIf (dTAnd (dT (dB (opIs id) (dV 4) (dC .non))) (dTAnd (dT (dB opLt (dIx (dSqV 3) (dC (.int 0))) (dC (.int 5)))) (dT (dB (opIs not) (dCall 2 f_law_told (dCons (dC (.int 1)) (dCons (dV 3) dNil))) (dC .non)))))
  (gRet (dC (.bl false)))
  gNil))))))
  (gRet (dC (.bl true))))))
def f_law_right : List D → T D := bodyT 6 g_law_right
theorem ok_law_right (T : Txt K mg) : FnG P w K mg base 59 T.a_law_right T.fd_law_right ["well"] (spD K mg 1 f_law_right) :=
  FnG.of_body T.F_law_right sc_law_right g_law_right 6 1 rfl rfl fun cdv A outer s H E hr hG hu tk =>
  (dss_cons (ds_set (i := 1) sc_law_right.nd rfl (by first | exact .inl rfl | exact .inr rfl) (de_call (ok_law_program T) (hr.mono (by decide)) hG tk (by rfl) T.m_law_program T.F_law_program.kp T.b_law_program (da_cons (de_var 0 (pv 0)) (da_cons (de_bin or_add ok_add de_int (de_call (ok_law_take T) (hr.mono (by decide)) hG tk (by rfl) T.m_law_take T.F_law_take.kp T.b_law_take (da_cons (de_var 0 (pv 0)) (da_cons de_int da_nil)))) da_nil))))
  (dss_cons (ds_if (dt_not (dt_of (de_call (ok_law_equal T) (hr.mono (by decide)) hG tk (by rfl) T.m_law_equal T.F_law_equal.kp T.b_law_equal (da_cons (de_fz (dn_lst (da_cons (de_call (ok_program_fault T) (hr.mono (by decide)) hG tk (by rfl) T.m_program_fault T.F_program_fault.kp T.b_program_fault (da_cons (de_var 1 (pv 1)) da_nil)) (da_cons (de_callK0 (ks := ["value"]) (ok_is_program T) (hr.mono (by decide)) hG tk (by rfl) T.m_is_program T.F_is_program.kp (kw_is_program_p0_value T) rfl (dk_cons (de_var 1 (pv 1)) dk_nil)) (da_cons (de_call (ok_law_fault T) (hr.mono (by decide)) hG tk (by rfl) T.m_law_fault T.F_law_fault.kp T.b_law_fault (da_cons (de_var 1 (pv 1)) da_nil)) da_nil))))) (da_cons (de_fz (dn_lst (da_cons de_non (da_cons de_bl (da_cons de_non da_nil))))) da_nil)))))
  (dss_one (ds_ret de_bl))
  dss_nil)
  (dss_cons (ds_for (passes_of rfl) rfl (di_range1 (by rfl) T.z_range de_int) (dg_name (i := 2) sc_law_right.nd rfl (by first | exact .inl rfl | exact .inr rfl))
  (dss_cons (ds_set (i := 3) sc_law_right.nd rfl (by first | exact .inl rfl | exact .inr rfl) (de_if (dt_cmp op_gt ok_gt (de_var 2 (pv 2)) de_int (nomark _)) (de_call ((okr_law_bent_part T 24)) (hr.mono (by decide)) hG tk (by rfl) T.m_law_bent_part T.F_law_bent_part.kp T.b_law_bent_part (da_cons (de_var 0 (pv 0)) (da_cons (de_var 1 (pv 1)) da_nil))) (de_call (ok_law_choose T) (hr.mono (by decide)) hG tk (by rfl) T.m_law_choose T.F_law_choose.kp T.b_law_choose (da_cons (de_var 0 (pv 0)) (da_cons (de_fz (dn_lst (da_cons de_non (da_cons (de_tup da_nil) (da_cons de_int (da_cons de_str (da_cons (de_fz (dn_listOf (by rfl) T.z_list (dq_var 1 (pv 1)))) (da_cons (de_bin or_add ok_add (de_var 1 (pv 1)) (de_tup (da_cons de_int da_nil))) (da_cons (de_slT (dq_var 1 (pv 1)) do_none (do_some de_int)) da_nil))))))))) da_nil)))))
  (dss_cons (ds_set (i := 4) sc_law_right.nd rfl (by first | exact .inl rfl | exact .inr rfl) (de_call (ok_law_fault T) (hr.mono (by decide)) hG tk (by rfl) T.m_law_fault T.F_law_fault.kp T.b_law_fault (da_cons (de_var 3 (pv 3)) da_nil)))
  (dss_cons (ds_if (dt_not (dt_of (de_call (ok_law_equal T) (hr.mono (by decide)) hG tk (by rfl) T.m_law_equal T.F_law_equal.kp T.b_law_equal (da_cons (de_fz (dn_lst (da_cons (de_call (ok_program_fault T) (hr.mono (by decide)) hG tk (by rfl) T.m_program_fault T.F_program_fault.kp T.b_program_fault (da_cons (de_var 3 (pv 3)) da_nil)) (da_cons (de_callK0 (ks := ["value"]) (ok_program_fault T) (hr.mono (by decide)) hG tk (by rfl) T.m_program_fault T.F_program_fault.kp (kw_program_fault_p0_value T) rfl (dk_cons (de_var 3 (pv 3)) dk_nil)) (da_cons (de_call (ok_is_program T) (hr.mono (by decide)) hG tk (by rfl) T.m_is_program T.F_is_program.kp T.b_is_program (da_cons (de_var 3 (pv 3)) da_nil)) da_nil))))) (da_cons (de_fz (dn_lst (da_cons (de_var 4 (pv 4)) (da_cons (de_var 4 (pv 4)) (da_cons (de_cmp op_isN ok_is (de_var 4 (pv 4)) de_non (nomark _)) da_nil))))) da_nil)))))
  (dss_one (ds_ret de_bl))
  dss_nil)
  (dss_cons (ds_if (dt_w (dw_and (dt_cmp op_notN ok_isnot (de_var 4 (pv 4)) de_non (nomark _)) (dw_and1 (dt_not (dt_of (de_call (ok_law_equal T) (hr.mono (by decide)) hG tk (by rfl) T.m_law_equal T.F_law_equal.kp T.b_law_equal (da_cons (de_fz (dn_lc (own := [("which", 5)]) rfl sc_law_right.nd (di_range1 (by rfl) T.z_range de_int) (blkOk_by (own := [("which", 5)]) rfl) (by decide) (fun _ _ _ _ _ => (dg_name (i := 5) sc_law_right.nd rfl (by first | exact .inl rfl | exact .inr rfl))) (fun _ _ _ _ _ => dts_nil) (fun _ _ _ _ _ => (de_call (ok_law_told T) (hr.mono (by decide)) hG takes0 (by rfl) T.m_law_told T.F_law_told.kp T.b_law_told (da_cons (de_var 5 (pv 5)) (da_cons (de_var 3 (pv 3)) da_nil)))))) (da_cons (de_fz (dn_repL (dq_new (dn_lst (da_cons (de_var 4 (pv 4)) da_nil))) de_int)) da_nil))))))))
  (dss_one (ds_ret de_bl))
  dss_nil)
  (dss_one (ds_if (dt_w (dw_and (dt_cmp op_isN ok_is (de_var 4 (pv 4)) de_non (nomark _)) (dw_and (dt_cmp op_lt ok_lt (de_ix (dq_var 3 (pv 3)) de_int) de_int (nomark _)) (dw_and1 (dt_cmp op_notN ok_isnot (de_call (ok_law_told T) (hr.mono (by decide)) hG tk (by rfl) T.m_law_told T.F_law_told.kp T.b_law_told (da_cons de_int (da_cons (de_var 3 (pv 3)) da_nil))) de_non (nomark _))))))
  (dss_one (ds_ret de_bl))
  dss_nil)))))))
  (dss_one (ds_ret de_bl)))))
def g_in : DEnv → T Fl :=
  (gFor (dRange1 (dC (.int 2))) (bName 3)
  (gIf (dTNot (dT (dCall 1 f_law_right (dCons (dV 2) dNil))))
  (gRet (dC (.bl false)))
  gNil))
theorem ok_law (T : Txt K mg) (hin : ∀ a i, (g_in (envW a i)).wp (fun fl _ => ∃ s1 s2 s3, fl = .nx [.sh (.raw a), s1, s2, s3]) (fun _ _ => False) 0) : FnG P w K mg base 60 T.a_law T.fd_law ["script"] (spLaw K) := by
  refine FnG.of T.F_law sc_law (fun vs H Q E h => by obtain ⟨a, ns, rfl, _⟩ := h; rfl) fun cdv A outer s H vs Q E hr hG hu tk h => ?_
  obtain ⟨a, ns, rfl, ho, hS, hlen, hbits, q⟩ := h
  have hl : (ns.map V.int).length ≤ 63 := by rw [List.length_map]; exact hlen
  refine ⟨_, pss_cons (ps_for (passes_of rfl) rfl (pi_range1 (by rfl) T.z_range (pa_cons (pe_callB (call_max2 rfl) (by rfl) T.z_max (by decide +kernel) (pa_cons pe_int (pa_cons (pe_callB (call_min2 rfl) (by rfl) T.z_min (by decide +kernel) (pa_cons pe_int (pa_cons (pe_callB call_len_seq (by rfl) T.z_len (by decide +kernel) (pa_cons (pv 0) pa_nil)) pa_nil))) pa_nil))) pa_nil)) (pg_name (i := 1) sc_law.nd rfl (.inl rfl))
      (pss_cons (ps_set (i := 2) sc_law.nd rfl (.inl rfl) (pe_callG (ok_law_well T) (hr.mono (by decide)) hG tk (by rfl) T.m_law_well T.F_law_well.kp T.b_law_well (pa_cons (pv 0) (pa_cons (pv 1) pa_nil))))
      (pss_one ((ds_for (passes_of rfl) rfl (di_range1 (by rfl) T.z_range de_int) (dg_name (i := 3) sc_law.nd rfl (by first | exact .inl rfl | exact .inr rfl))
  (dss_one (ds_if (dt_not (dt_of (de_call (ok_law_right T) (hr.mono (by decide)) hG tk (by rfl) T.m_law_right T.F_law_right.kp T.b_law_right (da_cons (de_var 2 (pv 2)) da_nil))))
  (dss_one (ds_ret de_bl))
  dss_nil))) : PS _ _ (sD K mg _ g_in)))))
    (pss_one (ps_ret pe_bl)), ?_⟩
  refine ⟨_, rfl, a, _, rfl, .inl hS, _, _, rfl, _, _, rfl, _, rfl, by split <;> split <;> omega, by split <;> split <;> omega, for_range (fun _ σ H3 => (∃ v1 v2 v3, σ = [some (.ref a), v1, v2, v3]) ∧ ∀ b o, H b = some o → H3 b = some o) ⟨⟨none, none, none, rfl⟩, fun _ _ z => z⟩ ?_ ?_⟩
  · rintro i σ H3 hi ⟨⟨v1, v2, v3, rfl⟩, k0⟩
    have hi2 : (i : Int) < 64 := by
      have : i < 64 := by
        revert hi
        split <;> split <;> omega
      omega
    refine ⟨_, rfl, _, rfl, a, ns, _, rfl, SqL.keep k0 hS, hlen, hbits, by omega, by omega, fun H' p x y k np hp hx0 hx1 hy => ?_⟩
    exact main_inner ho k0 k np hp hx0 hx1 hy (hin _ _) fun σ2 H2 h1 h2 => ⟨h1, h2⟩
  · rintro σ H3 _
    exact q H3

end
end
end G74
namespace G74
open PySem AL
noncomputable section
@[simp] theorem e_is_integer (d : D) : f_is_integer [d] = if d.known then .ok (.bl (match d with | .int _ => true | _ => false)) else .fail := by
  cases d <;> simp [f_is_integer, g_is_integer, env0]
@[simp] theorem e_is_from (lo : Int) (d : D) : f_is_from [.int lo, d] = if d.known then .ok (.bl (match d with | .int i => decide (lo ≤ i) | _ => false)) else .fail := by
  cases d <;> simp [f_is_from, g_is_from, env0]
@[simp] theorem e_is_below (m : Int) (d : D) : f_is_below [.int m, d] = if d.known then .ok (.bl (match d with | .int i => decide (0 ≤ i) && decide (i < m) | _ => false)) else .fail := by
  cases d with
  | int i => by_cases h : 0 ≤ i <;> simp [f_is_below, g_is_below, env0, h]
  | _ => simp [f_is_below, g_is_below, env0]
@[simp] theorem e_is_tuple (m : Int) (d : D) : f_is_tuple [.int m, d] = if d.known then .ok (.bl (match d with | .tup xs => decide ((xs.length : Int) = m) | _ => false)) else .fail := by
  cases d <;> simp [f_is_tuple, g_is_tuple, env0, Sq.xs]
/-- all of a row are below m -/
def belowB (m : Int) (d : D) : Bool := match d with | .int i => decide (0 ≤ i) && decide (i < m) | _ => false
theorem asBools_map (f : D → Bool) : ∀ xs : List D, asBools (xs.map fun x => D.bl (f x)) = some (xs.map f)
  | [] => rfl
  | x :: r => by simp [asBools, asBools_map f r]
/-- the first index that is not below -/
def rowFault (m : Int) (xs : List D) : D := match xs.findIdx? fun d => !belowB m d with
  | none => .non
  | some i => .int (i : Nat)
theorem e_row_fault (m : Int) (xs : List D) (hk : ∀ x ∈ xs, x.known = true) : f_row_fault [.int m, .tup xs] = .ok (rowFault m xs) := by
  obtain ⟨ρ', h, _⟩ := for_find (fb := bTup 2 (bCons (bName 2) (bCons (bName 3) bNil))) (g := gIf (dTNot (dT (dCall 2 f_is_below (dCons (dV 0) (dCons (dV 3) dNil))))) (gRet (dV 2)) gNil) (I := fun ρ => ∃ s2 s3, ρ = [.sh (.int m), .sh (.tup xs), s2, s3])
    (p := fun d => match d with | .tup [_, y] => !belowB m y | _ => false) (r := fun d => match d with | .tup [i, _] => i | _ => .non) (xs := numbered 0 xs) (ρ := [.sh (.int m), .sh (.tup xs), .no, .no]) ⟨_, _, rfl⟩ fun x hx ρ hI => by
    obtain ⟨s2, s3, rfl⟩ := hI
    obtain ⟨i, y, hy, rfl⟩ := numbered_mem hx
    refine ⟨_, rfl, ?_⟩
    cases hb : belowB m y with
    | true => exact .inr ⟨by simp [hb], [.sh (.int m), .sh (.tup xs), .sh (.int i), .sh y], .inl (by
        have hb' := hb; unfold belowB at hb'
        simp [hk y hy, hb']), _, _, rfl⟩
    | false => exact .inl ⟨by simp [hb], by
        have hb' := hb; unfold belowB at hb'
        simp [hk y hy, hb']⟩
  simp only [f_row_fault, g_row_fault]
  simp [env0, Sq.xs, h, rowFault]
  rw [numbered_find (q := fun d => !belowB m d) fun _ _ => rfl]
  cases e : xs.findIdx? fun d => !belowB m d with
  | none => simp
  | some i =>
    have hi : i < xs.length := (List.findIdx?_eq_some_iff_findIdx_eq.mp e).1
    simp [List.getElem?_eq_getElem hi]
theorem below_nD {m n : Nat} (h : n < m) : belowB (m : Nat) (nD n) = true := by simp [belowB, nD]; omega
theorem e_check_log {E : Nat} {log : List Nat} (h : ∀ e ∈ log, e < E) : f_check_log [nD E, rD log] = .ok .non := by
  have e : f_row_fault [nD E, rD log] = .ok .non := by
    simp only [nD, rD]
    rw [e_row_fault]
    · unfold rowFault
      have : (log.map nD).findIdx? (fun d => !belowB (E : Nat) d) = none := List.findIdx?_eq_none_iff.mpr fun d hd => by
        obtain ⟨x, hx, rfl⟩ := List.mem_map.mp hd
        rw [below_nD (h x hx)]
        rfl
      rw [this]
    · intro x hx
      obtain ⟨y, _, rfl⟩ := List.mem_map.mp hx
      rfl
  simp [f_check_log, g_check_log, env0, e]
theorem take_snoc {log : List Nat} {i e : Nat} (h : log[i]? = some e) : log.take (i + 1) = log.take i ++ [e] := by
  rw [List.take_add_one, h]; rfl
theorem log_get {log : List Nat} {i : Nat} {x : D} (h : (log.map nD)[i]? = some x) : ∃ e, log[i]? = some e ∧ x = nD e ∧ e ∈ log := by
  rw [List.getElem?_map] at h
  cases e : log[i]? with
  | none => rw [e] at h; cases h
  | some y => rw [e] at h; exact ⟨y, rfl, (Option.some.inj h).symm, List.mem_of_getElem? e⟩
theorem e_law_equal {d : D} (h : d.canShow) : f_law_equal [d, d] = .ok (.bl true) := by
  simp [f_law_equal, g_law_equal, env0, h]
/-! ## expressions, statements -/
inductive Ex where
  | val (n : Nat) | cell (i : Nat) | op (k : Nat) (a b : Ex)
def word : Nat → Str
  | 0 => "plus" | 1 => "minus" | 2 => "least" | 3 => "greatest" | 4 => "equal" | _ => "less"
def Ex.d : Ex → D
  | .val n => .tup [.str "value", nD n]
  | .cell i => .tup [.str "cell", nD i]
  | .op k a b => .tup [.str (word k), a.d, b.d]
def Ex.ok (c : Nat) : Ex → Prop
  | .val n => n < 4
  | .cell i => i < c
  | .op k a b => k < 6 ∧ a.ok c ∧ b.ok c
def Ex.dep : Ex → Nat
  | .op _ a b => max a.dep b.dep + 1
  | _ => 0
def opv (k : Nat) (x y : Int) : Int := match k with
  | 0 => x + y
  | 1 => if y < x then x - y else 0
  | 2 => if x < y then x else y
  | 3 => if x < y then y else x
  | 4 => if x = y then 1 else 0
  | _ => if x < y then 1 else 0
def at0 (cs : List Nat) (i : Nat) : Nat := cs.getD i 0
def ev (cs : List Nat) : Ex → Int
  | .val n => (n : Nat)
  | .cell i => (at0 cs i : Nat)
  | .op k a b => opv k (ev cs a) (ev cs b)
theorem at0_get {cs : List Nat} {i : Nat} (h : i < cs.length) : (cs.map nD)[i]? = some (.int (at0 cs i : Nat)) := by
  unfold at0
  rw [List.getElem?_map, List.getD_eq_getElem?_getD, List.getElem?_eq_getElem h]
  rfl
theorem six {k : Nat} (h : k < 6) : k = 0 ∨ k = 1 ∨ k = 2 ∨ k = 3 ∨ k = 4 ∨ k = 5 := by omega
@[simp] theorem w_cv : decide (("cell" : Str) = "value") = false := by decide +kernel
@[simp] theorem w_wv (k : Nat) : decide (word k = "value") = false := by unfold word; split <;> decide +kernel
@[simp] theorem w_wc (k : Nat) : decide (word k = "cell") = false := by unfold word; split <;> decide +kernel
def isW (k j : Nat) : Bool := decide (word k = word j)
theorem isW_eq {k j : Nat} (hk : k < 6) (hj : j < 6) : isW k j = decide (k = j) := by
  rcases six hk with rfl | rfl | rfl | rfl | rfl | rfl <;> rcases six hj with rfl | rfl | rfl | rfl | rfl | rfl <;> decide +kernel
theorem w_0 {k : Nat} (hk : k < 6) : decide (word k = "plus") = decide (k = 0) := isW_eq (j := 0) hk (by decide)
theorem w_1 {k : Nat} (hk : k < 6) : decide (word k = "minus") = decide (k = 1) := isW_eq (j := 1) hk (by decide)
theorem w_2 {k : Nat} (hk : k < 6) : decide (word k = "least") = decide (k = 2) := isW_eq (j := 2) hk (by decide)
theorem w_3 {k : Nat} (hk : k < 6) : decide (word k = "greatest") = decide (k = 3) := isW_eq (j := 3) hk (by decide)
theorem w_4 {k : Nat} (hk : k < 6) : decide (word k = "equal") = decide (k = 4) := isW_eq (j := 4) hk (by decide)
theorem e_of_two {k : Nat} (hk : k < 6) (x y : Int) : f_of_two [.str (word k), .int x, .int y] = .ok (.int (opv k x y)) := by
  rcases six hk with rfl | rfl | rfl | rfl | rfl | rfl <;> simp [f_of_two, g_of_two, env0, opv, w_0, w_1, w_2, w_3, w_4] <;> split <;> first | rfl | omega | (split <;> omega)
theorem e_value_of (cs : List Nat) : ∀ (e : Ex) (n : Nat), e.dep < n → e.ok cs.length → f_value_of n [.tup (cs.map nD), e.d] = .ok (.int (ev cs e)) := by
  intro e
  induction e with
  | val m =>
    intro n h ho
    obtain ⟨n, rfl⟩ : ∃ m, n = m + 1 := ⟨n - 1, by omega⟩
    simp [f_value_of, g_value_of, env0, Ex.d, ev, nD]
  | cell i =>
    intro n h ho
    obtain ⟨n, rfl⟩ : ∃ m, n = m + 1 := ⟨n - 1, by omega⟩
    have h1 : opIx (.t (cs.map nD)) (.int (i : Nat)) = .ok (.int (at0 cs i : Nat)) := opIx_t (at0_get ho)
    simp [f_value_of, g_value_of, env0, Ex.d, ev, nD, h1]
  | op k a b iha ihb =>
    intro n h ho
    obtain ⟨n, rfl⟩ : ∃ m, n = m + 1 := ⟨n - 1, by omega⟩
    simp only [Ex.dep] at h
    obtain ⟨hk, oa, ob⟩ := ho
    have h1 := iha n (by omega) oa
    have h2 := ihb n (by omega) ob
    simp [f_value_of, g_value_of, env0, Ex.d, ev, h1, h2, e_of_two hk]
/-! ## the judges -/
def six6 : List Str := ["plus", "minus", "least", "greatest", "equal", "less"]
def sixD : List D := six6.map D.str
theorem w_vc : (("value" : Str) = "cell") = False := eq_false (by decide +kernel)
def isOp (w : Str) : Bool := inD (.str w) sixD
def from0 (lo : Int) (d : D) : Bool := match d with | .int i => decide (lo ≤ i) | _ => false
def isEx (c : Nat) : D → Bool
  | .tup [.str w, a] => (decide (w = "value") && from0 0 a) || (decide (w = "cell") && belowB c a)
  | .tup [.str w, a, b] => isOp w && isEx c a && isEx c b
  | _ => false
theorem plains_six : D.plains sixD = true := by decide +kernel
theorem opIn_six {w : Str} (h : PyData.strOk w = true) : opIn id (.str w) (.t sixD) = .ok (.bl (isOp w)) := by
  unfold opIn
  rw [if_pos ⟨by simp only [D.plain, h], by simp only [D.py, PyData.depth]; decide, plains_six⟩]
  rfl
theorem op_value : isOp "value" = false := by decide +kernel
theorem op_cell : isOp "cell" = false := by decide +kernel
@[simp] theorem cut_tail (x : D) (r : List D) : cutD (x :: r) (some 1) none = r := by
  unfold cutD
  rw [show (some (1 : Int)) = some ((1 : Nat) : Int) from rfl, HT.sIx_nat, HT.sIx_none]
  have h : min 1 (x :: r).length = 1 := by simp
  rw [h, List.drop_one, List.tail_cons]
  simp
theorem strsD_six : strsD ["plus", "minus", "least", "greatest", "equal", "less"] = .tup sixD := rfl
theorem plain_cons {x : D} {r : List D} (h : D.plains (x :: r) = true) : x.plain = true ∧ D.plains r = true := by
  simpa only [D.plains, Bool.and_eq_true] using h
theorem deps_cons {x : D} {r : List D} {n : Nat} (h : D.deps (x :: r) < n) : x.dep < n ∧ D.deps r < n := by
  simp only [D.deps] at h
  omega
theorem len4 (r : List D) (k : Int) (h : k < 4) : decide ((r.length : Int) + 1 + 1 + 1 + 1 = k) = false := decide_eq_false (by omega)
theorem e_is_expression (c : Nat) : ∀ (n : Nat) (d : D), d.dep < n → d.plain = true → f_is_expression n [nD c, d] = .ok (.bl (isEx c d)) := by
  intro n
  induction n with
  | zero => intro d h; omega
  | succ n ih =>
    intro d h hp
    have hk := plain_known hp
    cases d with
    | tup xs =>
      have hps : D.plains xs = true := by simpa only [D.plain] using hp
      have hn := opEq_nil (xs := xs) hps
      cases xs with
      | nil => simp [f_is_expression, g_is_expression, env0, nD, hn, isEx]
      | cons x r =>
        have hx := plain_known (plain_cons hps).1
        cases x with
        | str w =>
          have hw : PyData.strOk w = true := by simpa only [D.plain] using (plain_cons hps).1
          have hin := opIn_six hw
          have hd : D.deps r < n := by
            simp only [D.dep, D.deps] at h
            omega
          have hpr := (plain_cons hps).2
          by_cases w1 : w = "value"
          · subst w1
            rcases r with _ | ⟨a, _ | ⟨b, _ | ⟨e, r⟩⟩⟩
            · simp [f_is_expression, g_is_expression, env0, nD, hn, isEx, Sq.xs]
            · have ha := plain_known (plain_cons hpr).1
              simp [f_is_expression, g_is_expression, env0, nD, hn, isEx, Sq.xs, ha, from0, w_vc]
            · simp [f_is_expression, g_is_expression, env0, nD, hn, isEx, Sq.xs, op_value]
            · simp [f_is_expression, g_is_expression, env0, nD, hn, isEx, Sq.xs, op_value, len4]
          · have w1' : decide (w = "value") = false := decide_eq_false w1
            by_cases w2 : w = "cell"
            · subst w2
              rcases r with _ | ⟨a, _ | ⟨b, _ | ⟨e, r⟩⟩⟩
              · simp [f_is_expression, g_is_expression, env0, nD, hn, isEx, Sq.xs]
              · have ha := plain_known (plain_cons hpr).1
                simp [f_is_expression, g_is_expression, env0, nD, hn, isEx, Sq.xs, ha, belowB]
              · simp [f_is_expression, g_is_expression, env0, nD, hn, isEx, Sq.xs, op_cell]
              · simp [f_is_expression, g_is_expression, env0, nD, hn, isEx, Sq.xs, op_cell, len4]
            · rcases r with _ | ⟨a, _ | ⟨b, _ | ⟨e, r⟩⟩⟩
              · cases ho : isOp w <;> simp [f_is_expression, g_is_expression, env0, nD, hn, isEx, Sq.xs, w1, w2, strsD_six, hin, ho]
              · cases ho : isOp w <;> simp [f_is_expression, g_is_expression, env0, nD, hn, isEx, Sq.xs, w1, w2, strsD_six, hin, ho]
              · have h1 := ih a (deps_cons hd).1 (plain_cons hpr).1
                have h2 := ih b (deps_cons (deps_cons hd).2).1 (plain_cons (plain_cons hpr).2).1
                simp only [nD] at h1 h2
                cases ho : isOp w <;> simp [f_is_expression, g_is_expression, env0, nD, hn, isEx, Sq.xs, w1, w2, strsD_six, hin, ho, lcGo, h1, h2, dWipe, asBools]
              · cases ho : isOp w <;> simp [f_is_expression, g_is_expression, env0, nD, hn, isEx, Sq.xs, w1, w2, strsD_six, hin, ho, len4]
        | well => simp [D.plains, D.plain] at hps
        | raw a => simp [D.plains, D.plain] at hps
        | exc a d c f xs => simp [D.plains, D.plain] at hps
        | _ => simp [f_is_expression, g_is_expression, env0, nD, hn, isEx]
    | well => cases hp
    | raw a => cases hp
    | exc a d c f xs => cases hp
    | _ => simp [f_is_expression, g_is_expression, env0, nD, isEx]
theorem word_ok (k : Nat) : PyData.strOk (word k) = true := by unfold word; split <;> decide +kernel
theorem word_op (k : Nat) : isOp (word k) = true := by unfold word; split <;> decide +kernel
theorem str_ok {s : Str} (h : PyData.strOk s = true) : (D.str s).plain = true := by simp only [D.plain, h]
theorem s_value : PyData.strOk "value" = true := by decide +kernel
theorem s_cell : PyData.strOk "cell" = true := by decide +kernel
theorem s_set : PyData.strOk "set" = true := by decide +kernel
theorem s_if : PyData.strOk "if" = true := by decide +kernel
theorem ex_plain : ∀ e : Ex, e.d.plain = true
  | .val n => by simp [Ex.d, D.plain, D.plains, s_value, nD]
  | .cell i => by simp [Ex.d, D.plain, D.plains, s_cell, nD]
  | .op k a b => by simp [Ex.d, D.plain, D.plains, word_ok, ex_plain a, ex_plain b]
theorem ex_dep : ∀ e : Ex, e.d.dep = e.dep + 1
  | .val n => by simp [Ex.d, D.dep, D.deps, nD, Ex.dep]
  | .cell i => by simp [Ex.d, D.dep, D.deps, nD, Ex.dep]
  | .op k a b => by
    simp only [Ex.d, D.dep, D.deps, ex_dep a, ex_dep b, Ex.dep]
    omega
theorem ex_is {c : Nat} : ∀ e : Ex, e.ok c → isEx c e.d = true
  | .val n, _ => by simp [Ex.d, isEx, from0, nD]
  | .cell i, h => by
    have : i < c := h
    simp [Ex.d, isEx, belowB, nD]
    omega
  | .op k a b, ⟨_, ha, hb⟩ => by simp [Ex.d, isEx, word_op, ex_is a ha, ex_is b hb]
theorem deps_mem : ∀ {xs : List D} {x : D}, x ∈ xs → x.dep ≤ D.deps xs
  | y :: r, x, h => by
    simp only [D.deps]
    rcases List.mem_cons.mp h with e | e
    · subst e; omega
    · have := deps_mem e; omega
theorem szs_len : ∀ xs : List D, 2 * xs.length ≤ D.szs xs
  | [] => by simp [D.szs]
  | x :: r => by
    have := szs_len r
    simp only [D.szs, List.length_cons]
    omega
theorem szs_mem : ∀ {xs : List D} {x : D}, x ∈ xs → x.sz ≤ D.szs xs
  | y :: r, x, h => by
    simp only [D.szs]
    rcases List.mem_cons.mp h with e | e
    · subst e; omega
    · have := szs_mem e; omega
/-! statements -/
mutual
def isSt (c : Nat) : D → Bool
  | .tup [.str w, a, b] => decide (w = "set") && belowB c a && isEx c b
  | .tup [.str w, t, .tup a, .tup b] => decide (w = "if") && isEx c t && isSts c a && isSts c b
  | _ => false
def isSts (c : Nat) : List D → Bool
  | [] => true
  | x :: r => isSt c x && isSts c r
end
def areSts (c : Nat) (d : D) : Bool := match d with
  | .tup xs => isSts c xs
  | _ => false
theorem isSts_all (c : Nat) : ∀ xs : List D, isSts c xs = (xs.map (isSt c)).all id
  | [] => by simp [isSts]
  | x :: r => by simp [isSts, isSts_all c r]
theorem isSt_if (c : Nat) (t a b : D) : isSt c (.tup [.str "if", t, a, b]) = (isEx c t && areSts c a && areSts c b) := by
  cases a <;> cases b <;> simp [isSt, areSts]
theorem isSt_four (c : Nat) (w : Str) (hw : ¬ w = "if") (t a b : D) : isSt c (.tup [.str w, t, a, b]) = false := by
  cases a <;> cases b <;> simp [isSt, hw]
theorem w_is : (("if" : Str) = "set") = False := eq_false (by decide +kernel)
theorem w_si : (("set" : Str) = "if") = False := eq_false (by decide +kernel)
theorem isSt_five (c : Nat) (x a b e z : D) (r : List D) : isSt c (.tup (x :: a :: b :: e :: z :: r)) = false := by
  unfold isSt
  split
  · rename_i h; cases h
  · rename_i h; cases h
  · rfl
theorem len5 (r : List D) (k : Int) (h : k < 5) : decide ((r.length : Int) + 1 + 1 + 1 + 1 + 1 = k) = false := decide_eq_false (by omega)
theorem e_sts (c : Nat) : ∀ n : Nat, n ≤ 24 → (∀ d : D, d.dep < n → d.sz ≤ 1000000 → d.plain = true → f_is_statement n [nD c, d] = .ok (.bl (isSt c d))) ∧
    ∀ d : D, d.dep < n → d.sz ≤ 1000000 → d.plain = true → f_are_statements n [nD c, d] = .ok (.bl (areSts c d)) := by
  intro n
  induction n with
  | zero => intro _; exact ⟨fun d h => by omega, fun d h => by omega⟩
  | succ n ih =>
    intro hn24
    obtain ⟨ih1, ih2⟩ := ih (by omega)
    refine ⟨fun d h hs hp => ?_, fun d h hs hp => ?_⟩
    · have hk := plain_known hp
      cases d with
      | tup xs =>
        have hps : D.plains xs = true := by simpa only [D.plain] using hp
        have hn := opEq_nil (xs := xs) hps
        cases xs with
        | nil => simp [f_is_statement, g_is_statement, env0, nD, hn, isSt]
        | cons x r =>
          have hx := plain_known (plain_cons hps).1
          cases x with
          | str w =>
            have hd : D.deps r < n := by
              simp only [D.dep, D.deps] at h
              omega
            have hpr := (plain_cons hps).2
            have hs1 : D.szs r ≤ 1000000 := by
              simp only [D.sz, D.szs] at hs
              omega
            by_cases w1 : w = "set"
            · subst w1
              rcases r with _ | ⟨a, _ | ⟨b, _ | ⟨e, _ | ⟨z, r⟩⟩⟩⟩
              · simp [f_is_statement, g_is_statement, env0, nD, hn, isSt, Sq.xs]
              · simp [f_is_statement, g_is_statement, env0, nD, hn, isSt, Sq.xs]
              · have ha := plain_known (plain_cons hpr).1
                have he := e_is_expression c 24 b (by have := (deps_cons (deps_cons hd).2).1; omega) (plain_cons (plain_cons hpr).2).1
                simp only [nD] at he
                cases hb : belowB c a with
                | false =>
                  have hb' := hb
                  unfold belowB at hb'
                  simp [f_is_statement, g_is_statement, env0, nD, hn, isSt, Sq.xs, ha, hb, hb']
                | true =>
                  have hb' := hb
                  unfold belowB at hb'
                  simp [f_is_statement, g_is_statement, env0, nD, hn, isSt, Sq.xs, ha, hb, hb', he]
              · simp [f_is_statement, g_is_statement, env0, nD, hn, isSt_four, Sq.xs, w_si]
              · simp [f_is_statement, g_is_statement, env0, nD, hn, isSt_five, Sq.xs, len5]
            · by_cases w2 : w = "if"
              · subst w2
                rcases r with _ | ⟨t, _ | ⟨a, _ | ⟨b, _ | ⟨z, r⟩⟩⟩⟩
                · simp [f_is_statement, g_is_statement, env0, nD, hn, isSt, Sq.xs, w_is]
                · simp [f_is_statement, g_is_statement, env0, nD, hn, isSt, Sq.xs, w_is]
                · simp [f_is_statement, g_is_statement, env0, nD, hn, isSt, Sq.xs, w_is]
                · have he := e_is_expression c 24 t (by have := (deps_cons hd).1; omega) (plain_cons hpr).1
                  have i1 := ih2 a (deps_cons (deps_cons hd).2).1 (by have := szs_mem (xs := [t, a, b]) (x := a) (by simp); omega) (plain_cons (plain_cons hpr).2).1
                  have i2 := ih2 b (deps_cons (deps_cons (deps_cons hd).2).2).1 (by have := szs_mem (xs := [t, a, b]) (x := b) (by simp); omega) (plain_cons (plain_cons (plain_cons hpr).2).2).1
                  simp only [nD] at he i1 i2
                  cases h1 : isEx c t <;> cases h2 : areSts c a <;> simp [f_is_statement, g_is_statement, env0, nD, hn, isSt_if, Sq.xs, w_is, he, i1, i2, h1, h2]
                · simp [f_is_statement, g_is_statement, env0, nD, hn, isSt_five, Sq.xs, w_is, len5]
              · rcases r with _ | ⟨a, _ | ⟨b, _ | ⟨e, _ | ⟨z, r⟩⟩⟩⟩
                · simp [f_is_statement, g_is_statement, env0, nD, hn, isSt, Sq.xs, w1, w2]
                · simp [f_is_statement, g_is_statement, env0, nD, hn, isSt, Sq.xs, w1, w2]
                · simp [f_is_statement, g_is_statement, env0, nD, hn, isSt, Sq.xs, w1, w2]
                · simp [f_is_statement, g_is_statement, env0, nD, hn, isSt_four, Sq.xs, w1, w2]
                · simp [f_is_statement, g_is_statement, env0, nD, hn, isSt_five, Sq.xs, w1, w2, len5]
          | well => simp [D.plains, D.plain] at hps
          | raw a => simp [D.plains, D.plain] at hps
          | exc a d c f xs => simp [D.plains, D.plain] at hps
          | _ => simp [f_is_statement, g_is_statement, env0, nD, hn, isSt]
      | well => cases hp
      | raw a => cases hp
      | exc a d c f xs => cases hp
      | _ => simp [f_is_statement, g_is_statement, env0, nD, isSt]
    · have hk := plain_known hp
      cases d with
      | tup xs =>
        have hps : D.plains xs = true := by simpa only [D.plain] using hp
        have hd : D.deps xs < n := by
          simp only [D.dep] at h
          omega
        have hl := lc_map (fb := bName 2) (fe := dCall 2 (f_is_statement n) (dCons (dV 0) (dCons (dV 2) dNil))) (ρ := [.sh (.int (c : Nat)), .sh (.tup xs), .no]) (g := fun x => .bl (isSt c x)) (xs := xs) fun x hx => by
          have h1 := ih1 x (by have := deps_mem hx; omega) (by have := szs_mem hx; simp only [D.sz] at hs; omega) (plains_iff.mp hps x hx)
          simp only [nD] at h1
          exact ⟨_, rfl, by simp [h1]⟩
        have hz : xs.length ≤ sizeLine := by
          have := szs_len xs
          simp only [D.sz] at hs
          exact szl (by omega)
        simp [f_are_statements, g_are_statements, env0, nD, areSts, Sq.xs, hl, dWipe, asBools_map, isSts_all, hz, List.all_map]
      | well => cases hp
      | raw a => cases hp
      | exc a d c f xs => cases hp
      | _ => simp [f_are_statements, g_are_statements, env0, nD, areSts]
/-! programs -/
inductive Pr where
  | nil | set (i : Nat) (e : Ex) (r : Pr) | ite (t : Ex) (a b r : Pr)
def Pr.ds : Pr → List D
  | .nil => []
  | .set i e r => .tup [.str "set", nD i, e.d] :: r.ds
  | .ite t a b r => .tup [.str "if", t.d, .tup a.ds, .tup b.ds] :: r.ds
def Pr.ok (c : Nat) : Pr → Prop
  | .nil => True
  | .set i e r => i < c ∧ e.ok c ∧ e.dep ≤ 2 ∧ r.ok c
  | .ite t a b r => t.ok c ∧ t.dep ≤ 2 ∧ a.ok c ∧ b.ok c ∧ r.ok c
def Pr.dep : Pr → Nat
  | .nil => 0
  | .set _ _ r => r.dep
  | .ite _ a b r => max (max a.dep b.dep + 1) r.dep
def put (cs : List Nat) (i v : Nat) : List Nat := cs.take i ++ [v] ++ cs.drop (i + 1)
theorem put_len {cs : List Nat} {i : Nat} (v : Nat) (h : i < cs.length) : (put cs i v).length = cs.length := by
  unfold put
  rw [List.length_append, List.length_append, List.length_take, List.length_drop, List.length_singleton]
  omega
def go (sz : List Nat) : Pr → List Nat → List Nat
  | .nil, cs => cs
  | .set i e r, cs => go sz r (put cs i (ev cs e % (at0 sz i : Nat)).toNat)
  | .ite t a b r, cs => go sz r (if ev cs t = 0 then go sz b cs else go sz a cs)
theorem go_len (sz : List Nat) : ∀ (p : Pr) (cs : List Nat), p.ok cs.length → (go sz p cs).length = cs.length
  | .nil, cs, _ => rfl
  | .set i e r, cs, h => by
    have hp := put_len (cs := cs) (i := i) (ev cs e % (at0 sz i : Nat)).toNat h.1
    unfold go
    rw [go_len sz r _ (by rw [hp]; exact h.2.2.2), hp]
  | .ite t a b r, cs, h => by
    have ha := go_len sz a cs h.2.2.1
    have hb := go_len sz b cs h.2.2.2.1
    unfold go
    have : (if ev cs t = 0 then go sz b cs else go sz a cs).length = cs.length := by split <;> assumption
    rw [go_len sz r _ (by rw [this]; exact h.2.2.2.2), this]
theorem cut_to (xs : List D) (i : Nat) : cutD xs none (some (i : Int)) = xs.take i := by
  unfold cutD
  rw [HT.sIx_none, HT.sIx_nat, List.drop_zero, Nat.sub_zero]
  by_cases h : i ≤ xs.length
  · rw [Nat.min_eq_left h]
  · rw [Nat.min_eq_right (by omega), List.take_length, List.take_of_length_le (by omega)]
theorem cut_from (xs : List D) (i : Nat) : cutD xs (some (i : Int)) none = xs.drop i := by
  unfold cutD
  rw [HT.sIx_none, HT.sIx_nat]
  by_cases h : i ≤ xs.length
  · rw [Nat.min_eq_left h, List.take_of_length_le (by rw [List.length_drop]; omega)]
  · rw [Nat.min_eq_right (by omega), List.drop_length, List.drop_of_length_le (by omega)]
    simp
theorem cut_from1 (xs : List D) (i : Nat) : cutD xs (some ((i : Int) + 1)) none = xs.drop (i + 1) := cut_from xs (i + 1)
theorem put_map (cs : List Nat) (i v : Nat) : (put cs i v).map nD = (cs.map nD).take i ++ (nD v :: (cs.map nD).drop (i + 1)) := by
  unfold put
  rw [List.map_append, List.map_append, List.map_take, List.map_drop, List.append_assoc]
  rfl
end
end G74
namespace G74
open PySem AL
noncomputable section
/-! ## what is drawn -/
def ce : Nat → Nat
  | 0 => 2
  | k + 1 => 2 + 2 * ce k
theorem isEmpty_map {sz : List Nat} : (sz.map nD).isEmpty = sz.isEmpty := by cases sz <;> rfl
theorem six_get {r : Nat} (h : r < 6) : opIx (.l sixD) (.int (r : Nat)) = .ok (.str (word r)) := by
  refine opIx_l ?_
  rcases six h with rfl | rfl | rfl | rfl | rfl | rfl <;> rfl
theorem r_law_expression {sz : List Nat} (hz : sz.length ≤ 3) : ∀ (k n : Nat), k < n → run (f_law_expression n [.well, rD sz, .int (k : Nat)]) (ce k) fun d => ∃ e : Ex, d = e.d ∧ e.ok sz.length ∧ e.dep ≤ k := by
  intro k
  induction k with
  | zero =>
    intro n hn
    obtain ⟨n, rfl⟩ : ∃ m, n = m + 1 := ⟨n - 1, by omega⟩
    refine run_body ?_
    unfold g_law_expression
    rw [show env0 5 [D.well, rD sz, .int ((0 : Nat) : Int)] = [.sh .well, .sh (rD sz), .sh (.int 0), .no, .no] from rfl]
    refine run_mono (run_seq (c := 1) (c2 := 1) (P := fun ρ => ∃ r : Nat, ρ = [.sh .well, .sh (rD sz), .sh (.int 0), .sh (nD r), .no] ∧ r < 3) (run_imp (run_set (run_dCall0 (ds := [.well, .int (3 : Nat)]) (by simp) rfl (run_take' (by decide) (by decide)))) ?_) ?_) (by decide) fun _ z => z
    · rintro fl ⟨d, ⟨r, rfl, h⟩, rfl⟩
      exact ⟨_, rfl, r, rfl, h⟩
    rintro ρ ⟨r, rfl, hr⟩
    have hne := opNe_nil (plains_nD sz)
    rw [isEmpty_map] at hne
    by_cases h2 : r < 2 ∧ sz.isEmpty = false
    · refine run_ret_if (P := fun d => ∃ e : Ex, d = e.d ∧ e.ok sz.length ∧ e.dep ≤ 0) ?_ ?_ fun d h => ⟨d, h, rfl⟩
      · have : (r : Int) < 2 := by omega
        simp [nD, rD, hne, h2.2, this]
      · refine run_imp (run_dTup (run_cons (c1 := 0) (c2 := 1) (run_pure (t := dC (.str "cell") _) rfl) (run_cons (c1 := 1) (c2 := 0) (run_dCall0 (ds := [.well, .int (sz.length : Nat)]) (by simp [rD, Sq.xs]) rfl (run_take' (m := sz.length) (by cases sz <;> simp_all) (by omega))) run_nil)) ?_) ?_
        · rintro ds ⟨d, r, rfl, rfl, d2, r2, rfl, _, rfl⟩
          simp
        · rintro d ⟨ds, rfl, d, r, rfl, rfl, d2, r2, rfl, ⟨i, rfl, hi⟩, rfl⟩
          exact ⟨.cell i, rfl, hi, Nat.le_refl _⟩
    · refine run_skip_if ?_ ?_
      · by_cases h3 : r < 2
        · have h4 : sz.isEmpty = true := by cases h : sz.isEmpty <;> simp_all
          have : (r : Int) < 2 := by omega
          simp [nD, rD, hne, h4, this]
        · have : ¬ (r : Int) < 2 := by omega
          simp [nD, rD, this]
      · refine run_ret_if (P := fun d => ∃ e : Ex, d = e.d ∧ e.ok sz.length ∧ e.dep ≤ 0) ?_ ?_ fun d h => ⟨d, h, rfl⟩
        · have : (r : Int) < 3 := by omega
          simp [nD, this]
        · refine run_imp (run_dTup (run_cons (c1 := 0) (c2 := 1) (run_pure (t := dC (.str "value") _) rfl) (run_cons (c1 := 1) (c2 := 0) (run_dCall0 (ds := [.well, .int (4 : Nat)]) (by simp) rfl (run_take' (by decide) (by decide))) run_nil)) ?_) ?_
          · rintro ds ⟨d, r, rfl, rfl, d2, r2, rfl, _, rfl⟩
            simp
          · rintro d ⟨ds, rfl, d, r, rfl, rfl, d2, r2, rfl, ⟨i, rfl, hi⟩, rfl⟩
            exact ⟨.val i, rfl, hi, Nat.le_refl _⟩
  | succ k ih =>
    intro n hn
    obtain ⟨n, rfl⟩ : ∃ m, n = m + 1 := ⟨n - 1, by omega⟩
    have ihk := ih n (by omega)
    refine run_body ?_
    unfold g_law_expression
    rw [show env0 5 [D.well, rD sz, .int ((k + 1 : Nat) : Int)] = [.sh .well, .sh (rD sz), .sh (.int ((k + 1 : Nat) : Int)), .no, .no] from rfl]
    refine run_mono (run_seq (c := 1) (c2 := 1 + 2 * ce k) (P := fun ρ => ∃ r : Nat, ρ = [.sh .well, .sh (rD sz), .sh (.int ((k + 1 : Nat) : Int)), .sh (nD r), .no]) (run_imp (run_set (run_dCall0 (ds := [.well, .int (8 : Nat)]) ?_ rfl (run_take' (by decide) (by decide)))) ?_) ?_) (by simp only [ce]; omega) fun _ z => z
    · have : (0 : Int) < (k : Int) + 1 := by omega
      simp [this]
    · rintro fl ⟨d, ⟨r, rfl, h⟩, rfl⟩
      exact ⟨_, rfl, r, rfl⟩
    rintro ρ ⟨r, rfl⟩
    have hne := opNe_nil (plains_nD sz)
    rw [isEmpty_map] at hne
    by_cases h2 : r < 2 ∧ sz.isEmpty = false
    · refine run_ret_if (P := fun d => ∃ e : Ex, d = e.d ∧ e.ok sz.length ∧ e.dep ≤ k + 1) ?_ ?_ fun d h => ⟨d, h, rfl⟩
      · have : (r : Int) < 2 := by omega
        simp [nD, rD, hne, h2.2, this]
      · refine run_mono (run_dTup (run_cons (c1 := 0) (c2 := 1) (run_pure (t := dC (.str "cell") _) rfl) (run_cons (c1 := 1) (c2 := 0) (run_dCall0 (ds := [.well, .int (sz.length : Nat)]) (by simp [rD, Sq.xs]) rfl (run_take' (m := sz.length) (by cases sz <;> simp_all) (by omega))) run_nil)) ?_) (by omega) ?_
        · rintro ds ⟨d, r, rfl, rfl, d2, r2, rfl, _, rfl⟩
          simp
        · rintro d ⟨ds, rfl, d, r, rfl, rfl, d2, r2, rfl, ⟨i, rfl, hi⟩, rfl⟩
          exact ⟨.cell i, rfl, hi, Nat.zero_le _⟩
    · refine run_skip_if ?_ ?_
      · by_cases h3 : r < 2
        · have h4 : sz.isEmpty = true := by cases h : sz.isEmpty <;> simp_all
          have : (r : Int) < 2 := by omega
          simp [nD, rD, hne, h4, this]
        · have : ¬ (r : Int) < 2 := by omega
          simp [nD, rD, this]
      · by_cases h3 : r < 3
        · refine run_ret_if (P := fun d => ∃ e : Ex, d = e.d ∧ e.ok sz.length ∧ e.dep ≤ k + 1) ?_ ?_ fun d h => ⟨d, h, rfl⟩
          · have : (r : Int) < 3 := by omega
            simp [nD, this]
          · refine run_mono (run_dTup (run_cons (c1 := 0) (c2 := 1) (run_pure (t := dC (.str "value") _) rfl) (run_cons (c1 := 1) (c2 := 0) (run_dCall0 (ds := [.well, .int (4 : Nat)]) (by simp) rfl (run_take' (by decide) (by decide))) run_nil)) ?_) (by omega) ?_
            · rintro ds ⟨d, r, rfl, rfl, d2, r2, rfl, _, rfl⟩
              simp
            · rintro d ⟨ds, rfl, d, r, rfl, rfl, d2, r2, rfl, ⟨i, rfl, hi⟩, rfl⟩
              exact ⟨.val i, rfl, hi, Nat.zero_le _⟩
        · refine run_skip_if ?_ ?_
          · have : ¬ (r : Int) < 3 := by omega
            simp [nD, this]
          · refine run_seq (c := 1) (c2 := 2 * ce k) (P := fun ρ => ∃ j : Nat, ρ = [.sh .well, .sh (rD sz), .sh (.int ((k + 1 : Nat) : Int)), .sh (nD r), .sh (.str (word j))] ∧ j < 6) (run_imp (run_set (P := fun d => ∃ j : Nat, d = .str (word j) ∧ j < 6) (run_dIx (s := .l sixD) ?_ (run_dCall0 (ds := [.well, .int (6 : Nat)]) (by simp) rfl (run_take' (by decide) (by decide))) ?_)) ?_) ?_
            · simp [sixD, six6]
            · rintro d ⟨j, rfl, hj⟩
              exact ⟨_, six_get hj, j, rfl, hj⟩
            · rintro fl ⟨d, ⟨j, rfl, hj⟩, rfl⟩
              exact ⟨_, rfl, j, rfl, hj⟩
            rintro ρ ⟨j, rfl, hj⟩
            have one : ∀ ρ : DEnv, ρ[0]? = some (.sh .well) → ρ[1]? = some (.sh (rD sz)) → ρ[2]? = some (.sh (.int ((k + 1 : Nat) : Int))) → run (dCall 3 (f_law_expression n) (dCons (dV 0) (dCons (dV 1) (dCons (dB opSub (dV 2) (dC (.int 1))) dNil))) ρ) (ce k) fun d => ∃ e : Ex, d = e.d ∧ e.ok sz.length ∧ e.dep ≤ k := fun ρ h0 h1 h2 => by
              refine run_dCall0 (ds := [.well, rD sz, .int (k : Nat)]) ?_ rfl ihk
              simp [h0, h1, h2]
            refine run_mono (run_ret (P := fun d => ∃ e : Ex, d = e.d ∧ e.ok sz.length ∧ e.dep ≤ k + 1) (run_imp (run_dTup (run_cons (c1 := 0) (c2 := ce k + (ce k + 0)) (run_pure (t := dV 4 _) rfl) (run_cons (one _ rfl rfl rfl) (run_cons (one _ rfl rfl rfl) run_nil))) ?_) ?_)) (by omega) fun _ z => z
            · rintro ds ⟨d, r, rfl, rfl, d2, r2, rfl, _, d3, r3, rfl, _, rfl⟩
              simp
            · rintro d ⟨ds, rfl, d, r, rfl, rfl, d2, r2, rfl, ⟨a, rfl, a1, a2⟩, d3, r3, rfl, ⟨b, rfl, b1, b2⟩, rfl⟩
              exact ⟨.op j a b, rfl, ⟨hj, a1, b1⟩, by simp only [Ex.dep]; omega⟩
/-! statements -/
def Pr.app : Pr → Pr → Pr
  | .nil, q => q
  | .set i e r, q => .set i e (r.app q)
  | .ite t a b r, q => .ite t a b (r.app q)
theorem app_ds : ∀ p q : Pr, (p.app q).ds = p.ds ++ q.ds
  | .nil, q => rfl
  | .set i e r, q => by simp only [Pr.app, Pr.ds, app_ds r q, List.cons_append]
  | .ite t a b r, q => by simp only [Pr.app, Pr.ds, app_ds r q, List.cons_append]
theorem app_ok {c : Nat} : ∀ p q : Pr, p.ok c → q.ok c → (p.app q).ok c
  | .nil, q, _, h => h
  | .set i e r, q, ⟨a1, a2, a3, a4⟩, h => ⟨a1, a2, a3, app_ok r q a4 h⟩
  | .ite t a b r, q, ⟨a1, a2, a3, a4, a5⟩, h => ⟨a1, a2, a3, a4, app_ok r q a5 h⟩
theorem app_dep : ∀ p q : Pr, (p.app q).dep = max p.dep q.dep
  | .nil, q => by simp [Pr.app, Pr.dep]
  | .set i e r, q => by simp only [Pr.app, Pr.dep, app_dep r q]
  | .ite t a b r, q => by
    simp only [Pr.app, Pr.dep, app_dep r q]
    omega
theorem szs_app : ∀ xs ys : List D, D.szs (xs ++ ys) = D.szs xs + D.szs ys
  | [], ys => by simp [D.szs]
  | x :: r, ys => by
    simp only [List.cons_append, D.szs, szs_app r ys]
    omega
theorem ex_sz : ∀ (e : Ex) (k : Nat), e.dep ≤ k → e.d.sz + 33 ≤ 100 * 2 ^ k
  | .val n, k, h => by
    have := Nat.one_le_two_pow (n := k)
    simp only [Ex.d, D.sz, D.szs, sz_nD]
    omega
  | .cell n, k, h => by
    have := Nat.one_le_two_pow (n := k)
    simp only [Ex.d, D.sz, D.szs, sz_nD]
    omega
  | .op j a b, 0, h => by
    simp only [Ex.dep] at h
    omega
  | .op j a b, k + 1, h => by
    simp only [Ex.dep] at h
    have h1 := ex_sz a k (by omega)
    have h2 := ex_sz b k (by omega)
    have h3 : 2 ^ (k + 1) = 2 * 2 ^ k := by rw [Nat.pow_succ]; omega
    simp only [Ex.d, D.sz, D.szs]
    omega
def cs (d : Nat) : Nat := 1 + 2 * (1 + (6 + 2 * d + 15))
def sc : Nat → Nat
  | 0 => cs 0
  | k + 1 => cs (sc k)
/-- blocks of two at most -/
def Pr.wl : Pr → Prop
  | .nil => True
  | .set _ _ r => r.wl
  | .ite _ a b r => a.ds.length ≤ 2 ∧ b.ds.length ≤ 2 ∧ a.wl ∧ b.wl ∧ r.wl
theorem app_wl : ∀ p q : Pr, p.wl → q.wl → (p.app q).wl
  | .nil, q, _, h => h
  | .set i e r, q, h1, h => app_wl r q h1 h
  | .ite t a b r, q, h1, h => ⟨h1.1, h1.2.1, h1.2.2.1, h1.2.2.2.1, app_wl r q h1.2.2.2.2 h⟩
/-- what the block of k is -/
def IsP (c k s : Nat) (d : D) : Prop := ∃ p : Pr, d = .tup p.ds ∧ p.ok c ∧ p.dep ≤ k ∧ D.szs p.ds ≤ s ∧ p.wl ∧ p.ds.length ≤ 2
def Inv (sz : List Nat) (k i : Nat) (ρ : DEnv) : Prop := ∃ (p : Pr) (s4 s5 : AL.Slot), ρ = [.sh .well, .sh (rD sz), .sh (.int (k : Nat)), .own p.ds, s4, s5] ∧ p.ok sz.length ∧ p.dep ≤ k ∧ D.szs p.ds ≤ i * (1000 * 8 ^ k) ∧ p.ds.length ≤ i ∧ p.wl
def bodyS (n : Nat) : DEnv → T Fl := (gIf (dTAnd (dT (dB opGt (dV 2) (dC (.int 0)))) (dT (dB opEq (dCall 2 f_law_take (dCons (dV 0) (dCons (dC (.int 3)) dNil))) (dC (.int 0)))))
  (gSeq (gSet 5 (dCall 3 (f_law_expression 24) (dCons (dV 0) (dCons (dV 1) (dCons (dC (.int 1)) dNil)))))
  (gAppend 3 (dTup (dCons (dC (.str "if")) (dCons (dV 5) (dCons (dCall 3 (f_law_statements n) (dCons (dV 0) (dCons (dV 1) (dCons (dB opSub (dV 2) (dC (.int 1))) dNil)))) (dCons (dCall 3 (f_law_statements n) (dCons (dV 0) (dCons (dV 1) (dCons (dB opSub (dV 2) (dC (.int 1))) dNil)))) dNil)))))))
  (gIf (dT (dB opNe (dV 1) (dTup dNil)))
  (gAppend 3 (dTup (dCons (dC (.str "set")) (dCons (dCall 2 f_law_take (dCons (dV 0) (dCons (dLen (dSqV 1)) dNil))) (dCons (dCall 3 (f_law_expression 24) (dCons (dV 0) (dCons (dV 1) (dCons (dC (.int 2)) dNil)))) dNil)))))
  gNil))
theorem turnS {sz : List Nat} (hz : sz.length ≤ 3) {k n cc i : Nat} (hi : i < 3) (hsub : ∀ j, k = j + 1 → run (f_law_statements n [.well, rD sz, .int (j : Nat)]) cc (IsP sz.length j (2000 * 8 ^ j))) {ρ : DEnv} (hI : Inv sz k i ρ) :
    run (bodyS n ρ) (1 + (6 + 2 * cc + 15)) fun fl => ∃ ρ2, (fl = .nx ρ2 ∨ fl = .ct ρ2) ∧ Inv sz k (i + 1) ρ2 := by
  obtain ⟨p, s4, s5, rfl, o1, o2, o3, o4, o5⟩ := hI
  refine run_gIf (c1 := 1) (P := fun b => b = true → 0 < k) ?_ ?_ ?_
  · rw [s_dTAnd]
    by_cases hk : 0 < k
    · have e : dT (dB opGt (dV 2) (dC (.int 0))) [.sh .well, .sh (rD sz), .sh (.int (k : Nat)), .own p.ds, s4, s5] = .ok true := by
        simp [hk]
      rw [e, T.bind_ok, if_pos rfl]
      refine run_dT (run_mono (run_dB (c1 := 1) (c2 := 0) (P := fun d => ∃ r : Nat, d = nD r ∧ r < 3) (Q := fun d => d = .int 0) (run_dCall0 (ds := [.well, .int (3 : Nat)]) (by simp) rfl (run_take' (by decide) (by decide))) (run_pure rfl) fun x y hx hy => ?_) (by decide) fun _ z => z)
      obtain ⟨r, rfl, hr⟩ := hx
      subst hy
      exact run_eq (a := .bl (decide ((r : Int) = 0))) (opEq_int r 0) ⟨_, rfl, fun _ => hk⟩
    · have e : dT (dB opGt (dV 2) (dC (.int 0))) [.sh .well, .sh (rD sz), .sh (.int (k : Nat)), .own p.ds, s4, s5] = .ok false := by
        simp
        omega
      rw [e, T.bind_ok, if_neg (by simp)]
      exact run_ok (by simp)
  · intro hk
    have hk := hk rfl
    obtain ⟨j, rfl⟩ : ∃ j, k = j + 1 := ⟨k - 1, by omega⟩
    have hs := hsub j rfl
    refine run_mono (run_seq (c := 6) (c2 := 2 * cc) (P := fun ρ => ∃ e : Ex, ρ = [.sh .well, .sh (rD sz), .sh (.int ((j + 1 : Nat) : Int)), .own p.ds, s4, .sh e.d] ∧ e.ok sz.length ∧ e.dep ≤ 1) (run_imp (run_set (run_dCall0 (ds := [.well, rD sz, .int (1 : Nat)]) (by simp) rfl (r_law_expression hz 1 24 (by decide)))) ?_) ?_) (by omega) fun _ z => z
    · rintro fl ⟨d, ⟨e, rfl, h1, h2⟩, rfl⟩
      exact ⟨_, rfl, e, rfl, h1, h2⟩
    rintro ρ ⟨e, rfl, h1, h2⟩
    have one : ∀ ρ : DEnv, ρ[0]? = some (.sh .well) → ρ[1]? = some (.sh (rD sz)) → ρ[2]? = some (.sh (.int ((j + 1 : Nat) : Int))) → run (dCall 3 (f_law_statements n) (dCons (dV 0) (dCons (dV 1) (dCons (dB opSub (dV 2) (dC (.int 1))) dNil))) ρ) cc (IsP sz.length j (2000 * 8 ^ j)) := fun ρ h0 h1 h2 => by
      refine run_dCall0 (ds := [.well, rD sz, .int (j : Nat)]) ?_ rfl hs
      simp [h0, h1, h2]
    refine run_gAppend (P := fun d => ∃ a b : Pr, d = .tup [.str "if", e.d, .tup a.ds, .tup b.ds] ∧ a.ok sz.length ∧ b.ok sz.length ∧ a.dep ≤ j ∧ b.dep ≤ j ∧ D.szs a.ds ≤ 2000 * 8 ^ j ∧ D.szs b.ds ≤ 2000 * 8 ^ j ∧ a.ds.length ≤ 2 ∧ b.ds.length ≤ 2 ∧ a.wl ∧ b.wl) rfl (by omega) ?_ ?_
    · refine run_mono (run_dTup (run_cons (c1 := 0) (c2 := 0 + (cc + (cc + 0))) (run_pure (t := dC (.str "if") _) rfl) (run_cons (c1 := 0) (run_pure (t := dV 5 _) rfl) (run_cons (one _ rfl rfl rfl) (run_cons (one _ rfl rfl rfl) run_nil)))) ?_) (by omega) ?_
      · rintro ds ⟨d, r, rfl, rfl, d2, r2, rfl, _, d3, r3, rfl, _, d4, r4, rfl, _, rfl⟩
        simp
      · rintro d ⟨ds, rfl, d, r, rfl, rfl, d2, r2, rfl, rfl, d3, r3, rfl, ⟨a, rfl, a1, a2, a3, a4, a5⟩, d4, r4, rfl, ⟨b, rfl, b1, b2, b3, b4, b5⟩, rfl⟩
        exact ⟨a, b, rfl, a1, b1, a2, b2, a3, b3, a5, b5, a4, b4⟩
    · rintro d ⟨a, b, rfl, a1, b1, a2, b2, a3, b3, a5, b5, a4, b4⟩
      have hds : (p.app (.ite e a b .nil)).ds = p.ds ++ [.tup [.str "if", e.d, .tup a.ds, .tup b.ds]] := by rw [app_ds]; rfl
      refine ⟨_, .inl rfl, p.app (.ite e a b .nil), s4, .sh e.d, by rw [hds]; rfl, app_ok _ _ o1 ⟨h1, by omega, a1, b1, trivial⟩, ?_, ?_, ?_, app_wl _ _ o5 ⟨a5, b5, a4, b4, trivial⟩⟩
      · rw [app_dep]
        simp only [Pr.dep]
        omega
      · have hx := ex_sz e 1 h2
        have p8 : 8 ^ (j + 1) = 8 * 8 ^ j := by rw [Nat.pow_succ]; omega
        have p1 : 1 ≤ 8 ^ j := Nat.one_le_pow _ _ (by decide)
        rw [hds, szs_app, Nat.succ_mul]
        simp only [D.szs, D.sz]
        omega
      · rw [hds, List.length_append, List.length_singleton]
        omega
  · intro _
    refine run_mono (c := 0 + 15) ?_ (by omega) fun _ z => z
    have hne := opNe_nil (plains_nD sz)
    rw [isEmpty_map] at hne
    cases hse : sz.isEmpty with
    | true =>
      rw [hse] at hne
      refine run_if0 (x := false) (by simp [rD, hne]) ?_
      rw [if_neg (by simp)]
      refine run_ok ⟨_, .inl rfl, p, s4, s5, rfl, o1, o2, ?_, by omega, o5⟩
      rw [Nat.succ_mul]
      omega
    | false =>
      rw [hse] at hne
      refine run_if0 (x := true) (by simp [rD, hne]) ?_
      rw [if_pos rfl]
      refine run_gAppend (P := fun d => ∃ (i : Nat) (e : Ex), d = .tup [.str "set", nD i, e.d] ∧ i < sz.length ∧ e.ok sz.length ∧ e.dep ≤ 2) rfl (by omega) ?_ ?_
      · refine run_mono (run_dTup (run_cons (c1 := 0) (c2 := 1 + (14 + 0)) (run_pure (t := dC (.str "set") _) rfl) (run_cons (run_dCall0 (ds := [.well, .int (sz.length : Nat)]) (by simp [rD, Sq.xs]) rfl (run_take' (m := sz.length) (by cases sz <;> simp_all) (by omega))) (run_cons (run_dCall0 (ds := [.well, rD sz, .int (2 : Nat)]) (by simp) rfl (r_law_expression hz 2 24 (by decide))) run_nil))) ?_) (by omega) ?_
        · rintro ds ⟨d, r, rfl, rfl, d2, r2, rfl, _, d3, r3, rfl, _, rfl⟩
          simp
        · rintro d ⟨ds, rfl, d, r, rfl, rfl, d2, r2, rfl, ⟨i, rfl, hi⟩, d3, r3, rfl, ⟨e, rfl, e1, e2⟩, rfl⟩
          exact ⟨i, e, rfl, hi, e1, e2⟩
      · rintro d ⟨a, e, rfl, ha, e1, e2⟩
        have hds : (p.app (.set a e .nil)).ds = p.ds ++ [.tup [.str "set", nD a, e.d]] := by rw [app_ds]; rfl
        refine ⟨_, .inl rfl, p.app (.set a e .nil), s4, s5, by rw [hds]; rfl, app_ok _ _ o1 ⟨ha, e1, e2, trivial⟩, ?_, ?_, ?_, app_wl _ _ o5 trivial⟩
        · rw [app_dep]
          simp only [Pr.dep]
          omega
        · have hx := ex_sz e 2 e2
          have p1 : 1 ≤ 8 ^ k := Nat.one_le_pow _ _ (by decide)
          rw [hds, szs_app, Nat.succ_mul]
          simp only [D.szs, D.sz, sz_nD]
          omega
        · rw [hds, List.length_append, List.length_singleton]
          omega
theorem run_range {ρ : DEnv} {c N : Nat} {f : DEnv → T D} (h : run (f ρ) c fun d => ∃ m : Nat, d = nD m ∧ m < N) (hN : N ≤ 1000) : run (dRange1 f ρ) c fun xs => ∃ m : Nat, xs = (List.range m).map nD ∧ m < N := by
  rw [s_dRange1]
  refine run_bind0 h fun d ⟨m, e, hm⟩ => ?_
  subst e
  exact run_eq (rangeT_nat (n := m) (by omega)) ⟨m, rfl, hm⟩
theorem blockS {sz : List Nat} (hz : sz.length ≤ 3) {k n cc : Nat} (hsub : ∀ j, k = j + 1 → run (f_law_statements n [.well, rD sz, .int (j : Nat)]) cc (IsP sz.length j (2000 * 8 ^ j))) :
    run (f_law_statements (n + 1) [.well, rD sz, .int (k : Nat)]) (cs cc) (IsP sz.length k (2000 * 8 ^ k)) := by
  refine run_body ?_
  show run (gSeq (gSetN 3 (dLst dNil)) (gSeq (gFor (dRange1 (dCall 2 f_law_take (dCons (dV 0) (dCons (dC (.int 3)) dNil)))) (bName 4) (bodyS n)) (gRet (dTupOf (dSqV 3)))) [.sh .well, .sh (rD sz), .sh (.int (k : Nat)), .no, .no, .no]) _ _
  refine run_seq0 (ρ' := [.sh .well, .sh (rD sz), .sh (.int (k : Nat)), .own Pr.nil.ds, .no, .no]) (by simp [Pr.ds]) ?_
  refine run_mono (run_seq (c := cs cc) (c2 := 0) (P := fun ρ => ∃ i, i < 3 ∧ Inv sz k i ρ) ?_ ?_) (Nat.le_refl _) fun _ z => z
  · rw [s_gFor]
    refine run_mono (run_ex (c1 := 1) (c2 := 2 * (1 + (6 + 2 * cc + 15))) (run_range (N := 3) (run_dCall0 (ds := [.well, .int (3 : Nat)]) (by simp) rfl (run_take' (by decide) (by decide))) (by decide)) fun xs hx => ?_) (by simp only [cs]; omega) fun _ z => z
    obtain ⟨m, rfl, hm⟩ := hx
    have r := run_for (fb := bName 4) (g := bodyS n) (c := 1 + (6 + 2 * cc + 15)) (fun i ρ => Inv sz k i ρ) ((List.range m).map nD) 0 [.sh .well, .sh (rD sz), .sh (.int (k : Nat)), .own Pr.nil.ds, .no, .no] ⟨.nil, .no, .no, rfl, trivial, Nat.zero_le _, by simp [Pr.ds, D.szs], by simp [Pr.ds], trivial⟩ fun i x ρ hx hI => by
      have hi : i < m := by
        have := (List.getElem?_eq_some_iff.mp hx).1
        simpa using this
      rw [Nat.zero_add] at hI
      obtain ⟨p, s4, s5, rfl, o⟩ := hI
      refine ⟨_, rfl, ?_⟩
      rw [Nat.zero_add]
      exact turnS hz (by omega) hsub ⟨p, .sh x, s5, rfl, o⟩
    refine run_mono r ?_ ?_
    · rw [List.length_map, List.length_range, Nat.mul_comm]
      exact Nat.mul_le_mul_right _ (by omega)
    · rintro fl ⟨ρ2, rfl, hI⟩
      rw [Nat.zero_add, List.length_map, List.length_range] at hI
      exact ⟨ρ2, rfl, m, hm, hI⟩
  · rintro ρ ⟨i, hi, p, s4, s5, rfl, o1, o2, o3, o4, o5⟩
    have hz2 : p.ds.length ≤ sizeLine := szl (by omega)
    refine run_imp (run_ret (P := IsP sz.length k (2000 * 8 ^ k)) (run_eq (a := .tup p.ds) (by simp [Sq.xs, hz2]) ⟨p, rfl, o1, o2, ?_, o5, by omega⟩)) fun fl h => h
    have : i * (1000 * 8 ^ k) ≤ 2 * (1000 * 8 ^ k) := Nat.mul_le_mul_right _ (by omega)
    omega
theorem r_law_statements {sz : List Nat} (hz : sz.length ≤ 3) : ∀ (k n : Nat), k < n → run (f_law_statements n [.well, rD sz, .int (k : Nat)]) (sc k) (IsP sz.length k (2000 * 8 ^ k)) := by
  intro k
  induction k with
  | zero =>
    intro n hn
    obtain ⟨n, rfl⟩ : ∃ m, n = m + 1 := ⟨n - 1, by omega⟩
    exact blockS hz (cc := 0) fun j h => by omega
  | succ k ih =>
    intro n hn
    obtain ⟨n, rfl⟩ : ∃ m, n = m + 1 := ⟨n - 1, by omega⟩
    refine blockS hz (cc := sc k) fun j h => ?_
    obtain rfl : j = k := by omega
    exact ih n (by omega)
def pD (E : Nat) (sz : List Nat) (ps : List Pr) (e : Ex) : D := .tup [nD E, rD sz, .tup (ps.map fun p => .tup p.ds), e.d]
structure POk (E : Nat) (sz : List Nat) (ps : List Pr) (e : Ex) : Prop where
  e1 : 1 ≤ E
  e2 : E ≤ 3
  pos : ∀ x ∈ sz, 0 < x ∧ x ≤ 3
  sl : sz.length ≤ 3
  pl : ps.length = E
  pk : ∀ p ∈ ps, p.ok sz.length ∧ p.dep ≤ 2 ∧ D.szs p.ds ≤ 128000 ∧ p.wl ∧ p.ds.length ≤ 2
  ek : e.ok sz.length ∧ e.dep ≤ 2
theorem lift_map {α : Type} {f : α → D} {Q : α → Prop} : ∀ {ds : List D}, (∀ y ∈ ds, ∃ a, y = f a ∧ Q a) → ∃ as : List α, ds = as.map f ∧ ∀ a ∈ as, Q a
  | [], _ => ⟨[], rfl, fun _ h => nomatch h⟩
  | d :: r, h => by
    obtain ⟨as, rfl, h2⟩ := lift_map (ds := r) fun y hy => h y (by simp [hy])
    obtain ⟨a, rfl, ha⟩ := h d (by simp)
    exact ⟨a :: as, rfl, fun x hx => by
      rcases List.mem_cons.mp hx with e | e
      · subst e; exact ha
      · exact h2 x e⟩
theorem r_law_program {E : Nat} (e1 : 1 ≤ E) (e2 : E ≤ 3) : run (f_law_program [.well, nD E]) 3000 fun d => ∃ sz ps e, d = pD E sz ps e ∧ POk E sz ps e := by
  have hsc : sc 2 = 945 := by decide
  refine run_mono (c := (1 + 1 * 3) + (945 * E + (0 + (0 + (0 + (14 + 0)))))) ?_ (by omega) fun _ z => z
  refine run_body ?_
  unfold g_law_program
  rw [show env0 6 [.well, nD E] = [.sh .well, .sh (nD E), .no, .no, .no, .no] from rfl]
  refine run_seq (P := fun ρ => ∃ sz : List Nat, ρ = [.sh .well, .sh (nD E), .sh (rD sz), .no, .no, .no] ∧ (∀ x ∈ sz, 0 < x ∧ x ≤ 3) ∧ sz.length ≤ 3)
    (run_imp (run_set (run_tup_draws' (N := 3) (c := 1) (c1 := 1) (P := fun d => ∃ r : Nat, d = nD r ∧ (0 < r ∧ r ≤ 3)) ?_ (by decide) fun k hk => ?_)) ?_) ?_
  · refine run_dCall0 (ds := [.well, .int (4 : Nat)]) rfl rfl (run_imp (run_take' (by decide) (by decide)) ?_)
    rintro d ⟨r, rfl, h⟩
    exact ⟨r, rfl, by omega⟩
  · refine run_mono (run_dB (c1 := 0) (c2 := 1) (run_pure (t := dC (.int 1) _) rfl) (run_dCall0 (ds := [.well, .int (3 : Nat)]) rfl rfl (run_take' (by decide) (by decide))) fun x y hx hy => ?_) (Nat.le_refl _) fun _ z => z
    obtain ⟨r, rfl, hr⟩ := hy
    subst hx
    exact run_ok ⟨r + 1, by simp [nD]; omega, by omega, by omega⟩
  · rintro fl ⟨d, ⟨ds, rfl, h1, h2⟩, rfl⟩
    obtain ⟨sz, rfl, h3⟩ := lift_map h2
    exact ⟨_, rfl, sz, rfl, h3, by simpa using h1⟩
  rintro ρ ⟨sz, rfl, hp, hl⟩
  refine run_seq (P := fun ρ => ∃ ps : List Pr, ρ = [.sh .well, .sh (nD E), .sh (rD sz), .no, .sh (.tup (ps.map fun p => .tup p.ds)), .no] ∧ ps.length = E ∧ ∀ p ∈ ps, p.ok sz.length ∧ p.dep ≤ 2 ∧ D.szs p.ds ≤ 2000 * 8 ^ 2 ∧ p.wl ∧ p.ds.length ≤ 2)
    (run_imp (run_set (run_tup_draws (n := E) (c := 945) (P := fun d => ∃ p : Pr, d = .tup p.ds ∧ p.ok sz.length ∧ p.dep ≤ 2 ∧ D.szs p.ds ≤ 2000 * 8 ^ 2 ∧ p.wl ∧ p.ds.length ≤ 2) rfl (by omega) fun k hk => ?_)) ?_) ?_
  · rw [← hsc]
    exact run_dCall0 (ds := [.well, rD sz, .int (2 : Nat)]) rfl rfl (r_law_statements hl 2 24 (by decide))
  · rintro fl ⟨d, ⟨ds, rfl, h1, h2⟩, rfl⟩
    obtain ⟨ps, rfl, h3⟩ := lift_map h2
    exact ⟨_, rfl, ps, rfl, by simpa using h1, h3⟩
  rintro ρ ⟨ps, rfl, pl, pk⟩
  refine run_imp (run_ret (P := fun d => ∃ sz ps e, d = pD E sz ps e ∧ POk E sz ps e) (run_imp (run_dTup (run_cons (c1 := 0) (run_pure (t := dV 1 _) rfl) (run_cons (c1 := 0) (run_pure (t := dV 2 _) rfl) (run_cons (c1 := 0) (run_pure (t := dV 4 _) rfl) (run_cons (c1 := 14) (c2 := 0) (run_dCall0 (ds := [.well, rD sz, .int (2 : Nat)]) rfl rfl (r_law_expression hl 2 24 (by decide))) run_nil)))) ?_) ?_)) fun _ z => z
  · rintro ds ⟨d, r, rfl, rfl, d2, r2, rfl, _, d3, r3, rfl, _, d4, r4, rfl, _, rfl⟩
    simp
  · rintro d ⟨ds, rfl, d, r, rfl, rfl, d2, r2, rfl, rfl, d3, r3, rfl, rfl, d4, r4, rfl, ⟨e, rfl, h1, h2⟩, rfl⟩
    exact ⟨sz, ps, e, rfl, e1, e2, hp, hl, pl, fun p hp => ⟨(pk p hp).1, (pk p hp).2.1, by have := (pk p hp).2.2.1; omega, (pk p hp).2.2.2⟩, h1, h2⟩
theorem pr_plain : ∀ p : Pr, D.plains p.ds = true
  | .nil => by simp [Pr.ds, D.plains]
  | .set i e r => by simp [Pr.ds, D.plains, D.plain, s_set, nD, ex_plain e, pr_plain r]
  | .ite t a b r => by simp [Pr.ds, D.plains, D.plain, s_if, ex_plain t, pr_plain a, pr_plain b, pr_plain r]
theorem pr_dep {c : Nat} : ∀ p : Pr, p.ok c → D.deps p.ds ≤ 4 + 2 * p.dep
  | .nil, _ => by simp [Pr.ds, D.deps]
  | .set i e r, h => by
    have := pr_dep r h.2.2.2
    have h2 := h.2.2.1
    simp only [Pr.ds, D.deps, D.dep, ex_dep, dep_nD, Pr.dep]
    omega
  | .ite t a b r, h => by
    have h1 := pr_dep a h.2.2.1
    have h3 := pr_dep b h.2.2.2.1
    have h4 := pr_dep r h.2.2.2.2
    have h2 := h.2.1
    simp only [Pr.ds, D.deps, D.dep, ex_dep, Pr.dep]
    omega
theorem pr_is {c : Nat} : ∀ p : Pr, p.ok c → isSts c p.ds = true
  | .nil, _ => by simp [Pr.ds, isSts]
  | .set i e r, h => by
    have h1 : belowB c (nD i) = true := below_nD h.1
    simp [Pr.ds, isSts, isSt, h1, ex_is e h.2.1, pr_is r h.2.2.2]
  | .ite t a b r, h => by
    simp [Pr.ds, isSts, isSt_if, areSts, ex_is t h.1, pr_is a h.2.2.1, pr_is b h.2.2.2.1, pr_is r h.2.2.2.2]
end
end G74
namespace G74
open PySem AL
noncomputable section
/-! ## the law's own judges -/
theorem e_law_whole (lo : Int) (d : D) (hk : d.known = true) : f_law_whole [d, .int lo] = .ok (.bl (from0 lo d)) := by
  cases d <;> simp_all [f_law_whole, g_law_whole, env0, from0]
theorem in_ints (k a b : Int) : inD (.int k) [.int a, .int b] = (decide (a = k) || decide (b = k)) := by
  simp only [inD, D.pys, D.py, PyData.eqv, List.any_cons, List.any_nil, Bool.or_false]
  rfl
theorem opIn_ints (k a b : Int) : opIn not (.int k) (.t [.int a, .int b]) = .ok (.bl (!(decide (a = k) || decide (b = k)))) := by
  unfold opIn
  rw [if_pos ⟨by simp only [D.plain], by simp only [D.py, PyData.depth]; decide, by simp [Sq.xs, D.plains, D.plain]⟩]
  rw [show inD (.int k) (Sq.t [.int a, .int b]).xs = _ from in_ints k a b]
theorem opIn_sixL {w : Str} (h : PyData.strOk w = true) : opIn not (.str w) (.l sixD) = .ok (.bl (!isOp w)) := by
  unfold opIn
  rw [if_pos ⟨by simp only [D.plain, h], by simp only [D.py, PyData.depth]; decide, plains_six⟩]
  rfl
theorem len3 (r : List D) (k : Int) (h : k < 3) : decide (k = (r.length : Int) + 1 + 1 + 1) = false := decide_eq_false (by omega)
theorem lenk4 (r : List D) (k : Int) (h : k < 4) : decide (k = (r.length : Int) + 1 + 1 + 1 + 1) = false := decide_eq_false (by omega)
theorem lenk5 (r : List D) (k : Int) (h : k < 5) : decide (k = (r.length : Int) + 1 + 1 + 1 + 1 + 1) = false := decide_eq_false (by omega)
theorem below_from {c : Nat} {a : D} : belowB c a = (from0 0 a && (match a with | .int i => decide (i < (c : Int)) | _ => false)) := by
  cases a <;> simp [belowB, from0]
theorem six_l : [D.str "plus", D.str "minus", D.str "least", D.str "greatest", D.str "equal", D.str "less"] = sixD := rfl
theorem six_len : sixD.length ≤ sizeLine := szl (by decide)
theorem e_law_is_expression (c : Nat) : ∀ (n : Nat) (d : D), d.dep < n → d.plain = true → f_law_is_expression n [nD c, d] = .ok (.bl (isEx c d)) := by
  intro n
  induction n with
  | zero => intro d h; omega
  | succ n ih =>
    intro d h hp
    have hk := plain_known hp
    cases d with
    | tup xs =>
      have hps : D.plains xs = true := by simpa only [D.plain] using hp
      cases xs with
      | nil => simp [f_law_is_expression, g_law_is_expression, env0, nD, isEx, Sq.xs, opIn_ints]
      | cons x r =>
        have hx := plain_known (plain_cons hps).1
        cases x with
        | str w =>
          have hw : PyData.strOk w = true := by simpa only [D.plain] using (plain_cons hps).1
          have hin := opIn_sixL hw
          have hd : D.deps r < n := by
            simp only [D.dep, D.deps] at h
            omega
          have hpr := (plain_cons hps).2
          rcases r with _ | ⟨a, _ | ⟨b, _ | ⟨e, r⟩⟩⟩
          · simp [f_law_is_expression, g_law_is_expression, env0, nD, isEx, Sq.xs, opIn_ints]
          · have ha := plain_known (plain_cons hpr).1
            have hw0 := e_law_whole 0 a ha
            by_cases w1 : w = "value"
            · subst w1
              cases h0 : from0 0 a <;> simp [f_law_is_expression, g_law_is_expression, env0, nD, isEx, Sq.xs, opIn_ints, hw0, h0, w_vc]
            · by_cases w2 : w = "cell"
              · subst w2
                cases h0 : from0 0 a with
                | false => simp [f_law_is_expression, g_law_is_expression, env0, nD, isEx, Sq.xs, opIn_ints, hw0, h0, w1, below_from]
                | true =>
                  cases a with
                  | int i => simp [f_law_is_expression, g_law_is_expression, env0, nD, isEx, Sq.xs, opIn_ints, hw0, h0, w1, below_from]
                  | _ => simp [from0] at h0
              · simp [f_law_is_expression, g_law_is_expression, env0, nD, isEx, Sq.xs, opIn_ints, w1, w2]
          · have h1 := ih a (deps_cons hd).1 (plain_cons hpr).1
            have h2 := ih b (deps_cons (deps_cons hd).2).1 (plain_cons (plain_cons hpr).2).1
            simp only [nD] at h1 h2
            cases ho : isOp w <;> cases h3 : isEx c a <;> simp [f_law_is_expression, g_law_is_expression, env0, nD, isEx, Sq.xs, opIn_ints, six_l, six_len, hin, ho, h1, h2, h3]
          · simp [f_law_is_expression, g_law_is_expression, env0, nD, isEx, Sq.xs, opIn_ints, lenk4]
        | well => simp [D.plains, D.plain] at hps
        | raw a => simp [D.plains, D.plain] at hps
        | exc a d c f xs => simp [D.plains, D.plain] at hps
        | _ =>
          simp [f_law_is_expression, g_law_is_expression, env0, nD, isEx, Sq.xs, opIn_ints]
    | well => cases hp
    | raw a => cases hp
    | exc a d c f xs => cases hp
    | _ => simp [f_law_is_expression, g_law_is_expression, env0, nD, isEx]
def bodyJ (n : Nat) : DEnv → T Fl := (gSeq (gIf (dTOr (dTNot (dT (dIsi "tuple" (dV 2)))) (dTOr (dT (dIn not (dLen (dSqV 2)) (dSq (dTup (dCons (dC (.int 3)) (dCons (dC (.int 4)) dNil)))))) (dTNot (dT (dIsi "str" (dIx (dSqV 2) (dC (.int 0))))))))
  (gRet (dC (.bl false)))
  gNil)
  (gSeq (gIf (dTAnd (dT (dB opEq (dLen (dSqV 2)) (dC (.int 3)))) (dTOr (dT (dB opNe (dIx (dSqV 2) (dC (.int 0))) (dC (.str "set")))) (dTOr (dTNot (dT (dCall 2 f_law_whole (dCons (dIx (dSqV 2) (dC (.int 1))) (dCons (dC (.int 0)) dNil))))) (dTOr (dT (dB opGe (dIx (dSqV 2) (dC (.int 1))) (dV 0))) (dTNot (dT (dCall 2 (f_law_is_expression 24) (dCons (dV 0) (dCons (dIx (dSqV 2) (dC (.int 2))) dNil)))))))))
  (gRet (dC (.bl false)))
  gNil)
  (gSeq (gIf (dTAnd (dT (dB opEq (dLen (dSqV 2)) (dC (.int 4)))) (dTOr (dT (dB opNe (dIx (dSqV 2) (dC (.int 0))) (dC (.str "if")))) (dTNot (dT (dCall 2 (f_law_is_expression 24) (dCons (dV 0) (dCons (dIx (dSqV 2) (dC (.int 1))) dNil)))))))
  (gRet (dC (.bl false)))
  gNil)
  (gIf (dTAnd (dT (dB opEq (dLen (dSqV 2)) (dC (.int 4)))) (dTNot (dTAnd (dT (dCall 2 (f_law_are_statements n) (dCons (dV 0) (dCons (dIx (dSqV 2) (dC (.int 2))) dNil)))) (dT (dCall 2 (f_law_are_statements n) (dCons (dV 0) (dCons (dIx (dSqV 2) (dC (.int 3))) dNil)))))))
  (gRet (dC (.bl false)))
  gNil))))
theorem isSts_find (c : Nat) : ∀ xs : List D, isSts c xs = (xs.find? fun x => !isSt c x).isNone
  | [] => by simp [isSts]
  | x :: r => by
    have ih := isSts_find c r
    cases h : isSt c x <;> simp [isSts, h, ih]
theorem e_law_sts (c : Nat) : ∀ n : Nat, n ≤ 24 → ∀ d : D, d.dep < n → d.plain = true → f_law_are_statements n [nD c, d] = .ok (.bl (areSts c d)) := by
  intro n
  induction n with
  | zero => intro _ d h; omega
  | succ n ih =>
    intro hn24 d h hp
    have ih := ih (by omega)
    have hk := plain_known hp
    cases d with
    | tup xs =>
      have hps : D.plains xs = true := by simpa only [D.plain] using hp
      have hd : D.deps xs < n := by
        simp only [D.dep] at h
        omega
      have turn : ∀ (x : D), x ∈ xs → ∀ all : AL.Slot, (isSt c x = false → bodyJ n [.sh (.int (c : Nat)), all, .sh x] = .ok (.rt (.bl false))) ∧ (isSt c x = true → bodyJ n [.sh (.int (c : Nat)), all, .sh x] = .ok (.nx [.sh (.int (c : Nat)), all, .sh x])) := by
        intro x hx all
        have xp := plains_iff.mp hps x hx
        have xk := plain_known xp
        have xd := deps_mem hx
        cases x with
        | tup ys =>
          have yps : D.plains ys = true := by simpa only [D.plain] using xp
          have yd : D.deps ys + 1 < n := by
            simp only [D.dep] at xd
            omega
          cases ys with
          | nil => simp [bodyJ, isSt, Sq.xs, opIn_ints]
          | cons y r =>
            have hy := plain_known (plain_cons yps).1
            cases y with
            | str w =>
              have hpr := (plain_cons yps).2
              have hd2 : D.deps r + 1 < n := by
                simp only [D.deps] at yd
                omega
              rcases r with _ | ⟨a, _ | ⟨b, _ | ⟨e, _ | ⟨z, r⟩⟩⟩⟩
              · simp [bodyJ, isSt, Sq.xs, opIn_ints]
              · simp [bodyJ, isSt, Sq.xs, opIn_ints]
              · have ha := plain_known (plain_cons hpr).1
                have hw0 := e_law_whole 0 a ha
                have he := e_law_is_expression c 24 b (by have := (deps_cons (n := n) (deps_cons (n := n) (show D.deps [a, b] < n by omega)).2).1; omega) (plain_cons (plain_cons hpr).2).1
                simp only [nD] at he
                by_cases w1 : w = "set"
                · subst w1
                  cases h0 : from0 0 a with
                  | false => simp [bodyJ, isSt, Sq.xs, opIn_ints, hw0, h0, below_from]
                  | true =>
                    cases a with
                    | int i =>
                      by_cases hi : i < (c : Int)
                      · have hi2 : ¬ (c : Int) ≤ i := by omega
                        cases h3 : isEx c b <;> simp [bodyJ, isSt, Sq.xs, opIn_ints, hw0, h0, below_from, he, hi, hi2, h3]
                      · have hi2 : (c : Int) ≤ i := by omega
                        simp [bodyJ, isSt, Sq.xs, opIn_ints, hw0, h0, below_from, he, hi, hi2]
                    | _ => simp [from0] at h0
                · simp [bodyJ, isSt, Sq.xs, opIn_ints, w1]
              · have he := e_law_is_expression c 24 a (by have := (deps_cons (n := n) (show D.deps [a, b, e] < n by omega)).1; omega) (plain_cons hpr).1
                have i1 := ih b (by have := (deps_cons (n := n) (deps_cons (n := n) (show D.deps [a, b, e] < n by omega)).2).1; omega) (plain_cons (plain_cons hpr).2).1
                have i2 := ih e (by have := (deps_cons (n := n) (deps_cons (n := n) (deps_cons (n := n) (show D.deps [a, b, e] < n by omega)).2).2).1; omega) (plain_cons (plain_cons (plain_cons hpr).2).2).1
                simp only [nD] at he i1 i2
                by_cases w2 : w = "if"
                · subst w2
                  cases h1 : isEx c a <;> cases h2 : areSts c b <;> cases h3 : areSts c e <;> simp [bodyJ, isSt_if, Sq.xs, opIn_ints, he, i1, i2, h1, h2, h3]
                · simp [bodyJ, isSt_four, Sq.xs, opIn_ints, w2]
              · simp [bodyJ, isSt_five, Sq.xs, opIn_ints, lenk5]
            | well => simp [D.plains, D.plain] at yps
            | raw a => simp [D.plains, D.plain] at yps
            | exc a d c f xs => simp [D.plains, D.plain] at yps
            | _ =>
              simp [bodyJ, isSt, Sq.xs, opIn_ints]
        | well => cases xp
        | raw a => cases xp
        | exc a d c f xs => cases xp
        | _ => simp [bodyJ, isSt]
      obtain ⟨ρ', h1, s2, rfl⟩ := for_find (fb := bName 2) (g := bodyJ n) (I := fun ρ => ∃ s2, ρ = [.sh (.int (c : Nat)), .sh (.tup xs), s2]) (p := fun x => !isSt c x) (r := fun _ => .bl false) (xs := xs) (ρ := [.sh (.int (c : Nat)), .sh (.tup xs), .no]) ⟨_, rfl⟩ fun x hx ρ hI => by
        obtain ⟨s2, rfl⟩ := hI
        have ht := turn x hx (.sh (.tup xs))
        refine ⟨_, rfl, ?_⟩
        cases hs : isSt c x with
        | false => exact .inl ⟨rfl, ht.1 hs⟩
        | true => exact .inr ⟨rfl, _, .inl (ht.2 hs), _, rfl⟩
      have e : f_law_are_statements (n + 1) = bodyT 3 (gSeq (gIf (dTNot (dT (dIsi "tuple" (dV 1)))) (gRet (dC (.bl false))) gNil) (gSeq (gFor (dItems (dSq (dV 1))) (bName 2) (bodyJ n)) (gRet (dC (.bl true))))) := rfl
      rw [e]
      simp [env0, nD, Sq.xs, h1, areSts, isSts_find]
      cases hf : xs.find? fun x => !isSt c x <;> simp
    | well => cases hp
    | raw a => cases hp
    | exc a d c f xs => cases hp
    | _ => simp [f_law_are_statements, g_law_are_statements, env0, nD, areSts]
end
end G74
namespace G74
open PySem AL
noncomputable section
/-! ## where a program is wrong -/
def badAt (n : Nat) (ps : List D) : Option Nat := ps.findIdx? fun p => !areSts n p
def lenIs (a : D) (n : Nat) : Bool := match a with
  | .int i => decide ((n : Int) = i)
  | _ => false
def faultOf : D → D
  | .tup [a, b, c, e] =>
    if from0 1 a then
      match b with
      | .tup ss =>
        if ss.all (from0 1) then
          match c with
          | .tup ps =>
            if lenIs a ps.length then
              match badAt ss.length ps with
              | some i => .tup [.int 2, .int (i : Nat)]
              | none => if isEx ss.length e then .non else .tup [.int 3]
            else .tup [.int 2]
          | _ => .tup [.int 2]
        else .tup [.int 1]
      | _ => .tup [.int 1]
    else .tup [.int 0]
  | _ => .tup []
/-- lists of at most m -/
def limB (m : Nat) : D → Bool
  | .tup [_, .tup ss, _, _] => decide (ss.length ≤ m)
  | _ => true
structure Good (d : D) : Prop where
  plain : d.plain = true
  dep : d.dep ≤ 20
  sz : d.sz ≤ 1000000
theorem plain4 {a b c e : D} (h : D.plains [a, b, c, e] = true) : a.plain = true ∧ b.plain = true ∧ c.plain = true ∧ e.plain = true := by
  simpa [D.plains] using h
theorem dep4 {a b c e : D} {n : Nat} (h : (D.tup [a, b, c, e]).dep ≤ n) : a.dep < n ∧ b.dep < n ∧ c.dep < n ∧ e.dep < n := by
  simp only [D.dep, D.deps] at h
  omega
theorem sz4 {a b c e : D} {n : Nat} (h : (D.tup [a, b, c, e]).sz ≤ n) : a.sz ≤ n ∧ b.sz ≤ n ∧ c.sz ≤ n ∧ e.sz ≤ n := by
  simp only [D.sz, D.szs] at h
  omega
theorem asBools_from (xs : List D) : asBools (xs.map fun x => D.bl (from0 1 x)) = some (xs.map (from0 1)) := asBools_map _ xs
theorem all_from (xs : List D) : (xs.map (from0 1)).all id = xs.all (from0 1) := by rw [List.all_map]; rfl
theorem from_get {lo : Int} {a : D} (h : from0 lo a = true) : ∃ i, a = .int i ∧ lo ≤ i := by
  cases a with
  | int i => exact ⟨i, rfl, by simpa [from0] using h⟩
  | _ => simp [from0] at h
theorem sts24 {n : Nat} {p : D} (hp : p.plain = true) (hd : p.dep < 24) (hs : p.sz ≤ 1000000) : f_are_statements 24 [.int (n : Nat), p] = .ok (.bl (areSts n p)) := (e_sts n 24 (by decide)).2 p hd hs hp
theorem ex24 {n : Nat} {p : D} (hp : p.plain = true) (hd : p.dep < 24) : f_is_expression 24 [.int (n : Nat), p] = .ok (.bl (isEx n p)) := e_is_expression n 24 p hd hp
def bodyF : DEnv → T Fl := gIf (dTNot (dT (dCall 2 (f_are_statements 24) (dCons (dLen (dSqV 2)) (dCons (dV 7) dNil))))) (gRet (dTup (dCons (dC (.int 2)) (dCons (dV 6) dNil)))) gNil
theorem fault_loop {s0 s1 s3 s4 s5 s6 s7 : AL.Slot} {ss ps : List D} (h : ∀ p ∈ ps, p.plain = true ∧ p.dep < 24 ∧ p.sz ≤ 1000000) : ∃ t6 t7, forGo (bTup 2 (bCons (bName 6) (bCons (bName 7) bNil))) bodyF (numbered 0 ps) [s0, s1, .sh (.tup ss), s3, s4, s5, s6, s7] =
    (match badAt ss.length ps with | some i => .ok (.rt (.tup [.int 2, .int (i : Nat)])) | none => .ok (.nx [s0, s1, .sh (.tup ss), s3, s4, s5, t6, t7])) := by
  obtain ⟨ρ', h1, t6, t7, rfl⟩ := for_find (fb := bTup 2 (bCons (bName 6) (bCons (bName 7) bNil))) (g := bodyF) (I := fun ρ => ∃ t6 t7, ρ = [s0, s1, .sh (.tup ss), s3, s4, s5, t6, t7])
    (p := fun d => match d with | .tup [_, y] => !areSts ss.length y | _ => false) (r := fun d => match d with | .tup [i, _] => .tup [.int 2, i] | _ => .non) (xs := numbered 0 ps) (ρ := [s0, s1, .sh (.tup ss), s3, s4, s5, s6, s7]) ⟨_, _, rfl⟩ fun x hx ρ hI => by
    obtain ⟨t6, t7, rfl⟩ := hI
    obtain ⟨i, y, hy, rfl⟩ := numbered_mem hx
    obtain ⟨g1, g2, g3⟩ := h y hy
    have hs := sts24 (n := ss.length) g1 g2 g3
    refine ⟨_, rfl, ?_⟩
    cases hb : areSts ss.length y with
    | true => exact .inr ⟨by simp [hb], [s0, s1, .sh (.tup ss), s3, s4, s5, .sh (.int i), .sh y], .inl (by simp [bodyF, Sq.xs, hs, hb]), _, _, rfl⟩
    | false => exact .inl ⟨by simp [hb], by simp [bodyF, Sq.xs, hs, hb]⟩
  refine ⟨t6, t7, ?_⟩
  rw [h1, numbered_find (q := fun d => !areSts ss.length d) fun _ _ => rfl]
  unfold badAt
  cases e : ps.findIdx? fun d => !areSts ss.length d with
  | none => simp
  | some i =>
    have hi : i < ps.length := (List.findIdx?_eq_some_iff_findIdx_eq.mp e).1
    simp [List.getElem?_eq_getElem hi]
theorem mems {ps : List D} (hp : (D.tup ps).plain = true) (hd : (D.tup ps).dep < 24) (hs : (D.tup ps).sz ≤ 1000000) : ∀ p ∈ ps, p.plain = true ∧ p.dep < 24 ∧ p.sz ≤ 1000000 := fun p h => by
  refine ⟨plains_iff.mp (by simpa only [D.plain] using hp) p h, ?_, ?_⟩
  · have := deps_mem h
    simp only [D.dep] at hd
    omega
  · have := szs_mem h
    simp only [D.sz] at hs
    omega
theorem len_le {ps : List D} (hs : (D.tup ps).sz ≤ 1000000) : ps.length ≤ sizeLine := by
  have := szs_len ps
  simp only [D.sz] at hs
  exact szl (by omega)
theorem e_program_fault {d : D} (g : Good d) : f_program_fault [d] = .ok (faultOf d) := by
  have hk := plain_known g.plain
  have hsub : ∀ xs : List D, f_is_tuple [.int 4, .tup xs] = .ok (.bl (decide ((xs.length : Int) = 4))) := fun xs => by simp
  cases d with
  | tup xs =>
    rcases xs with _ | ⟨a, _ | ⟨b, _ | ⟨c, _ | ⟨e, _ | ⟨z, r⟩⟩⟩⟩⟩
    · simp [f_program_fault, g_program_fault, env0, faultOf]
    · simp [f_program_fault, g_program_fault, env0, faultOf]
    · simp [f_program_fault, g_program_fault, env0, faultOf]
    · simp [f_program_fault, g_program_fault, env0, faultOf]
    · obtain ⟨p1, p2, p3, p4⟩ := plain4 (by simpa only [D.plain] using g.plain)
      obtain ⟨d1, d2, d3, d4⟩ := dep4 g.dep
      obtain ⟨z1, z2, z3, z4⟩ := sz4 g.sz
      have k1 := plain_known p1
      have k2 := plain_known p2
      have k3 := plain_known p3
      have ha : ∀ a b c d : D, bTup 4 (bCons (bName 1) (bCons (bName 2) (bCons (bName 3) (bCons (bName 4) bNil)))) (.tup [a, b, c, d]) [.sh (.tup [a, b, c, d]), .no, .no, .no, .no, .no, .no, .no] = .ok [.sh (.tup [a, b, c, d]), .sh a, .sh b, .sh c, .sh d, .no, .no, .no] := fun _ _ _ _ => rfl
      have hf : f_is_from [.int 1, a] = .ok (.bl (from0 1 a)) := by
        rw [e_is_from, if_pos k1]; rfl
      cases h1 : from0 1 a with
      | false => simp [f_program_fault, g_program_fault, env0, faultOf, ha, hf, h1, -e_is_from]
      | true =>
        obtain ⟨i, rfl, hi⟩ := from_get h1
        cases b with
        | tup ss =>
          have hl := lc_map (fb := bName 5) (fe := dCall 2 f_is_from (dCons (dC (.int 1)) (dCons (dV 5) dNil))) (ρ := [.sh (.tup [.int i, .tup ss, c, e]), .sh (.int i), .sh (.tup ss), .sh c, .sh e, .no, .no, .no]) (g := fun x => .bl (from0 1 x)) (xs := ss) fun x hx => by
            have kx := plain_known ((mems p2 (by omega) z2) x hx).1
            have hf : f_is_from [.int 1, x] = .ok (.bl (from0 1 x)) := by
              rw [e_is_from, if_pos kx]; rfl
            exact ⟨_, rfl, by simp [hf, -e_is_from]⟩
          have hz := len_le z2
          cases h2 : ss.all (from0 1) with
          | false => simp [f_program_fault, g_program_fault, env0, faultOf, ha, hf, h1, -e_is_from, Sq.xs, dWipe, hl, hz, asBools_from, all_from, h2]
          | true =>
            cases c with
            | tup ps =>
              by_cases h3 : (ps.length : Int) = i
              · obtain ⟨t6, t7, hfl⟩ := fault_loop (s0 := .sh (.tup [.int i, .tup ss, .tup ps, e])) (s1 := .sh (.int i)) (s3 := .sh (.tup ps)) (s4 := .sh e) (s5 := .no) (s6 := .no) (s7 := .no) (ss := ss) (mems p3 (by omega) z3)
                have hx := ex24 (n := ss.length) p4 (by omega)
                unfold bodyF at hfl
                cases h4 : badAt ss.length ps with
                | some j =>
                  rw [h4] at hfl
                  simp [f_program_fault, g_program_fault, env0, faultOf, ha, hf, h1, -e_is_from, Sq.xs, dWipe, hl, hz, asBools_from, all_from, h2, h3, hfl, h4, lenIs]
                | none =>
                  rw [h4] at hfl
                  cases h5 : isEx ss.length e <;> simp [f_program_fault, g_program_fault, env0, faultOf, ha, hf, h1, -e_is_from, Sq.xs, dWipe, hl, hz, asBools_from, all_from, h2, h3, hfl, h4, hx, h5, lenIs]
              · simp [f_program_fault, g_program_fault, env0, faultOf, ha, hf, h1, -e_is_from, Sq.xs, dWipe, hl, hz, asBools_from, all_from, h2, h3, lenIs]
            | well => cases p3
            | raw a => cases p3
            | exc a d c f xs => cases p3
            | _ => simp [f_program_fault, g_program_fault, env0, faultOf, ha, hf, h1, -e_is_from, Sq.xs, dWipe, hl, hz, asBools_from, all_from, h2]
        | well => cases p2
        | raw a => cases p2
        | exc a d c f xs => cases p2
        | _ => simp [f_program_fault, g_program_fault, env0, faultOf, ha, hf, h1, -e_is_from]
    · have hl : decide ((r.length : Int) + 1 + 1 + 1 + 1 + 1 = 4) = false := decide_eq_false (by omega)
      simp [f_program_fault, g_program_fault, env0, faultOf, hl]
  | well => cases g.plain
  | raw a => cases g.plain
  | exc a d c f xs => cases g.plain
  | _ => simp [f_program_fault, g_program_fault, env0, faultOf]
end
end G74
namespace G74
open PySem AL
noncomputable section
theorem opNe_lnil {xs : List D} (h : D.plains xs = true) : opNe (.lst xs) (.lst []) = .ok (.bl (!xs.isEmpty)) := by
  have e : min (D.lst xs).py.depth (D.lst []).py.depth ≤ 64 := by simp [D.py, D.pys, PyData.depth, PyData.depthAll]
  show (if _ ∧ _ ∧ _ then _ else _) = _
  rw [if_pos ⟨by simpa only [D.plain] using h, rfl, e⟩]
  cases xs with
  | nil => simp [D.py, D.pys, PyData.eqv, PyData.eqvAll]
  | cons x r => simp [D.py, D.pys, PyData.eqv, PyData.eqvAll]
theorem find_range (q : D → Bool) : ∀ ps : List D, (List.range ps.length).find? (fun i => q (ps.getD i .non)) = ps.findIdx? q
  | [] => rfl
  | x :: r => by
    have ih := find_range q r
    rw [List.length_cons, List.range_succ_eq_map, List.find?_cons, List.findIdx?_cons]
    cases h : q x with
    | true => simp [h]
    | false =>
      simp only [List.getD_cons_zero, h]
      rw [List.find?_map, ← ih]
      rfl
def atD (ps : List D) (i : Nat) : D := ps.getD i .non
theorem atD_get {ps : List D} {i : Nat} (h : i < ps.length) : ps[i]? = some (atD ps i) ∧ atD ps i ∈ ps := by
  unfold atD
  rw [List.getD_eq_getElem?_getD, List.getElem?_eq_getElem h]
  exact ⟨rfl, List.getElem_mem h⟩
def bodyL : DEnv → T Fl := (gIf (dTNot (dT (dCall 2 (f_law_are_statements 24) (dCons (dLen (dSq (dIx (dSqV 0) (dC (.int 1))))) (dCons (dIx (dSq (dIx (dSqV 0) (dC (.int 2)))) (dV 2)) dNil)))))
  (gRet (dTup (dCons (dC (.int 2)) (dCons (dV 2) dNil))))
  gNil)
theorem lsts24 {n : Nat} {p : D} (hp : p.plain = true) (hd : p.dep < 24) : f_law_are_statements 24 [.int (n : Nat), p] = .ok (.bl (areSts n p)) := e_law_sts n 24 (by decide) p hd hp
theorem lex24 {n : Nat} {p : D} (hp : p.plain = true) (hd : p.dep < 24) : f_law_is_expression 24 [.int (n : Nat), p] = .ok (.bl (isEx n p)) := e_law_is_expression n 24 p hd hp
theorem law_loop {a e : D} {s1 s2 : AL.Slot} {ss ps : List D} (h : ∀ p ∈ ps, p.plain = true ∧ p.dep < 24 ∧ p.sz ≤ 1000000) : ∃ t2, forGo (bName 2) bodyL ((List.range ps.length).map nD) [.sh (.tup [a, .tup ss, .tup ps, e]), s1, s2] =
    (match badAt ss.length ps with | some i => .ok (.rt (.tup [.int 2, .int (i : Nat)])) | none => .ok (.nx [.sh (.tup [a, .tup ss, .tup ps, e]), s1, t2])) := by
  obtain ⟨ρ', h1, t2, rfl⟩ := for_find (fb := bName 2) (g := bodyL) (I := fun ρ => ∃ t2, ρ = [.sh (.tup [a, .tup ss, .tup ps, e]), s1, t2])
    (p := fun d => match d with | .int i => !areSts ss.length (atD ps i.toNat) | _ => false) (r := fun d => .tup [.int 2, d]) (xs := (List.range ps.length).map nD) (ρ := [.sh (.tup [a, .tup ss, .tup ps, e]), s1, s2]) ⟨_, rfl⟩ fun x hx ρ hI => by
    obtain ⟨t2, rfl⟩ := hI
    obtain ⟨i, hi, rfl⟩ := List.mem_map.mp hx
    have hi := List.mem_range.mp hi
    obtain ⟨k1, k2⟩ := atD_get hi
    obtain ⟨g1, g2, g3⟩ := h _ k2
    have hs := lsts24 (n := ss.length) g1 g2
    have hx := opIx_t (xs := ps) (i := i) k1
    refine ⟨_, rfl, ?_⟩
    cases hb : areSts ss.length (atD ps i) with
    | true => exact .inr ⟨by simp [nD, hb], [.sh (.tup [a, .tup ss, .tup ps, e]), s1, .sh (nD i)], .inl (by simp [bodyL, Sq.xs, nD, hx, hs, hb]), _, rfl⟩
    | false => exact .inl ⟨by simp [nD, hb], by simp [bodyL, Sq.xs, nD, hx, hs, hb]⟩
  refine ⟨t2, ?_⟩
  rw [h1, List.find?_map]
  have hf := find_range (fun p => !areSts ss.length p) ps
  have e2 : ((fun d => match d with | D.int i => !areSts ss.length (atD ps i.toNat) | _ => false) ∘ nD) = fun i => (fun p => !areSts ss.length p) (ps.getD i .non) := by
    funext i
    simp [nD, atD]
  rw [e2, hf]
  unfold badAt
  cases e : ps.findIdx? fun d => !areSts ss.length d with
  | none => simp
  | some i => simp [nD]
theorem e_law_fault {d : D} (g : Good d) : f_law_fault [d] = .ok (faultOf d) := by
  have hk := plain_known g.plain
  cases d with
  | tup xs =>
    rcases xs with _ | ⟨a, _ | ⟨b, _ | ⟨c, _ | ⟨e, _ | ⟨z, r⟩⟩⟩⟩⟩
    · simp [f_law_fault, g_law_fault, env0, faultOf, Sq.xs]
    · simp [f_law_fault, g_law_fault, env0, faultOf, Sq.xs]
    · simp [f_law_fault, g_law_fault, env0, faultOf, Sq.xs]
    · simp [f_law_fault, g_law_fault, env0, faultOf, Sq.xs]
    · obtain ⟨p1, p2, p3, p4⟩ := plain4 (by simpa only [D.plain] using g.plain)
      obtain ⟨d1, d2, d3, d4⟩ := dep4 g.dep
      obtain ⟨z1, z2, z3, z4⟩ := sz4 g.sz
      have k1 := plain_known p1
      have k2 := plain_known p2
      have k3 := plain_known p3
      have hf := e_law_whole 1 a k1
      cases h1 : from0 1 a with
      | false => simp [f_law_fault, g_law_fault, env0, faultOf, Sq.xs, hf, h1]
      | true =>
        obtain ⟨i, rfl, hi⟩ := from_get h1
        cases b with
        | tup ss =>
          have hl := lc_eq (fb := bName 1) (ft := dTNot (dT (dCall 2 f_law_whole (dCons (dV 1) (dCons (dC (.int 1)) dNil))))) (fe := dV 1) (ρ := [.sh (.tup [.int i, .tup ss, c, e]), .no, .no]) (p := fun x => !from0 1 x) (g := fun x => x) (xs := ss) fun x hx => by
            have kx := plain_known ((mems p2 (by omega) z2) x hx).1
            exact ⟨_, rfl, by simp [e_law_whole 1 x kx], fun _ => rfl⟩
          have hz := len_le z2
          have hne := opNe_lnil (xs := ss.filter fun x => !from0 1 x) (plains_iff.mpr fun d hd => (mems p2 (by omega) z2 d (List.mem_filter.mp hd).1).1)
          have hem : (ss.filter fun x => !from0 1 x).isEmpty = ss.all (from0 1) := by
            cases h : ss.all (from0 1) with
            | true =>
              rw [List.isEmpty_iff, List.filter_eq_nil_iff]
              intro x hx
              simp [List.all_eq_true.mp h x hx]
            | false =>
              rw [List.isEmpty_eq_false_iff, ne_eq, List.filter_eq_nil_iff]
              intro hh
              have : ss.all (from0 1) = true := List.all_eq_true.mpr fun x hx => by
                have := hh x hx
                cases hx : from0 1 x <;> simp_all
              rw [this] at h
              cases h
          rw [hem] at hne
          rw [List.map_id'] at hl
          cases h2 : ss.all (from0 1) with
          | false =>
            rw [h2] at hne
            simp [f_law_fault, g_law_fault, env0, faultOf, hf, h1, Sq.xs, dWipe, hl, hz, hne, h2]
          | true =>
            rw [h2] at hne
            cases c with
            | tup ps =>
              by_cases h3 : (ps.length : Int) = i
              · subst h3
                obtain ⟨t2, hfl⟩ := law_loop (a := .int (ps.length : Nat)) (e := e) (s1 := .no) (s2 := .no) (ss := ss) (mems p3 (by omega) z3)
                have hx := lex24 (n := ss.length) p4 (by omega)
                have hr := rangeT_nat (n := ps.length) (by have := szs_len ps; simp only [D.sz] at z3; omega)
                have hr2 : rangeT (.int (ps.length : Nat)) = .ok ((List.range ps.length).map nD) := hr
                unfold bodyL at hfl
                cases h4 : badAt ss.length ps with
                | some j =>
                  rw [h4] at hfl
                  simp [f_law_fault, g_law_fault, env0, faultOf, hf, h1, Sq.xs, dWipe, hl, hz, hne, h2, hr2, hfl, h4, lenIs]
                | none =>
                  rw [h4] at hfl
                  cases h5 : isEx ss.length e <;> simp [f_law_fault, g_law_fault, env0, faultOf, hf, h1, Sq.xs, dWipe, hl, hz, hne, h2, hr2, hfl, h4, hx, h5, lenIs]
              · simp [f_law_fault, g_law_fault, env0, faultOf, hf, h1, Sq.xs, dWipe, hl, hz, hne, h2, h3, lenIs]
            | well => cases p3
            | raw a => cases p3
            | exc a d c f xs => cases p3
            | _ => simp [f_law_fault, g_law_fault, env0, faultOf, hf, h1, Sq.xs, dWipe, hl, hz, hne, h2]
        | well => cases p2
        | raw a => cases p2
        | exc a d c f xs => cases p2
        | _ => simp [f_law_fault, g_law_fault, env0, faultOf, hf, h1, Sq.xs]
    · have hl : decide ((r.length : Int) + 1 + 1 + 1 + 1 + 1 = 4) = false := decide_eq_false (by omega)
      simp [f_law_fault, g_law_fault, env0, faultOf, Sq.xs, hl]
  | well => cases g.plain
  | raw a => cases g.plain
  | exc a d c f xs => cases g.plain
  | _ => simp [f_law_fault, g_law_fault, env0, faultOf]
end
end G74
namespace G74
open PySem AL
noncomputable section
/-! ## what a value of an expression is, whatever it is -/
theorem of_two_any (w : Str) (x y : Int) : ∃ v : Int, f_of_two [.str w, .int x, .int y] = .ok (.int v) := by
  by_cases h0 : w = "plus"
  · subst h0; exact ⟨_, e_of_two (k := 0) (by decide) x y⟩
  by_cases h1 : w = "minus"
  · subst h1; exact ⟨_, e_of_two (k := 1) (by decide) x y⟩
  by_cases h2 : w = "least"
  · subst h2; exact ⟨_, e_of_two (k := 2) (by decide) x y⟩
  by_cases h3 : w = "greatest"
  · subst h3; exact ⟨_, e_of_two (k := 3) (by decide) x y⟩
  by_cases h4 : w = "equal"
  · subst h4; exact ⟨_, e_of_two (k := 4) (by decide) x y⟩
  · exact ⟨if x < y then 1 else 0, by simp [f_of_two, g_of_two, env0, h0, h1, h2, h3, h4]⟩
theorem value_any (c : Nat) (cs : List Nat) (hl : cs.length = c) : ∀ (n : Nat) (d : D), d.dep < n → isEx c d = true → ∃ v : Int, f_value_of n [.tup (cs.map nD), d] = .ok (.int v) := by
  intro n
  induction n with
  | zero => intro d h; omega
  | succ n ih =>
    intro d h hx
    unfold isEx at hx
    split at hx
    · rename_i w a
      simp only [Bool.or_eq_true, Bool.and_eq_true, decide_eq_true_eq] at hx
      rcases hx with ⟨rfl, h0⟩ | ⟨rfl, h0⟩
      · obtain ⟨i, rfl, _⟩ := from_get h0
        exact ⟨i, by simp [f_value_of, g_value_of, env0]⟩
      · cases a with
        | int i =>
          simp only [belowB, Bool.and_eq_true, decide_eq_true_eq] at h0
          have hi : i.toNat < cs.length := by omega
          have h1 : opIx (.t (cs.map nD)) (.int (i.toNat : Nat)) = .ok (.int (at0 cs i.toNat : Nat)) := opIx_t (at0_get hi)
          rw [show ((i.toNat : Nat) : Int) = i by omega] at h1
          exact ⟨_, by simp [f_value_of, g_value_of, env0, h1]; rfl⟩
        | _ => simp [belowB] at h0
    · rename_i w a b
      simp only [Bool.and_eq_true] at hx
      obtain ⟨⟨ho, ha⟩, hb⟩ := hx
      have w1 : ¬ w = "value" := fun e => by subst e; rw [op_value] at ho; cases ho
      have w2 : ¬ w = "cell" := fun e => by subst e; rw [op_cell] at ho; cases ho
      simp only [D.dep, D.deps] at h
      obtain ⟨x, h1⟩ := ih a (by omega) ha
      obtain ⟨y, h2⟩ := ih b (by omega) hb
      obtain ⟨v, h3⟩ := of_two_any w x y
      exact ⟨v, by simp [f_value_of, g_value_of, env0, w1, w2, h1, h2, h3]⟩
    · cases hx
theorem flat_one {α : Type} (a : α) : ∀ n : Nat, (List.replicate n [a]).flatten = List.replicate n a
  | 0 => rfl
  | n + 1 => by rw [List.replicate_succ, List.flatten_cons, flat_one a n]; rfl
def zeros (n : Nat) : List Nat := List.replicate n 0
theorem rep_nD (n : Nat) : List.replicate n (D.int 0) = (zeros n).map nD := by unfold zeros; rw [List.map_replicate]; rfl
/-! ## what is told -/
theorem len_of_sz {ps : List D} {n : Nat} (h : (D.tup ps).sz ≤ n) : 2 * ps.length ≤ n := by
  have := szs_len ps
  simp only [D.sz] at h
  omega
theorem fault_forms {d : D} (g : Good d) : faultOf d = .non ∨ faultOf d = .tup [] ∨ (∃ k : Nat, k < 10 ∧ faultOf d = .tup [nD k]) ∨ ∃ i : Nat, i < 1000000 ∧ faultOf d = .tup [.int 2, nD i] := by
  unfold faultOf
  split
  · split
    · split
      · split
        · split
          · split
            · split
              · rename_i i h
                refine .inr (.inr (.inr ⟨i, ?_, rfl⟩))
                have hi := (List.findIdx?_eq_some_iff_findIdx_eq.mp h).1
                have h1 := len_of_sz (sz4 g.sz).2.2.1
                omega
              · split
                · exact .inl rfl
                · exact .inr (.inr (.inl ⟨3, by decide, rfl⟩))
            · exact .inr (.inr (.inl ⟨2, by decide, rfl⟩))
          · exact .inr (.inr (.inl ⟨2, by decide, rfl⟩))
        · exact .inr (.inr (.inl ⟨1, by decide, rfl⟩))
      · exact .inr (.inr (.inl ⟨1, by decide, rfl⟩))
    · exact .inr (.inr (.inl ⟨0, by decide, rfl⟩))
  · exact .inr (.inl rfl)
structure Place (p : D) : Prop where
  num : p.num = true
  sz : p.sz ≤ 100
  dep : p.dep ≤ 1
theorem place_of {d : D} (g : Good d) : Place (faultOf d) := by
  have h2 : (D.int 2).num = true := num_nD (x := 2) (by decide)
  rcases fault_forms g with h | h | ⟨k, hk, h⟩ | ⟨k, hk, h⟩ <;> rw [h]
  · exact ⟨by simp only [D.num], by simp only [D.sz]; omega, by simp only [D.dep]; omega⟩
  · exact ⟨by simp only [D.num, D.nums], by simp only [D.sz, D.szs]; omega, by simp only [D.dep, D.deps]; omega⟩
  · exact ⟨by simp only [D.num, D.nums, num_nD (x := k) (by omega), Bool.and_true], by simp only [D.sz, D.szs, sz_nD]; omega, by simp only [D.dep, D.deps, dep_nD]; omega⟩
  · refine ⟨?_, by simp only [D.sz, D.szs, sz_nD]; omega, by simp only [D.dep, D.deps, dep_nD]; omega⟩
    have h3 := num_nD (x := k) hk
    simp only [D.num, D.nums, Bool.and_true] at h2 h3 ⊢
    rw [h2, h3]
    rfl
theorem Place.show {p : D} (h : Place p) : p.canShow := canShow_of h.num (szl (by have := h.sz; omega)) (by have := h.dep; omega)
theorem shown_le {p : D} (h : Place p) : p.py.shown.length ≤ 100 := Nat.le_trans (num_len p h.num) h.sz
theorem raise_ok {d : D} (g : Good d) (h : faultOf d ≠ .non) : RaiseOk (faultOf d) := by
  have hp := place_of g
  have hs := shown_le hp
  refine ⟨hp.show, by omega, ?_⟩
  rcases fault_forms g with e | e | ⟨k, hk, e⟩ | ⟨k, hk, e⟩
  · exact absurd e h
  all_goals
    rw [e] at hs ⊢
    simp only [D.py, PyData.told] at hs ⊢
    omega
/-! ## the questions -/
theorem e_check_ok {d : D} (g : Good d) (hf : faultOf d = .non) : f_check_program [d] = .ok .non := by
  have h := e_program_fault g
  rw [hf] at h
  simp [f_check_program, g_check_program, env0, h]
theorem e_check_bad {d : D} (g : Good d) (hf : faultOf d ≠ .non) : f_check_program [d] = .exc ⟨"InvalidProgram", some ("place", faultOf d)⟩ := by
  have h := e_program_fault g
  have hr := raise_ok g hf
  have hn : (faultOf d).isNon = false := by
    cases e : faultOf d <;> first | rfl | exact absurd e hf
  simp [f_check_program, g_check_program, env0, h, hn, hr]
theorem right_forms {d : D} (h : faultOf d = .non) : ∃ (i : Int) (ss ps : List D) (e : D), d = .tup [.int i, .tup ss, .tup ps, e] ∧ 1 ≤ i ∧ isEx ss.length e = true := by
  unfold faultOf at h
  split at h
  · rename_i a b c e
    split at h
    · rename_i ha
      obtain ⟨i, rfl, hi⟩ := from_get ha
      split at h
      · rename_i ss
        split at h
        · split at h
          · rename_i ps
            split at h
            · split at h
              · cases h
              · split at h
                · rename_i hx
                  exact ⟨i, ss, ps, e, rfl, hi, hx⟩
                · cases h
            · cases h
          · cases h
        · cases h
      · cases h
    · cases h
  · cases h
theorem nil_log (i : Int) : f_check_log [.int i, .tup []] = .ok .non := by
  have e : f_row_fault [.int i, .tup []] = .ok .non := by
    rw [e_row_fault]
    · rfl
    · intro x hx; cases hx
  simp [f_check_log, g_check_log, env0, e]
theorem e_answer_right {d : D} (g : Good d) (hl : limB 1000 d = true) (h : faultOf d = .non) : ∃ v : Int, f_answer_by [d, .tup []] = .ok (.int v) := by
  have hc := e_check_ok g h
  obtain ⟨i, ss, ps, e, rfl, hi, hx⟩ := right_forms h
  simp only [limB, decide_eq_true_eq] at hl
  have h1 : f_check_run [.tup [.int i, .tup ss, .tup ps, e], .tup []] = .ok .non := by
    simp [f_check_run, g_check_run, env0, hc, nil_log]
  have h2 : f_cells_in [.tup [.int i, .tup ss, .tup ps, e], .tup []] = .ok (.tup ((zeros ss.length).map nD)) := by
    have hr : opRepT (.t [.int 0]) (.int (ss.length : Nat)) = .ok (.tup ((zeros ss.length).map nD)) := by
      rw [opRepT_nat _ _ hl, flat_one, rep_nD]
    simp [f_cells_in, g_cells_in, env0, Sq.xs, hr, forGo]
  obtain ⟨v, h3⟩ := value_any ss.length (zeros ss.length) List.length_replicate 24 e (by have := (dep4 g.dep).2.2.2; omega) hx
  exact ⟨v, by simp [f_answer_by, g_answer_by, env0, h1, h2, h3]⟩
theorem one_tup (x y : D) : RaiseOk x → True := fun _ => trivial
theorem tb_own : List.lookup ("InvalidProgram" : Str) tb_InvalidProgram = some true := by simp [tb_InvalidProgram]
def okProg : D := .tup [.int 1, .tup [], .tup [.tup []], .tup [.str "value", .int 0]]
theorem ok_good : Good okProg := ⟨by decide +kernel, by decide +kernel, by decide +kernel⟩
theorem ok_fault : faultOf okProg = .non := by
  simp [okProg, faultOf, from0, lenIs, badAt, areSts, isSts, isEx]
theorem e_told {d : D} (g : Good d) (h : faultOf d ≠ .non) {w : Nat} (hw : w < 3) : f_law_told [nD w, d] = .ok (faultOf d) := by
  have hc := e_check_bad g h
  have ho := e_check_ok ok_good ok_fault
  unfold okProg at ho
  have e0 : f_summary_of_program [d] = .exc ⟨"InvalidProgram", some ("place", faultOf d)⟩ := by simp [f_summary_of_program, g_summary_of_program, env0, hc]
  have e1 : f_answer_by [d, .tup []] = .exc ⟨"InvalidProgram", some ("place", faultOf d)⟩ := by simp [f_answer_by, g_answer_by, f_check_run, g_check_run, env0, hc]
  have e2 : f_program_parting [.tup [.int 1, .tup [], .tup [.tup []], .tup [.str "value", .int 0]], d] = .exc ⟨"InvalidProgram", some ("place", faultOf d)⟩ := by
    simp [f_program_parting, g_program_parting, f_check_other_program, g_check_other_program, env0, hc, ho]
  have one : ∀ ρ : DEnv, T.one (fun (_ : Addr) (_ : Option Addr) => T.ok (Fl.nx ρ)) = .ok (.nx ρ) := fun ρ => T.one_const fun _ _ => rfl
  have hw3 : w = 0 ∨ w = 1 ∨ w = 2 := by omega
  rcases hw3 with rfl | rfl | rfl <;> simp [f_law_told, g_law_told, env0, nD, e0, e1, e2, gHandle, tb_own, clrO, one, excD]
theorem e_told_right {d : D} (g : Good d) (hl : limB 1000 d = true) (h : faultOf d = .non) : f_law_told [.int 1, d] = .ok .non := by
  obtain ⟨v, hv⟩ := e_answer_right g hl h
  simp [f_law_told, g_law_told, env0, hv]
end
end G74
namespace G74
open PySem AL
noncomputable section
theorem run_seq_or {ρ : DEnv} {g g' : DEnv → T Fl} {c c2 : Nat} {P : D → Prop} {R : Fl → Prop} (h : run (g ρ) c fun fl => (∃ d, fl = .rt d ∧ P d) ∨ fl = .nx ρ) (h2 : run (g' ρ) c2 R) (hR : ∀ d, P d → R (.rt d)) : run (gSeq g g' ρ) (c + c2) R := by
  rw [s_gSeq]
  refine run_bind h fun fl hf => ?_
  rcases hf with ⟨d, rfl, hd⟩ | rfl
  · exact run_ok (hR d hd)
  · exact h2
/-! ## bent programs -/
mutual
def wide (m : Nat) : D → Bool
  | .tup xs | .lst xs => decide (xs.length ≤ m) && wides m xs
  | _ => true
def wides (m : Nat) : List D → Bool
  | [] => true
  | x :: r => wide m x && wides m r
end
theorem wides_iff {m : Nat} : ∀ {ds : List D}, wides m ds = true ↔ ∀ d ∈ ds, wide m d = true
  | [] => by simp [wides]
  | d :: r => by simp [wides, wides_iff (ds := r)]
mutual
theorem wide_mono {m k : Nat} (h : m ≤ k) : ∀ d : D, wide m d = true → wide k d = true
  | .tup xs, w => by
    simp only [wide, Bool.and_eq_true, decide_eq_true_eq] at w ⊢
    exact ⟨by omega, wides_mono h xs w.2⟩
  | .lst xs, w => by
    simp only [wide, Bool.and_eq_true, decide_eq_true_eq] at w ⊢
    exact ⟨by omega, wides_mono h xs w.2⟩
  | .non, _ => by simp only [wide]
  | .bl _, _ => by simp only [wide]
  | .int _, _ => by simp only [wide]
  | .str _, _ => by simp only [wide]
  | .well, _ => by simp only [wide]
  | .raw _, _ => by simp only [wide]
  | .exc _ _ _ _ _, _ => by simp only [wide]
theorem wides_mono {m k : Nat} (h : m ≤ k) : ∀ ds : List D, wides m ds = true → wides k ds = true
  | [], _ => rfl
  | d :: r, w => by
    simp only [wides, Bool.and_eq_true] at w ⊢
    exact ⟨wide_mono h d w.1, wides_mono h r w.2⟩
end
structure Bent (d x : D) : Prop where
  plain : x.plain = true
  dep : x.dep ≤ d.dep + 4
  sz : x.sz ≤ 2 * d.sz + 200
  wide : G74.wide 12 x = true
structure Base6 (d : D) : Prop where
  plain : d.plain = true
  wide : G74.wide 6 d = true
theorem Base6.mem {xs : List D} (b : Base6 (.tup xs)) {x : D} (h : x ∈ xs) : Base6 x := by
  have h1 := b.plain
  have h2 := b.wide
  simp only [D.plain] at h1
  simp only [G74.wide, Bool.and_eq_true] at h2
  exact ⟨plains_iff.mp h1 x h, wides_iff.mp h2.2 x h⟩
theorem Base6.len {xs : List D} (b : Base6 (.tup xs)) : xs.length ≤ 6 := by
  have h2 := b.wide
  simp only [G74.wide, Bool.and_eq_true, decide_eq_true_eq] at h2
  exact h2.1
theorem run_choose {xs : List D} (h0 : 0 < xs.length) (h1 : xs.length < 1000) : run (f_law_choose [.well, .lst xs]) 1 fun d => d ∈ xs := by
  refine run_body ?_
  unfold g_law_choose
  refine run_imp (run_ret (P := fun d => d ∈ xs) ?_) fun _ z => z
  rw [s_dIx]
  have e1 : dSqV 1 (env0 2 [D.well, .lst xs]) = .ok (.l xs) := rfl
  rw [e1, T.bind_ok]
  refine run_bind0 (run_dCall0 (ds := [.well, .int (xs.length : Nat)]) rfl rfl (run_take' h0 (by omega))) fun d hd => ?_
  obtain ⟨r, rfl, hr⟩ := hd
  have e2 : opIx (.l xs) (nD r) = .ok xs[r] := opIx_l (List.getElem?_eq_getElem hr)
  exact run_eq e2 (List.getElem_mem hr)
theorem szs_sub : ∀ {xs ys : List D}, xs.Sublist ys → D.szs xs ≤ D.szs ys
  | _, _, .slnil => Nat.le_refl _
  | _, _, .cons a h => by
    have := szs_sub h
    simp only [D.szs]
    omega
  | _, _, .cons₂ a h => by
    have := szs_sub h
    simp only [D.szs]
    omega
theorem deps_sub {xs ys : List D} (h : ∀ x ∈ xs, x ∈ ys) : D.deps xs ≤ D.deps ys := deps_le fun x hx => deps_mem (h x hx)
theorem szs_mid {xs : List D} {r : Nat} {x y : D} (h : xs[r]? = some y) : D.szs (xs.take r ++ [x] ++ xs.drop (r + 1)) + y.sz = D.szs xs + x.sz := by
  have e : xs = xs.take r ++ [y] ++ xs.drop (r + 1) := by
    rw [List.append_assoc, List.singleton_append]
    have hr := (List.getElem?_eq_some_iff.mp h)
    obtain ⟨h1, h2⟩ := hr
    rw [← h2, List.getElem_cons_drop, List.take_append_drop]
  have e2 : D.szs xs = D.szs (xs.take r ++ [y] ++ xs.drop (r + 1)) := congrArg D.szs e
  rw [e2]
  simp only [szs_app, D.szs]
  omega
theorem bent_mid {xs : List D} {r : Nat} {x y : D} (b : Base6 (.tup xs)) (h : xs[r]? = some y) (hb : Bent y x) : Bent (.tup xs) (.tup (xs.take r ++ [x] ++ xs.drop (r + 1))) := by
  have hy := List.mem_of_getElem? h
  have hmem : ∀ z ∈ xs.take r ++ [x] ++ xs.drop (r + 1), z ∈ xs ∨ z = x := fun z hz => by
    rcases List.mem_append.mp hz with q | q
    · rcases List.mem_append.mp q with q | q
      · exact .inl (List.mem_of_mem_take q)
      · exact .inr (List.mem_singleton.mp q)
    · exact .inl (List.mem_of_mem_drop q)
  refine ⟨?_, ?_, ?_, ?_⟩
  · simp only [D.plain]
    refine plains_iff.mpr fun z hz => ?_
    rcases hmem z hz with q | q
    · exact (b.mem q).plain
    · rw [q]; exact hb.plain
  · have h1 : D.deps (xs.take r ++ [x] ++ xs.drop (r + 1)) ≤ D.deps xs + 4 := deps_le fun z hz => by
      rcases hmem z hz with q | q
      · have := deps_mem q; omega
      · have := hb.dep
        have := deps_mem hy
        rw [q]
        omega
    simp only [D.dep]
    omega
  · have h1 := szs_mid (x := x) h
    have h2 := hb.sz
    have h3 := szs_mem hy
    simp only [D.sz]
    omega
  · have hl := b.len
    have hr := (List.getElem?_eq_some_iff.mp h).1
    simp only [wide, Bool.and_eq_true, decide_eq_true_eq]
    refine ⟨by simp; omega, wides_iff.mpr fun z hz => ?_⟩
    rcases hmem z hz with q | q
    · exact wide_mono (by decide) z (b.mem q).wide
    · rw [q]; exact hb.wide
theorem bent_of {xs ys : List D} (b : Base6 (.tup xs)) (hm : ∀ z ∈ ys, z ∈ xs ∨ z = .int 0) (hs : D.szs ys ≤ 2 * D.szs xs + 26) (hl : ys.length ≤ 12) : Bent (.tup xs) (.tup ys) ∧ Bent (.tup xs) (.lst ys) := by
  have p : D.plains ys = true := plains_iff.mpr fun z hz => by
    rcases hm z hz with q | q
    · exact (b.mem q).plain
    · rw [q]; simp only [D.plain]
  have d : D.deps ys ≤ D.deps xs := deps_le fun z hz => by
    rcases hm z hz with q | q
    · exact deps_mem q
    · rw [q]; simp only [D.dep]; omega
  have w : wides 12 ys = true := wides_iff.mpr fun z hz => by
    rcases hm z hz with q | q
    · exact wide_mono (by decide) z (b.mem q).wide
    · rw [q]; simp only [wide]
  refine ⟨⟨by simp only [D.plain, p], by simp only [D.dep]; omega, by simp only [D.sz]; omega, ?_⟩, ⟨by simp only [D.plain, p], by simp only [D.dep]; omega, by simp only [D.sz]; omega, ?_⟩⟩
  · simp only [wide, w, Bool.and_true, decide_eq_true_eq]; exact hl
  · simp only [wide, w, Bool.and_true, decide_eq_true_eq]; exact hl
theorem cut_last (xs : List D) : cutD xs none (some (-1)) = xs.take (xs.length - 1) := by
  unfold cutD
  rw [HT.sIx_none, List.drop_zero, Nat.sub_zero]
  have : HT.sIx xs.length xs.length (some (-1)) = xs.length - 1 := by
    show (if (-1 : Int) < 0 then ((-1 : Int) + (xs.length : Int)).toNat else min (-1 : Int).toNat xs.length) = _
    rw [if_pos (by decide)]
    omega
  rw [this]
def four (xs : List D) : List D := [.tup (xs ++ [.int 0]), .tup (xs.take (xs.length - 1)), .lst xs, .tup (xs ++ xs)]
theorem four_bent {xs : List D} (b : Base6 (.tup xs)) {x : D} (h : x ∈ four xs) : Bent (.tup xs) x := by
  have hl := b.len
  simp only [four, List.mem_cons, List.mem_nil_iff, or_false] at h
  rcases h with h | h | h | h <;> rw [h]
  · refine (bent_of b (fun z hz => ?_) ?_ ?_).1
    · rcases List.mem_append.mp hz with q | q
      · exact .inl q
      · exact .inr (List.mem_singleton.mp q)
    · simp only [szs_app, D.szs, D.sz]; omega
    · simp; omega
  · exact (bent_of b (fun z hz => .inl (List.mem_of_mem_take hz)) (by have := szs_sub (List.take_sublist (xs.length - 1) xs); omega) (by simp; omega)).1
  · exact (bent_of b (fun z hz => .inl hz) (by omega) (by omega)).2
  · refine (bent_of b (fun z hz => ?_) ?_ ?_).1
    · rcases List.mem_append.mp hz with q | q <;> exact .inl q
    · simp only [szs_app]; omega
    · simp; omega
def odd17 : List D := [.non, .int (-1), .int 0, .int 1, .int 3, .bl true, .str "set", .str "if", .str "cell", .str "value", .str "plus", .str "last", .tup [], .tup [.str "value", .int 0], .tup [.str "cell", .int 0], .tup [.str "cell", .int 3], .tup [.tup [.str "set", .int 0, .tup [.str "value", .int 1]]]]
theorem odd_all : (odd17.all fun x => x.plain && (decide (x.dep ≤ 3) && (decide (x.sz ≤ 200) && wide 12 x))) = true := by decide +kernel
theorem odd_bent {d x : D} (h : x ∈ odd17) : Bent d x := by
  have := List.all_eq_true.mp odd_all x h
  simp only [Bool.and_eq_true, decide_eq_true_eq] at this
  exact ⟨this.1, by omega, by omega, this.2.2.2⟩
end
end G74
namespace G74
open PySem AL
noncomputable section
def gOdd : DEnv → T Fl := (gRet (dCall 2 f_law_choose (dCons (dV 0) (dCons (dFz (dLst (dCons (dC .non) (dCons (dNeg (dC (.int 1))) (dCons (dC (.int 0)) (dCons (dC (.int 1)) (dCons (dC (.int 3)) (dCons (dC (.bl true)) (dCons (dC (.str "set")) (dCons (dC (.str "if")) (dCons (dC (.str "cell")) (dCons (dC (.str "value")) (dCons (dC (.str "plus")) (dCons (dC (.str "last")) (dCons (dTup dNil) (dCons (dTup (dCons (dC (.str "value")) (dCons (dC (.int 0)) dNil))) (dCons (dTup (dCons (dC (.str "cell")) (dCons (dC (.int 0)) dNil))) (dCons (dTup (dCons (dC (.str "cell")) (dCons (dC (.int 3)) dNil))) (dCons (dTup (dCons (dTup (dCons (dC (.str "set")) (dCons (dC (.int 0)) (dCons (dTup (dCons (dC (.str "value")) (dCons (dC (.int 1)) dNil))) dNil)))) dNil)) dNil))))))))))))))))))) dNil))))
def gFour : DEnv → T Fl := (gRet (dCall 2 f_law_choose (dCons (dV 0) (dCons (dFz (dLst (dCons (dB opAdd (dV 1) (dTup (dCons (dC (.int 0)) dNil))) (dCons (dSlT (dSqV 1) dNoP (dP (dNeg (dC (.int 1))))) (dCons (dFz (dListOf (dSqV 1))) (dCons (dB opAdd (dV 1) (dV 1)) dNil)))))) dNil))))
def gRest : DEnv → T Fl := (gSeq (gIf (dTAnd (dT (dIsi "tuple" (dV 1))) (dT (dB opEq (dCall 2 f_law_take (dCons (dV 0) (dCons (dC (.int 2)) dNil))) (dC (.int 0))))) gFour gNil) gOdd)
def gMid (n : Nat) : DEnv → T Fl := (gSeq (gSet 2 (dCall 2 f_law_take (dCons (dV 0) (dCons (dLen (dSqV 1)) dNil))))
  (gRet (dB opAdd (dB opAdd (dSlT (dSqV 1) dNoP (dP (dV 2))) (dTup (dCons (dCall 2 (f_law_bent_part n) (dCons (dV 0) (dCons (dIx (dSqV 1) (dV 2)) dNil))) dNil))) (dSlT (dSqV 1) (dP (dB opAdd (dV 2) (dC (.int 1)))) dNoP))))
theorem sixteen : (17 : Nat) ≤ sizeLine := szl (by decide)
theorem run_odd (d : D) (s : AL.Slot) : run (gOdd [.sh .well, .sh d, s]) 1 fun fl => ∃ x, Bent d x ∧ fl = .rt x := by
  refine run_imp (run_ret (P := fun x => x ∈ odd17) (run_dCall0 (ds := [.well, .lst odd17]) ?_ rfl (run_choose (by simp [odd17]) (by simp [odd17])))) fun fl ⟨x, hx, e⟩ => ⟨x, odd_bent hx, e⟩
  simp [odd17, sixteen]
theorem run_four {xs : List D} (b : Base6 (.tup xs)) (s : AL.Slot) : run (gFour [.sh .well, .sh (.tup xs), s]) 1 fun fl => ∃ x, Bent (.tup xs) x ∧ fl = .rt x := by
  have hl := b.len
  have z1 : xs.length + 1 ≤ sizeLine := szl (by omega)
  have z2 : xs.length + xs.length ≤ sizeLine := szl (by omega)
  refine run_imp (run_ret (P := fun x => x ∈ four xs) (run_dCall0 (ds := [.well, .lst (four xs)]) ?_ rfl (run_choose (by simp [four]) (by simp [four])))) fun fl ⟨x, hx, e⟩ => ⟨x, four_bent b hx, e⟩
  simp [four, z1, z2, cut_last, Sq.xs]
theorem test2 {xs : List D} (s : AL.Slot) : run (dTAnd (dT (dIsi "tuple" (dV 1))) (dT (dB opEq (dCall 2 f_law_take (dCons (dV 0) (dCons (dC (.int 2)) dNil))) (dC (.int 0)))) [.sh .well, .sh (.tup xs), s]) 1 fun _ => True := by
  rw [s_dTAnd]
  have e : dT (dIsi "tuple" (dV 1)) [.sh .well, .sh (.tup xs), s] = .ok true := by simp
  rw [e, T.bind_ok, if_pos rfl]
  refine run_dT (run_mono (run_dB (c1 := 1) (c2 := 0) (P := fun d => ∃ r : Nat, d = nD r ∧ r < 2) (Q := fun d => d = .int 0) (run_dCall0 (ds := [.well, .int (2 : Nat)]) (by simp) rfl (run_take' (by decide) (by decide))) (run_pure rfl) fun x y hx hy => ?_) (by decide) fun _ z => z)
  obtain ⟨r, rfl, hr⟩ := hx
  subst hy
  exact run_eq (a := .bl (decide ((r : Int) = 0))) (opEq_int r 0) ⟨_, rfl, trivial⟩
theorem run_rest {d : D} (b : Base6 d) (s : AL.Slot) : run (gRest [.sh .well, .sh d, s]) 3 fun fl => ∃ x, Bent d x ∧ fl = .rt x := by
  have hk := plain_known b.plain
  unfold gRest
  have skip : d.isA "tuple" = false → run (gSeq (gIf (dTAnd (dT (dIsi "tuple" (dV 1))) (dT (dB opEq (dCall 2 f_law_take (dCons (dV 0) (dCons (dC (.int 2)) dNil))) (dC (.int 0))))) gFour gNil) gOdd [.sh .well, .sh d, s]) 3 fun fl => ∃ x, Bent d x ∧ fl = .rt x := fun h => by
    refine run_skip_if ?_ (run_mono (run_odd d s) (by decide) fun _ z => z)
    rw [s_dTAnd]
    have e : dT (dIsi "tuple" (dV 1)) [.sh .well, .sh d, s] = .ok false := by
      simp only [isA_tup] at h
      simp [hk, h]
    rw [e, T.bind_ok, if_neg (by simp)]
  cases d with
  | tup xs =>
    refine run_mono (run_seq_or (c := 1 + 1) (c2 := 1) (P := fun x => Bent (.tup xs) x) (run_gIf (P := fun _ => True) (test2 s) (fun _ => ?_) fun _ => ?_) (run_odd _ s) fun x hx => ⟨x, hx, rfl⟩) (by decide) fun _ z => z
    · exact run_imp (run_four b s) fun fl ⟨x, hx, e⟩ => .inl ⟨x, e, hx⟩
    · exact run_ok (.inr rfl)
  | well => cases b.plain
  | raw a => cases b.plain
  | exc a d c f xs => cases b.plain
  | _ => exact skip (by simp)
theorem run_mid {n : Nat} {xs : List D} (b : Base6 (.tup xs)) (h0 : 0 < xs.length) {c : Nat} (ih : ∀ y ∈ xs, run (f_law_bent_part n [.well, y]) c (Bent y)) (s : AL.Slot) : run (gMid n [.sh .well, .sh (.tup xs), s]) (1 + c) fun fl => ∃ x, Bent (.tup xs) x ∧ fl = .rt x := by
  have hl := b.len
  unfold gMid
  refine run_seq (c := 1) (c2 := c) (P := fun ρ => ∃ r : Nat, ρ = [.sh .well, .sh (.tup xs), .sh (nD r)] ∧ r < xs.length) (run_imp (run_set (run_dCall0 (ds := [.well, .int (xs.length : Nat)]) (by simp [Sq.xs]) rfl (run_take' h0 (by omega)))) ?_) ?_
  · rintro fl ⟨d, ⟨r, rfl, hr⟩, rfl⟩
    exact ⟨_, rfl, r, rfl, hr⟩
  rintro ρ ⟨r, rfl, hr⟩
  have hg := List.getElem?_eq_getElem hr
  have hix : opIx (.t xs) (.int (r : Nat)) = .ok xs[r] := opIx_t hg
  have hrec := ih xs[r] (List.getElem_mem hr)
  refine run_imp (run_ret (P := fun d => ∃ x, Bent xs[r] x ∧ d = .tup (xs.take r ++ [x] ++ xs.drop (r + 1))) ?_) fun fl ⟨d, ⟨x, hx, e⟩, e2⟩ => ⟨d, by rw [e]; exact bent_mid b hg hx, e2⟩
  refine run_mono (run_dB (c1 := 0 + c) (c2 := 0) (P := fun d => ∃ x, Bent xs[r] x ∧ d = .tup (xs.take r ++ [x])) (Q := fun d => d = D.tup (xs.drop (r + 1))) (run_dB (c1 := 0) (c2 := c) (P := fun d => d = D.tup (xs.take r)) (Q := fun d => ∃ x, Bent xs[r] x ∧ d = .tup [x]) (run_pure (a := D.tup (xs.take r)) ?_) ?_ ?_) (run_pure (a := D.tup (xs.drop (r + 1))) ?_) ?_) (by omega) fun _ z => z
  · simp [nD, cut_to]
  · refine run_mono (run_dTup (run_cons (c1 := c) (c2 := 0) (run_dCall0 (ds := [.well, xs[r]]) ?_ rfl hrec) run_nil) ?_) (by omega) ?_
    · simp [nD, hix]
    · rintro ds ⟨d, r, rfl, _, rfl⟩; simp
    · rintro d ⟨ds, rfl, x, r, rfl, hx, rfl⟩
      exact ⟨x, hx, rfl⟩
  · rintro x y rfl ⟨z, hz, rfl⟩
    have z1 : (xs.take r).length + [z].length ≤ sizeLine := szl (by simp; omega)
    exact run_eq (a := .tup (xs.take r ++ [z])) (by rw [opAdd_tup, if_pos z1]) ⟨z, hz, rfl⟩
  · simp [nD, cut_from1]
  · rintro x y ⟨z, hz, rfl⟩ rfl
    have z1 : (xs.take r ++ [z]).length + (xs.drop (r + 1)).length ≤ sizeLine := szl (by simp; omega)
    exact run_eq (a := .tup (xs.take r ++ [z] ++ xs.drop (r + 1))) (by rw [opAdd_tup, if_pos z1]) ⟨z, hz, rfl⟩
theorem r_bent : ∀ (n : Nat) (d : D), d.dep < n → Base6 d → run (f_law_bent_part n [.well, d]) (5 * n) (Bent d) := by
  intro n
  induction n with
  | zero => intro d h; omega
  | succ n ih =>
    intro d h b
    have hk := plain_known b.plain
    have e : f_law_bent_part (n + 1) = bodyT 3 (gSeq (gIf (dTAnd (dT (dIsi "tuple" (dV 1))) (dTAnd (dT (dB opNe (dV 1) (dTup dNil))) (dT (dB opGt (dCall 2 f_law_take (dCons (dV 0) (dCons (dC (.int 4)) dNil))) (dC (.int 0)))))) (gMid n) gNil) gRest) := rfl
    rw [e]
    refine run_body ?_
    show run (gSeq _ gRest [.sh .well, .sh d, .no]) _ _
    have fin : ∀ fl, (∃ x, Bent d x ∧ fl = .rt x) → ∃ x, Bent d x ∧ fl = Fl.rt x := fun _ z => z
    have skip : d.isA "tuple" = false → run (gSeq (gIf (dTAnd (dT (dIsi "tuple" (dV 1))) (dTAnd (dT (dB opNe (dV 1) (dTup dNil))) (dT (dB opGt (dCall 2 f_law_take (dCons (dV 0) (dCons (dC (.int 4)) dNil))) (dC (.int 0)))))) (gMid n) gNil) gRest [.sh .well, .sh d, .no]) (5 * (n + 1)) fun fl => ∃ x, Bent d x ∧ fl = .rt x := fun h => by
      refine run_skip_if ?_ (run_mono (run_rest b .no) (by omega) fun _ z => z)
      rw [s_dTAnd]
      have e : dT (dIsi "tuple" (dV 1)) [.sh .well, .sh d, .no] = .ok false := by
        simp only [isA_tup] at h
        simp [hk, h]
      rw [e, T.bind_ok, if_neg (by simp)]
    cases d with
    | tup xs =>
      have hp := b.plain
      have hn := opNe_nil (xs := xs) (by simpa only [D.plain] using hp)
      have e1 : dT (dIsi "tuple" (dV 1)) [.sh .well, .sh (.tup xs), .no] = .ok true := by simp
      cases hx : xs with
      | nil =>
        subst hx
        refine run_skip_if ?_ (run_mono (run_rest b .no) (by omega) fun _ z => z)
        simp [hn]
      | cons y r =>
        rw [← hx]
        have h0 : 0 < xs.length := by rw [hx]; simp
        have hne : xs.isEmpty = false := by rw [hx]; rfl
        rw [hne] at hn
        have e2 : dT (dB opNe (dV 1) (dTup dNil)) [.sh .well, .sh (.tup xs), .no] = .ok true := by simp [hn]
        refine run_mono (run_seq_or (c := 1 + (1 + 5 * n)) (c2 := 3) (P := fun x => Bent (.tup xs) x) (run_gIf (P := fun _ => True) ?_ (fun _ => ?_) fun _ => ?_) (run_rest b .no) fun x hx => ⟨x, hx, rfl⟩) (by omega) fun _ z => z
        · rw [s_dTAnd, e1, T.bind_ok, if_pos rfl, s_dTAnd, e2, T.bind_ok, if_pos rfl]
          refine run_dT (run_mono (run_dB (c1 := 1) (c2 := 0) (P := fun d => ∃ r : Nat, d = nD r ∧ r < 4) (Q := fun d => d = .int 0) (run_dCall0 (ds := [.well, .int (4 : Nat)]) (by simp) rfl (run_take' (by decide) (by decide))) (run_pure rfl) fun x y hx hy => ?_) (by decide) fun _ z => z)
          obtain ⟨r, rfl, hr⟩ := hx
          subst hy
          exact run_eq (opGt_int r 0) ⟨_, rfl, trivial⟩
        · refine run_imp (run_mid b h0 (fun y hy => ih y ?_ (b.mem hy)) .no) fun fl ⟨x, hx, e⟩ => .inl ⟨x, e, hx⟩
          have := deps_mem hy
          simp only [D.dep] at h
          omega
        · exact run_ok (.inr rfl)
    | well => cases b.plain
    | raw a => cases b.plain
    | exc a d c f xs => cases b.plain
    | _ => exact skip (by simp)
end
end G74
namespace G74
open PySem AL
noncomputable section
/-! ## the program that is bent -/
theorem ex_wide : ∀ e : Ex, wide 6 e.d = true
  | .val n => by simp [Ex.d, wide, wides, nD]
  | .cell i => by simp [Ex.d, wide, wides, nD]
  | .op k a b => by simp [Ex.d, wide, wides, ex_wide a, ex_wide b]
theorem pr_wides : ∀ p : Pr, p.wl → wides 6 p.ds = true
  | .nil, _ => by simp [Pr.ds, wides]
  | .set i e r, h => by simp [Pr.ds, wides, wide, nD, ex_wide e, pr_wides r h]
  | .ite t a b r, h => by
    have h1 : a.ds.length ≤ 6 := by have := h.1; omega
    have h2 : b.ds.length ≤ 6 := by have := h.2.1; omega
    simp [Pr.ds, wides, wide, ex_wide t, h1, h2, pr_wides a h.2.2.1, pr_wides b h.2.2.2.1, pr_wides r h.2.2.2.2]
theorem nD_wides (l : List Nat) : wides 6 (l.map nD) = true := wides_iff.mpr fun d hd => by
  obtain ⟨x, _, rfl⟩ := List.mem_map.mp hd
  simp only [nD, wide]
theorem prog_base {E : Nat} {sz : List Nat} {ps : List Pr} {e : Ex} (v : POk E sz ps e) : Base6 (pD E sz ps e) := by
  refine ⟨?_, ?_⟩
  · have h1 : D.plains (ps.map fun p => .tup p.ds) = true := plains_iff.mpr fun d hd => by
      obtain ⟨p, hp, rfl⟩ := List.mem_map.mp hd
      simp only [D.plain, pr_plain p]
    have h2 := plain_rD sz
    simp only [rD] at h2
    simp [pD, D.plain, D.plains, h1, h2, ex_plain e, plain_nD, rD] at h2 ⊢
    exact h2
  · have h1 : wides 6 (ps.map fun p => .tup p.ds) = true := wides_iff.mpr fun d hd => by
      obtain ⟨p, hp, rfl⟩ := List.mem_map.mp hd
      have := (v.pk p hp).2.2.2
      have h3 : p.ds.length ≤ 6 := by omega
      simp [wide, pr_wides p this.1, h3]
    have h2 : ps.length ≤ 6 := by have := v.pl; have := v.e2; omega
    have h3 : sz.length ≤ 6 := by have := v.sl; omega
    simp [pD, wide, wides, rD, nD, nD_wides, h1, h2, h3, ex_wide]
theorem prog_dep {E : Nat} {sz : List Nat} {ps : List Pr} {e : Ex} (v : POk E sz ps e) : (pD E sz ps e).dep ≤ 11 := by
  have h1 := deps_le (ds := ps.map fun p => D.tup p.ds) (k := 9) fun d hd => by
    obtain ⟨p, hp, rfl⟩ := List.mem_map.mp hd
    have := pr_dep p (v.pk p hp).1
    have := (v.pk p hp).2.1
    simp only [D.dep]
    omega
  have h2 := dep_rD sz
  have h3 := ex_dep e
  have := v.ek.2
  simp only [pD, D.dep, D.deps, dep_nD]
  omega
theorem prog_sz {E : Nat} {sz : List Nat} {ps : List Pr} {e : Ex} (v : POk E sz ps e) : (pD E sz ps e).sz ≤ 390000 := by
  have h1 := szs_le (ds := ps.map fun p => D.tup p.ds) (k := 128003) fun d hd => by
    obtain ⟨p, hp, rfl⟩ := List.mem_map.mp hd
    have := (v.pk p hp).2.2.1
    simp only [D.sz]
    omega
  have h2 := sz_rD sz
  have h3 := ex_sz e 2 v.ek.2
  have h4 := v.sl
  rw [List.length_map, v.pl] at h1
  have h5 : 128005 * E ≤ 128005 * 3 := Nat.mul_le_mul_left _ v.e2
  simp only [pD, D.sz, D.szs, h2, sz_nD]
  omega
theorem good_of {d x : D} (hd : d.dep ≤ 11) (hs : d.sz ≤ 390000) (b : Bent d x) : Good x := ⟨b.plain, by have := b.dep; omega, by have := b.sz; omega⟩
theorem lim_of {d x : D} (b : Bent d x) : limB 1000 x = true := by
  have h := b.wide
  unfold limB
  split
  · rename_i a ss c e
    simp only [wide, wides, Bool.and_eq_true, decide_eq_true_eq] at h
    simp only [decide_eq_true_eq]
    omega
  · rfl
theorem prog_right {E : Nat} {sz : List Nat} {ps : List Pr} {e : Ex} (v : POk E sz ps e) : faultOf (pD E sz ps e) = .non := by
  have h1 : (sz.map nD).all (from0 1) = true := List.all_eq_true.mpr fun d hd => by
    obtain ⟨x, hx, rfl⟩ := List.mem_map.mp hd
    have := (v.pos x hx).1
    simp [from0, nD]
    omega
  have h2 : from0 1 (nD E) = true := by
    have := v.e1
    simp [from0, nD]
    omega
  have h3 : badAt (sz.map nD).length (ps.map fun p => .tup p.ds) = none := by
    unfold badAt
    rw [List.findIdx?_eq_none_iff]
    intro d hd
    obtain ⟨p, hp, rfl⟩ := List.mem_map.mp hd
    rw [List.length_map]
    simp [areSts, pr_is p (v.pk p hp).1]
  have h4 : isEx (sz.map nD).length e.d = true := by rw [List.length_map]; exact ex_is e v.ek.1
  have h5 : lenIs (nD E) (ps.map fun p => D.tup p.ds).length = true := by
    simp [lenIs, nD, v.pl]
  simp only [pD, faultOf, rD, h1, h2, h3, h4, h5, if_true]
/-! the law -/
theorem law_right_eq {d : D} (h : d.canShow) : f_law_equal [d, d] = .ok (.bl true) := e_law_equal h
theorem Place.three {p : D} (h : Place p) (b : Bool) : (D.lst [p, p, .bl b]).canShow := by
  have h1 := h.num
  have h2 := h.sz
  have h3 := h.dep
  refine canShow_of ?_ ?_ ?_
  · simp only [D.num, D.nums, h1, Bool.and_self]
  · simp only [D.sz, D.szs]
    exact szl (by omega)
  · simp only [D.dep, D.deps]
    omega
theorem Place.three' {p : D} (h : Place p) : (D.lst [p, p, p]).canShow := by
  have h1 := h.num
  have h2 := h.sz
  have h3 := h.dep
  refine canShow_of ?_ ?_ ?_
  · simp only [D.num, D.nums, h1, Bool.and_self]
  · simp only [D.sz, D.szs]
    exact szl (by omega)
  · simp only [D.dep, D.deps]
    omega
theorem e_is_program {d : D} (g : Good d) : f_is_program [d] = .ok (.bl (faultOf d).isNon) := by
  simp [f_is_program, g_is_program, env0, e_program_fault g]
theorem isNon_iff {d : D} : d.isNon = true ↔ d = .non := by cases d <;> simp [D.isNon]
def bodyR : DEnv → T Fl := (gSeq (gSet 4 (dCall 1 f_law_fault (dCons (dV 3) dNil)))
  (gSeq (gIf (dTNot (dT (dCall 2 f_law_equal (dCons (dFz (dLst (dCons (dCall 1 f_program_fault (dCons (dV 3) dNil)) (dCons (dCallK 1 0 1 [0] f_program_fault dNil (dCons (dV 3) dNil)) (dCons (dCall 1 f_is_program (dCons (dV 3) dNil)) dNil))))) (dCons (dFz (dLst (dCons (dV 4) (dCons (dV 4) (dCons (dB (opIs id) (dV 4) (dC .non)) dNil))))) dNil)))))
  (gRet (dC (.bl false)))
  gNil)
  (gSeq (gIf (dTAnd (dT (dB (opIs not) (dV 4) (dC .non))) (dTNot (dT (dCall 2 f_law_equal (dCons (dFz (dLc (dRange1 (dC (.int 3))) (bName 5) dYes (dCall 2 f_law_told (dCons (dV 5) (dCons (dV 3) dNil))) [5])) (dCons (dFz (dRepL (dSqN (dLst (dCons (dV 4) dNil))) (dC (.int 3)))) dNil))))))
  (gRet (dC (.bl false)))
  gNil)
  (gIf (dTAnd (dT (dB (opIs id) (dV 4) (dC .non))) (dTAnd (dT (dB opLt (dIx (dSqV 3) (dC (.int 0))) (dC (.int 5)))) (dT (dB (opIs not) (dCall 2 f_law_told (dCons (dC (.int 1)) (dCons (dV 3) dNil))) (dC .non)))))
  (gRet (dC (.bl false)))
  gNil))))
theorem turn_right {d p : D} (g : Good d) (hl : limB 1000 d = true) (s2 s4 s5 : AL.Slot) : bodyR [.sh .well, .sh p, s2, .sh d, s4, s5] = .ok (.nx [.sh .well, .sh p, s2, .sh d, .sh (faultOf d), s5]) := by
  have h1 := e_program_fault g
  have h2 := e_law_fault g
  have h3 := e_is_program g
  have hp := place_of g
  have h4 := e_law_equal (hp.three (faultOf d).isNon)
  by_cases hf : faultOf d = .non
  · obtain ⟨i, ss, ps, e, rfl, hi, hx⟩ := right_forms hf
    have h5 := e_told_right g hl hf
    rw [hf] at h1 h2 h3 h4
    rw [hf]
    simp only [isNon_non] at h3 h4
    simp [bodyR, h1, h2, h3, h4, h5]
  · have hn : (faultOf d).isNon = false := by
      cases e : faultOf d <;> first | rfl | exact absurd e hf
    rw [hn] at h3 h4
    have h5 : lcGo (bName 5) dYes (dCall 2 f_law_told (dCons (dV 5) (dCons (dV 3) dNil))) [.sh .well, .sh p, s2, .sh d, .sh (faultOf d), .no] ((List.range 3).map nD) = .ok [faultOf d, faultOf d, faultOf d] := by
      rw [lc_map (g := fun _ => faultOf d)]
      · rfl
      · intro x hx
        obtain ⟨w, hw, rfl⟩ := List.mem_map.mp hx
        exact ⟨_, rfl, by simp [e_told g hf (List.mem_range.mp hw)]⟩
    have hr3 : rangeT (.int 3) = .ok ((List.range 3).map nD) := rangeT_nat (n := 3) (by omega)
    have h6 := e_law_equal hp.three'
    have h7 : opRepL (.l [faultOf d]) (.int 3) = .ok [faultOf d, faultOf d, faultOf d] := opRepL_nat _ 3 (by decide) (by simp) (by simp)
    simp [bodyR, h1, h2, h3, h4, hn, hr3, dWipe, h5, h6, h7]
end
end G74
namespace G74
open PySem AL
noncomputable section
def seven (xs : List D) : List D := [.non, .tup [], .int 0, .str "program", .lst xs, .tup (xs ++ [.int 0]), .tup (xs.take 3)]
theorem p_str : (D.str "program").plain = true := by decide +kernel
theorem seven_bent {xs : List D} (b : Base6 (.tup xs)) {x : D} (h : x ∈ seven xs) : Bent (.tup xs) x := by
  have hl := b.len
  simp only [seven, List.mem_cons, List.mem_nil_iff, or_false] at h
  rcases h with h | h | h | h | h | h | h <;> rw [h]
  · exact ⟨by simp only [D.plain], by simp only [D.dep]; omega, by simp only [D.sz]; omega, by simp only [wide]⟩
  · exact ⟨by simp only [D.plain, D.plains], by simp only [D.dep, D.deps]; omega, by simp only [D.sz, D.szs]; omega, by simp [wide, wides]⟩
  · exact ⟨by simp only [D.plain], by simp only [D.dep]; omega, by simp only [D.sz]; omega, by simp only [wide]⟩
  · exact ⟨p_str, by simp only [D.dep]; omega, by simp only [D.sz]; omega, by simp only [wide]⟩
  · exact (bent_of b (fun z hz => .inl hz) (by omega) (by omega)).2
  · refine (bent_of b (fun z hz => ?_) ?_ ?_).1
    · rcases List.mem_append.mp hz with q | q
      · exact .inl q
      · exact .inr (List.mem_singleton.mp q)
    · simp only [szs_app, D.szs, D.sz]; omega
    · simp; omega
  · exact (bent_of b (fun z hz => .inl (List.mem_of_mem_take hz)) (by have := szs_sub (List.take_sublist 3 xs); omega) (by simp; omega)).1
theorem cut_three (xs : List D) : cutD xs none (some 3) = xs.take 3 := cut_to xs 3
def valF : DEnv → T D := (dIf (dT (dB opGt (dV 2) (dC (.int 0)))) (dCall 2 (f_law_bent_part 24) (dCons (dV 0) (dCons (dV 1) dNil))) (dCall 2 f_law_choose (dCons (dV 0) (dCons (dFz (dLst (dCons (dC .non) (dCons (dTup dNil) (dCons (dC (.int 0)) (dCons (dC (.str "program")) (dCons (dFz (dListOf (dSqV 1))) (dCons (dB opAdd (dV 1) (dTup (dCons (dC (.int 0)) dNil))) (dCons (dSlT (dSqV 1) dNoP (dP (dC (.int 3)))) dNil))))))))) dNil))))
theorem run_val {xs : List D} (b : Base6 (.tup xs)) (hd : (D.tup xs).dep ≤ 11) (i : Nat) (s3 s4 s5 : AL.Slot) : run (valF [.sh .well, .sh (.tup xs), .sh (nD i), s3, s4, s5]) 120 (Bent (.tup xs)) := by
  have hl := b.len
  have z1 : xs.length + 1 ≤ sizeLine := szl (by omega)
  refine run_mono (run_dIf (c1 := 0) (c2 := 120) (P := fun x => x = decide ((0 : Int) < (i : Nat))) (run_pure (a := decide ((0 : Int) < (i : Nat))) (by simp [nD])) (fun _ => ?_) fun _ => ?_) (by decide) fun _ z => z
  · exact run_dCall0 (ds := [.well, .tup xs]) rfl rfl (r_bent 24 _ (by omega) b)
  · refine run_mono (run_dCall0 (ds := [.well, .lst (seven xs)]) ?_ rfl (run_choose (by simp [seven]) (by simp [seven]))) (by decide) fun x hx => seven_bent b hx
    simp [seven, z1, Sq.xs, cut_three]
theorem ntn_show : (D.lst [.non, .bl true, .non]).canShow := canShow_of (by decide +kernel) (szl (by decide +kernel)) (by decide +kernel)
theorem r_law_right : run (f_law_right [.well]) 5000 fun d => d = .bl true := by
  refine run_mono (c := (1 + 3000) + (120 * 8 + 0)) ?_ (by omega) fun _ z => z
  refine run_body ?_
  unfold g_law_right
  rw [show env0 6 [.well] = [.sh .well, .no, .no, .no, .no, .no] from rfl]
  refine run_seq (c := 1 + 3000) (P := fun ρ => ∃ E sz ps e, ρ = [.sh .well, .sh (pD E sz ps e), .no, .no, .no, .no] ∧ POk E sz ps e) (run_imp (run_set (P := fun d => ∃ E sz ps e, d = pD E sz ps e ∧ POk E sz ps e) (run_dCall (c1 := 1) (c2 := 3000) (P := fun ds => ∃ E : Nat, ds = [.well, nD E] ∧ 1 ≤ E ∧ E ≤ 3) ?_ ?_)) ?_) ?_
  · refine run_mono (run_cons (c1 := 0) (run_pure (t := dV 0 _) rfl) (run_cons (c1 := 1) (c2 := 0) (P := fun d => ∃ E : Nat, d = nD E ∧ 1 ≤ E ∧ E ≤ 3) (run_mono (run_dB (c1 := 0) (c2 := 1) (run_pure (t := dC (.int 1) _) rfl) (run_dCall0 (ds := [.well, .int (3 : Nat)]) rfl rfl (run_take' (by decide) (by decide))) fun x y hx hy => ?_) (by decide) fun _ z => z) run_nil)) (by decide) ?_
    · obtain ⟨r, rfl, hr⟩ := hy
      subst hx
      exact run_ok ⟨r + 1, by simp [nD]; omega, by omega, by omega⟩
    · rintro ds ⟨_, _, rfl, rfl, _, _, rfl, ⟨E, rfl, h1, h2⟩, rfl⟩
      exact ⟨E, rfl, h1, h2⟩
  · rintro ds ⟨E, rfl, h1, h2⟩
    refine ⟨rfl, run_imp (r_law_program h1 h2) ?_⟩
    rintro d ⟨sz, ps, e, rfl, v⟩
    exact ⟨E, sz, ps, e, rfl, v⟩
  · rintro fl ⟨d, ⟨E, sz, ps, e, rfl, v⟩, rfl⟩
    exact ⟨_, rfl, E, sz, ps, e, rfl, v⟩
  rintro ρ ⟨E, sz, ps, e, rfl, v⟩
  have hd := prog_dep v
  have hs := prog_sz v
  have hb := prog_base v
  have hg : Good (pD E sz ps e) := ⟨hb.plain, by omega, by omega⟩
  have hr := prog_right v
  have h1 := e_program_fault hg
  have h2 := e_law_fault hg
  have h3 := e_is_program hg
  have h4 := e_law_equal ntn_show
  rw [hr] at h1 h2 h3
  refine run_seq0 (ρ' := [.sh .well, .sh (pD E sz ps e), .no, .no, .no, .no]) (by simp [h1, h2, h3, h4]) ?_
  have hr8 : rangeT (.int 8) = .ok ((List.range 8).map nD) := rangeT_nat (n := 8) (by omega)
  show run (gSeq (gFor (dRange1 (dC (.int 8))) (bName 2) (gSeq (gSet 3 valF) bodyR)) (gRet (dC (.bl true))) _) _ _
  refine run_seq (c := 120 * 8) (P := fun ρ => True) (run_imp (run_for0 (fi := dRange1 (dC (.int 8))) (fb := bName 2) (g := gSeq (gSet 3 valF) bodyR) (ρ := [.sh .well, .sh (pD E sz ps e), .no, .no, .no, .no]) (xs := (List.range 8).map nD) (R := fun fl => ∃ ρ2, fl = .nx ρ2 ∧ ∃ s2 s3 s4 s5, ρ2 = [.sh .well, .sh (pD E sz ps e), s2, s3, s4, s5]) (by rw [s_dRange1, s_dC, T.bind_ok, hr8]) ?_) fun fl ⟨ρ2, e, _⟩ => ⟨ρ2, e, trivial⟩) fun ρ _ => ?_
  · have r := run_for (fb := bName 2) (g := gSeq (gSet 3 valF) bodyR) (c := 120) (fun _ ρ => ∃ s2 s3 s4 s5, ρ = [.sh .well, .sh (pD E sz ps e), s2, s3, s4, s5]) ((List.range 8).map nD) 0 [.sh .well, .sh (pD E sz ps e), .no, .no, .no, .no] ⟨_, _, _, _, rfl⟩ fun i x ρ hx hI => by
      obtain ⟨s2, s3, s4, s5, rfl⟩ := hI
      obtain ⟨j, hj, rfl⟩ := List.mem_map.mp (List.mem_of_getElem? hx)
      refine ⟨_, rfl, ?_⟩
      refine run_mono (run_seq (c := 120) (c2 := 0) (P := fun ρ => ∃ x, Bent (pD E sz ps e) x ∧ ρ = [.sh .well, .sh (pD E sz ps e), .sh (nD j), .sh x, s4, s5]) (run_imp (run_set (run_val hb hd j s3 s4 s5)) ?_) ?_) (by decide) fun _ z => z
      · rintro fl ⟨x, hx, rfl⟩
        exact ⟨_, rfl, x, hx, rfl⟩
      · rintro ρ ⟨x, hx, rfl⟩
        exact run_eq (turn_right (good_of hd hs hx) (lim_of hx) (.sh (nD j)) s4 s5) ⟨_, .inl rfl, _, _, _, _, rfl⟩
    exact run_imp r fun fl ⟨ρ2, e, h⟩ => ⟨ρ2, e, h⟩
  · exact run_imp (run_ret (P := fun d => d = .bl true) (run_eq (a := .bl true) rfl rfl)) fun _ z => z
theorem hin : ∀ a i, (g_in (envW a i)).wp (fun fl _ => ∃ s1 s2 s3, fl = .nx [.sh (.raw a), s1, s2, s3]) (fun _ _ => False) 0 := fun a i => by
  have r := run_for (fb := bName 3) (g := gIf (dTNot (dT (dCall 1 f_law_right (dCons (dV 2) dNil)))) (gRet (dC (.bl false))) gNil) (c := 5000) (fun _ ρ => ∃ s3, ρ = [.sh (.raw a), .sh (.int i), .sh .well, s3]) ((List.range 2).map nD) 0 (envW a i) ⟨_, rfl⟩ fun j x ρ hx hI => by
    obtain ⟨s3, rfl⟩ := hI
    refine ⟨_, rfl, ?_⟩
    rw [s_gIf]
    refine run_mono (run_ex (c1 := 5000) (c2 := 0) (P := fun b => b = false) ?_ fun b hb => ?_) (by decide) fun _ z => z
    · rw [s_dTNot, s_dT]
      refine run_bind0 (P := fun b => b = true) (run_bind0 (P := fun d => d = .bl true) (run_dCall0 (ds := [.well]) rfl rfl r_law_right) fun d hd => ?_) fun b hb => ?_
      · subst hd; exact run_ok rfl
      · subst hb; exact run_ok rfl
    · subst hb
      exact run_ok ⟨_, .inl rfl, _, rfl⟩
  have h := r.at_ 0 (by decide)
  have e : g_in (envW a i) = forGo (bName 3) (gIf (dTNot (dT (dCall 1 f_law_right (dCons (dV 2) dNil)))) (gRet (dC (.bl false))) gNil) ((List.range 2).map nD) (envW a i) := by
    have hr : rangeT (.int 2) = .ok ((List.range 2).map nD) := rangeT_nat (n := 2) (by omega)
    unfold g_in
    rw [s_gFor, s_dRange1, s_dC, T.bind_ok, hr, T.ex_ok]
  rw [e]
  exact T.wp_mono (fun fl m q => by
    obtain ⟨⟨ρ2, e2, s3, e3⟩, _⟩ := q
    exact ⟨_, _, _, by rw [e2, e3]⟩) (fun _ _ z => z) h
end
end G74
namespace G74
open PySem PySem.Spec PyProof.Rows L2 AL
noncomputable section
theorem all_mk {l : PySem.W.OpenLaw} {w : World} {K : PySem.W.Frag} {h : Heap} {mg : Str → Option Value} {fa : Addr} (X : K.In h) (G : h.Ns mainGlobals mg) (hfa : mg "law" = some (.ref fa))
    {f_law_well : Addr} {oc_law_well kV_law_well dc_law_well pm_law_well cd_law_well ct_law_well : Value} {od_law_well an_law_well : Option Addr} {sl_law_well : Array (Option Value)}
    {f_law_take : Addr} {oc_law_take kV_law_take dc_law_take pm_law_take cd_law_take ct_law_take : Value} {od_law_take an_law_take : Option Addr} {sl_law_take : Array (Option Value)}
    {f_law_choose : Addr} {oc_law_choose kV_law_choose dc_law_choose pm_law_choose cd_law_choose ct_law_choose : Value} {od_law_choose an_law_choose : Option Addr} {sl_law_choose : Array (Option Value)}
    {f_law_bent_part : Addr} {oc_law_bent_part kV_law_bent_part dc_law_bent_part pm_law_bent_part cd_law_bent_part ct_law_bent_part : Value} {od_law_bent_part an_law_bent_part : Option Addr} {sl_law_bent_part : Array (Option Value)}
    {f_law_equal : Addr} {oc_law_equal kV_law_equal dc_law_equal pm_law_equal cd_law_equal ct_law_equal : Value} {od_law_equal an_law_equal : Option Addr} {sl_law_equal : Array (Option Value)}
    {f_law_whole : Addr} {oc_law_whole kV_law_whole dc_law_whole pm_law_whole cd_law_whole ct_law_whole : Value} {od_law_whole an_law_whole : Option Addr} {sl_law_whole : Array (Option Value)}
    {f_law_is_expression : Addr} {oc_law_is_expression kV_law_is_expression dc_law_is_expression pm_law_is_expression cd_law_is_expression ct_law_is_expression : Value} {od_law_is_expression an_law_is_expression : Option Addr} {sl_law_is_expression : Array (Option Value)}
    {f_law_are_statements : Addr} {oc_law_are_statements kV_law_are_statements dc_law_are_statements pm_law_are_statements cd_law_are_statements ct_law_are_statements : Value} {od_law_are_statements an_law_are_statements : Option Addr} {sl_law_are_statements : Array (Option Value)}
    {f_law_fault : Addr} {oc_law_fault kV_law_fault dc_law_fault pm_law_fault cd_law_fault ct_law_fault : Value} {od_law_fault an_law_fault : Option Addr} {sl_law_fault : Array (Option Value)}
    {f_law_expression : Addr} {oc_law_expression kV_law_expression dc_law_expression pm_law_expression cd_law_expression ct_law_expression : Value} {od_law_expression an_law_expression : Option Addr} {sl_law_expression : Array (Option Value)}
    {f_law_statements : Addr} {oc_law_statements kV_law_statements dc_law_statements pm_law_statements cd_law_statements ct_law_statements : Value} {od_law_statements an_law_statements : Option Addr} {sl_law_statements : Array (Option Value)}
    {f_law_program : Addr} {oc_law_program kV_law_program dc_law_program pm_law_program cd_law_program ct_law_program : Value} {od_law_program an_law_program : Option Addr} {sl_law_program : Array (Option Value)}
    {f_of_two : Addr} {oc_of_two kV_of_two dc_of_two pm_of_two cd_of_two ct_of_two : Value} {od_of_two an_of_two : Option Addr} {sl_of_two : Array (Option Value)}
    {f_value_of : Addr} {oc_value_of kV_value_of dc_value_of pm_value_of cd_value_of ct_value_of : Value} {od_value_of an_value_of : Option Addr} {sl_value_of : Array (Option Value)}
    {f_done : Addr} {oc_done kV_done dc_done pm_done cd_done ct_done : Value} {od_done an_done : Option Addr} {sl_done : Array (Option Value)}
    {f_cells_in : Addr} {oc_cells_in kV_cells_in dc_cells_in pm_cells_in cd_cells_in ct_cells_in : Value} {od_cells_in an_cells_in : Option Addr} {sl_cells_in : Array (Option Value)}
    {f_is_integer : Addr} {oc_is_integer kV_is_integer dc_is_integer pm_is_integer cd_is_integer ct_is_integer : Value} {od_is_integer an_is_integer : Option Addr} {sl_is_integer : Array (Option Value)}
    {f_is_from : Addr} {oc_is_from kV_is_from dc_is_from pm_is_from cd_is_from ct_is_from : Value} {od_is_from an_is_from : Option Addr} {sl_is_from : Array (Option Value)}
    {f_is_below : Addr} {oc_is_below kV_is_below dc_is_below pm_is_below cd_is_below ct_is_below : Value} {od_is_below an_is_below : Option Addr} {sl_is_below : Array (Option Value)}
    {f_row_fault : Addr} {oc_row_fault kV_row_fault dc_row_fault pm_row_fault cd_row_fault ct_row_fault : Value} {od_row_fault an_row_fault : Option Addr} {sl_row_fault : Array (Option Value)}
    {f_check_log : Addr} {oc_check_log kV_check_log dc_check_log pm_check_log cd_check_log ct_check_log : Value} {od_check_log an_check_log : Option Addr} {sl_check_log : Array (Option Value)}
    {f_is_expression : Addr} {oc_is_expression kV_is_expression dc_is_expression pm_is_expression cd_is_expression ct_is_expression : Value} {od_is_expression an_is_expression : Option Addr} {sl_is_expression : Array (Option Value)}
    {f_is_statement : Addr} {oc_is_statement kV_is_statement dc_is_statement pm_is_statement cd_is_statement ct_is_statement : Value} {od_is_statement an_is_statement : Option Addr} {sl_is_statement : Array (Option Value)}
    {f_are_statements : Addr} {oc_are_statements kV_are_statements dc_are_statements pm_are_statements cd_are_statements ct_are_statements : Value} {od_are_statements an_are_statements : Option Addr} {sl_are_statements : Array (Option Value)}
    {f_is_tuple : Addr} {oc_is_tuple kV_is_tuple dc_is_tuple pm_is_tuple cd_is_tuple ct_is_tuple : Value} {od_is_tuple an_is_tuple : Option Addr} {sl_is_tuple : Array (Option Value)}
    {f_program_fault : Addr} {oc_program_fault kV_program_fault dc_program_fault pm_program_fault cd_program_fault ct_program_fault : Value} {od_program_fault an_program_fault : Option Addr} {sl_program_fault : Array (Option Value)}
    {f_check_program : Addr} {oc_check_program kV_check_program dc_check_program pm_check_program cd_check_program ct_check_program : Value} {od_check_program an_check_program : Option Addr} {sl_check_program : Array (Option Value)}
    {f_check_run : Addr} {oc_check_run kV_check_run dc_check_run pm_check_run cd_check_run ct_check_run : Value} {od_check_run an_check_run : Option Addr} {sl_check_run : Array (Option Value)}
    {f_answer_by : Addr} {oc_answer_by kV_answer_by dc_answer_by pm_answer_by cd_answer_by ct_answer_by : Value} {od_answer_by an_answer_by : Option Addr} {sl_answer_by : Array (Option Value)}
    {f_check_other_program : Addr} {oc_check_other_program kV_check_other_program dc_check_other_program pm_check_other_program cd_check_other_program ct_check_other_program : Value} {od_check_other_program an_check_other_program : Option Addr} {sl_check_other_program : Array (Option Value)}
    {f_parting_from : Addr} {oc_parting_from kV_parting_from dc_parting_from pm_parting_from cd_parting_from ct_parting_from : Value} {od_parting_from an_parting_from : Option Addr} {sl_parting_from : Array (Option Value)}
    {f_summary_in : Addr} {oc_summary_in kV_summary_in dc_summary_in pm_summary_in cd_summary_in ct_summary_in : Value} {od_summary_in an_summary_in : Option Addr} {sl_summary_in : Array (Option Value)}
    {f_program_parting : Addr} {oc_program_parting kV_program_parting dc_program_parting pm_program_parting cd_program_parting ct_program_parting : Value} {od_program_parting an_program_parting : Option Addr} {sl_program_parting : Array (Option Value)}
    {f_summary_of_program : Addr} {oc_summary_of_program kV_summary_of_program dc_summary_of_program pm_summary_of_program cd_summary_of_program ct_summary_of_program : Value} {od_summary_of_program an_summary_of_program : Option Addr} {sl_summary_of_program : Array (Option Value)}
    {f_law_told : Addr} {oc_law_told kV_law_told dc_law_told pm_law_told cd_law_told ct_law_told : Value} {od_law_told an_law_told : Option Addr} {sl_law_told : Array (Option Value)}
    {f_is_program : Addr} {oc_is_program kV_is_program dc_is_program pm_is_program cd_is_program ct_is_program : Value} {od_is_program an_is_program : Option Addr} {sl_is_program : Array (Option Value)}
    {f_law_right : Addr} {oc_law_right kV_law_right dc_law_right pm_law_right cd_law_right ct_law_right : Value} {od_law_right an_law_right : Option Addr} {sl_law_right : Array (Option Value)}
    {f_law : Addr} {oc_law kV_law dc_law pm_law cd_law ct_law : Value} {od_law an_law : Option Addr} {sl_law : Array (Option Value)}
    {t_SET : Tok}
    {t_VALUE : Tok}
    {t_CELL : Tok}
    {t_IF : Tok}
    {a_OF_TWO : Addr} {od_OF_TWO : Option Addr} {its_OF_TWO : Array Value} {n_OF_TWO : Nat} {sl_OF_TWO : Array (Option Value)}
    {a_InvalidProgram : Addr}
    {a_ArriveError : Addr}
    {nm_InvalidProgram qn_InvalidProgram : Str} {N_InvalidProgram : Addr} {bs_InvalidProgram sub_InvalidProgram : List Value} {sn_InvalidProgram : List Str} {ab_InvalidProgram : Bool} {col_InvalidProgram : Option Bool} {dd_InvalidProgram : Option Addr} {k0_InvalidProgram k1_InvalidProgram k2_InvalidProgram k3_InvalidProgram k5_InvalidProgram : Option Value}
    {ai_InvalidProgram : Addr} {ioc_InvalidProgram ikV_InvalidProgram idc_InvalidProgram ipm_InvalidProgram icd_InvalidProgram ict_InvalidProgram : Value} {iod_InvalidProgram ian_InvalidProgram : Option Addr} {isl_InvalidProgram : Array (Option Value)}
    (d_law_well : DefAt K "_law_well" s_law_well f_law_well oc_law_well od_law_well an_law_well sl_law_well kV_law_well dc_law_well pm_law_well cd_law_well ct_law_well)
    (d_law_take : DefAt K "_law_take" s_law_take f_law_take oc_law_take od_law_take an_law_take sl_law_take kV_law_take dc_law_take pm_law_take cd_law_take ct_law_take)
    (d_law_choose : DefAt K "_law_choose" s_law_choose f_law_choose oc_law_choose od_law_choose an_law_choose sl_law_choose kV_law_choose dc_law_choose pm_law_choose cd_law_choose ct_law_choose)
    (d_law_bent_part : DefAt K "_law_bent_part" s_law_bent_part f_law_bent_part oc_law_bent_part od_law_bent_part an_law_bent_part sl_law_bent_part kV_law_bent_part dc_law_bent_part pm_law_bent_part cd_law_bent_part ct_law_bent_part)
    (d_law_equal : DefAt K "_law_equal" s_law_equal f_law_equal oc_law_equal od_law_equal an_law_equal sl_law_equal kV_law_equal dc_law_equal pm_law_equal cd_law_equal ct_law_equal)
    (d_law_whole : DefAt K "_law_whole" s_law_whole f_law_whole oc_law_whole od_law_whole an_law_whole sl_law_whole kV_law_whole dc_law_whole pm_law_whole cd_law_whole ct_law_whole)
    (d_law_is_expression : DefAt K "_law_is_expression" s_law_is_expression f_law_is_expression oc_law_is_expression od_law_is_expression an_law_is_expression sl_law_is_expression kV_law_is_expression dc_law_is_expression pm_law_is_expression cd_law_is_expression ct_law_is_expression)
    (d_law_are_statements : DefAt K "_law_are_statements" s_law_are_statements f_law_are_statements oc_law_are_statements od_law_are_statements an_law_are_statements sl_law_are_statements kV_law_are_statements dc_law_are_statements pm_law_are_statements cd_law_are_statements ct_law_are_statements)
    (d_law_fault : DefAt K "_law_fault" s_law_fault f_law_fault oc_law_fault od_law_fault an_law_fault sl_law_fault kV_law_fault dc_law_fault pm_law_fault cd_law_fault ct_law_fault)
    (d_law_expression : DefAt K "_law_expression" s_law_expression f_law_expression oc_law_expression od_law_expression an_law_expression sl_law_expression kV_law_expression dc_law_expression pm_law_expression cd_law_expression ct_law_expression)
    (d_law_statements : DefAt K "_law_statements" s_law_statements f_law_statements oc_law_statements od_law_statements an_law_statements sl_law_statements kV_law_statements dc_law_statements pm_law_statements cd_law_statements ct_law_statements)
    (d_law_program : DefAt K "_law_program" s_law_program f_law_program oc_law_program od_law_program an_law_program sl_law_program kV_law_program dc_law_program pm_law_program cd_law_program ct_law_program)
    (d_of_two : DefAt K "of_two" s_of_two f_of_two oc_of_two od_of_two an_of_two sl_of_two kV_of_two dc_of_two pm_of_two cd_of_two ct_of_two)
    (d_value_of : DefAt K "value_of" s_value_of f_value_of oc_value_of od_value_of an_value_of sl_value_of kV_value_of dc_value_of pm_value_of cd_value_of ct_value_of)
    (d_done : DefAt K "done" s_done f_done oc_done od_done an_done sl_done kV_done dc_done pm_done cd_done ct_done)
    (d_cells_in : DefAt K "cells_in" s_cells_in f_cells_in oc_cells_in od_cells_in an_cells_in sl_cells_in kV_cells_in dc_cells_in pm_cells_in cd_cells_in ct_cells_in)
    (d_is_integer : DefAt K "is_integer" s_is_integer f_is_integer oc_is_integer od_is_integer an_is_integer sl_is_integer kV_is_integer dc_is_integer pm_is_integer cd_is_integer ct_is_integer)
    (d_is_from : DefAt K "is_from" s_is_from f_is_from oc_is_from od_is_from an_is_from sl_is_from kV_is_from dc_is_from pm_is_from cd_is_from ct_is_from)
    (d_is_below : DefAt K "is_below" s_is_below f_is_below oc_is_below od_is_below an_is_below sl_is_below kV_is_below dc_is_below pm_is_below cd_is_below ct_is_below)
    (d_row_fault : DefAt K "row_fault" s_row_fault f_row_fault oc_row_fault od_row_fault an_row_fault sl_row_fault kV_row_fault dc_row_fault pm_row_fault cd_row_fault ct_row_fault)
    (d_check_log : DefAt K "check_log" s_check_log f_check_log oc_check_log od_check_log an_check_log sl_check_log kV_check_log dc_check_log pm_check_log cd_check_log ct_check_log)
    (d_is_expression : DefAt K "is_expression" s_is_expression f_is_expression oc_is_expression od_is_expression an_is_expression sl_is_expression kV_is_expression dc_is_expression pm_is_expression cd_is_expression ct_is_expression)
    (d_is_statement : DefAt K "is_statement" s_is_statement f_is_statement oc_is_statement od_is_statement an_is_statement sl_is_statement kV_is_statement dc_is_statement pm_is_statement cd_is_statement ct_is_statement)
    (d_are_statements : DefAt K "are_statements" s_are_statements f_are_statements oc_are_statements od_are_statements an_are_statements sl_are_statements kV_are_statements dc_are_statements pm_are_statements cd_are_statements ct_are_statements)
    (d_is_tuple : DefAt K "is_tuple" s_is_tuple f_is_tuple oc_is_tuple od_is_tuple an_is_tuple sl_is_tuple kV_is_tuple dc_is_tuple pm_is_tuple cd_is_tuple ct_is_tuple)
    (d_program_fault : DefAt K "program_fault" s_program_fault f_program_fault oc_program_fault od_program_fault an_program_fault sl_program_fault kV_program_fault dc_program_fault pm_program_fault cd_program_fault ct_program_fault)
    (d_check_program : DefAt K "check_program" s_check_program f_check_program oc_check_program od_check_program an_check_program sl_check_program kV_check_program dc_check_program pm_check_program cd_check_program ct_check_program)
    (d_check_run : DefAt K "check_run" s_check_run f_check_run oc_check_run od_check_run an_check_run sl_check_run kV_check_run dc_check_run pm_check_run cd_check_run ct_check_run)
    (d_answer_by : DefAt K "answer_by" s_answer_by f_answer_by oc_answer_by od_answer_by an_answer_by sl_answer_by kV_answer_by dc_answer_by pm_answer_by cd_answer_by ct_answer_by)
    (d_check_other_program : DefAt K "check_other_program" s_check_other_program f_check_other_program oc_check_other_program od_check_other_program an_check_other_program sl_check_other_program kV_check_other_program dc_check_other_program pm_check_other_program cd_check_other_program ct_check_other_program)
    (d_parting_from : DefAt K "parting_from" s_parting_from f_parting_from oc_parting_from od_parting_from an_parting_from sl_parting_from kV_parting_from dc_parting_from pm_parting_from cd_parting_from ct_parting_from)
    (d_summary_in : DefAt K "summary_in" s_summary_in f_summary_in oc_summary_in od_summary_in an_summary_in sl_summary_in kV_summary_in dc_summary_in pm_summary_in cd_summary_in ct_summary_in)
    (d_program_parting : DefAt K "program_parting" s_program_parting f_program_parting oc_program_parting od_program_parting an_program_parting sl_program_parting kV_program_parting dc_program_parting pm_program_parting cd_program_parting ct_program_parting)
    (d_summary_of_program : DefAt K "summary_of_program" s_summary_of_program f_summary_of_program oc_summary_of_program od_summary_of_program an_summary_of_program sl_summary_of_program kV_summary_of_program dc_summary_of_program pm_summary_of_program cd_summary_of_program ct_summary_of_program)
    (d_law_told : DefAt K "_law_told" s_law_told f_law_told oc_law_told od_law_told an_law_told sl_law_told kV_law_told dc_law_told pm_law_told cd_law_told ct_law_told)
    (d_is_program : DefAt K "is_program" s_is_program f_is_program oc_is_program od_is_program an_is_program sl_is_program kV_is_program dc_is_program pm_is_program cd_is_program ct_is_program)
    (d_law_right : DefAt K "_law_right" s_law_right f_law_right oc_law_right od_law_right an_law_right sl_law_right kV_law_right dc_law_right pm_law_right cd_law_right ct_law_right)
    (d_law : DefAt K "law" s_law f_law oc_law od_law an_law sl_law kV_law dc_law pm_law cd_law ct_law)
    (z_abs : PySem.W.nsIn K mainGlobals "abs" = some none)
    (z_all : PySem.W.nsIn K mainGlobals "all" = some none)
    (z_bool : PySem.W.nsIn K mainGlobals "bool" = some none)
    (z_enumerate : PySem.W.nsIn K mainGlobals "enumerate" = some none)
    (z_int : PySem.W.nsIn K mainGlobals "int" = some none)
    (z_isinstance : PySem.W.nsIn K mainGlobals "isinstance" = some none)
    (z_len : PySem.W.nsIn K mainGlobals "len" = some none)
    (z_list : PySem.W.nsIn K mainGlobals "list" = some none)
    (z_max : PySem.W.nsIn K mainGlobals "max" = some none)
    (z_min : PySem.W.nsIn K mainGlobals "min" = some none)
    (z_range : PySem.W.nsIn K mainGlobals "range" = some none)
    (z_repr : PySem.W.nsIn K mainGlobals "repr" = some none)
    (z_str : PySem.W.nsIn K mainGlobals "str" = some none)
    (z_tuple : PySem.W.nsIn K mainGlobals "tuple" = some none)
    (g_SET : PySem.W.nsIn K mainGlobals "SET" = some (some (.str "set" t_SET)))
    (g_VALUE : PySem.W.nsIn K mainGlobals "VALUE" = some (some (.str "value" t_VALUE)))
    (g_CELL : PySem.W.nsIn K mainGlobals "CELL" = some (some (.str "cell" t_CELL)))
    (g_IF : PySem.W.nsIn K mainGlobals "IF" = some (some (.str "if" t_IF)))
    (g_OF_TWO : PySem.W.nsIn K mainGlobals "OF_TWO" = some (some (.ref a_OF_TWO)))
    (l_OF_TWO : K.lookup a_OF_TWO = some ⟨.type "tuple", od_OF_TWO, .seq its_OF_TWO n_OF_TWO, sl_OF_TWO⟩)
    (tc_OF_TWO : tupSI its_OF_TWO ["plus", "minus", "least", "greatest", "equal", "less"] = true)
    (g_InvalidProgram : PySem.W.nsIn K mainGlobals "InvalidProgram" = some (some (.ref a_InvalidProgram)))
    (s_InvalidProgram : PySem.W.subIn K (.ref a_InvalidProgram) (.type "BaseException") = some true)
    (t_InvalidProgram : PySem.W.typeIn K (.ref a_InvalidProgram) = some (.type "type"))
    (hd_InvalidProgram : PySem.W.hasDictIn K a_InvalidProgram = true)
    (g_ArriveError : PySem.W.nsIn K mainGlobals "ArriveError" = some (some (.ref a_ArriveError)))
    (s_ArriveError : PySem.W.subIn K (.ref a_ArriveError) (.type "BaseException") = some true)
    (t_ArriveError : PySem.W.typeIn K (.ref a_ArriveError) = some (.type "type"))
    (hd_ArriveError : PySem.W.hasDictIn K a_ArriveError = true)
    (xL_InvalidProgram : K.lookup a_InvalidProgram = some (excClassObj nm_InvalidProgram qn_InvalidProgram a_InvalidProgram N_InvalidProgram bs_InvalidProgram [.ref a_ArriveError, .type "ValueError", .type "Exception", .type "BaseException", .type "object"] true sn_InvalidProgram sub_InvalidProgram ab_InvalidProgram col_InvalidProgram dd_InvalidProgram k0_InvalidProgram k1_InvalidProgram k2_InvalidProgram k3_InvalidProgram k5_InvalidProgram "ValueError.__new__"))
    (sa_InvalidProgram : PySem.W.findIn K (.ref a_InvalidProgram) "__setattr__" = some (some (.builtin "object.__setattr__")))
    (k_InvalidProgram : PySem.W.keepIn K (.ref a_InvalidProgram) = true)
    (i_InvalidProgram : PySem.W.findIn K (.ref a_InvalidProgram) "__init__" = some (some (.ref ai_InvalidProgram)))
    (ti_InvalidProgram : PySem.W.typeIn K (.ref ai_InvalidProgram) = some (.type "function"))
    (il_InvalidProgram : K.lookup ai_InvalidProgram = some ⟨ioc_InvalidProgram, iod_InvalidProgram, .func (PySem.W.fnOf "__init__" "InvalidProgram.__init__" (defArgs si_InvalidProgram) (defBody si_InvalidProgram) (defScope si_InvalidProgram) .none ikV_InvalidProgram idc_InvalidProgram ipm_InvalidProgram ian_InvalidProgram icd_InvalidProgram ict_InvalidProgram), isl_InvalidProgram⟩)
    (ic_InvalidProgram : PySem.W.codeIn K icd_InvalidProgram "InvalidProgram.__init__" = true)
    (ik_InvalidProgram : PySem.W.keepIn K (.ref ai_InvalidProgram) = true)
    (n_InvalidProgram : PySem.W.findIn K (.ref a_InvalidProgram) "place" = some none)
    (xfa_InvalidProgram : PySem.W.findIn K (.ref a_InvalidProgram) "__getattribute__" = some (some (.builtin "BaseException.__getattribute__")))
    (xfb_InvalidProgram : PySem.W.findIn K (.ref a_InvalidProgram) "__getattr__" = some none)
    (xfc_InvalidProgram : PySem.W.subIn K (.ref a_InvalidProgram) (.type "BaseException") = some true)
    (xfd_InvalidProgram : PySem.W.hasDictIn K a_InvalidProgram = true)
    (rd_ArriveError : PySem.W.readsIn K a_ArriveError (.type "type") = true)
    (sp_ArriveError : PySem.W.specialIn K (.ref a_ArriveError) "__getattribute__" = some (some (.builtin "type.__getattribute__")))
    (vi_ArriveError : PySem.W.findCls K (.ref a_ArriveError) (.type "type") "__init__" = some (.val (.builtin "ValueError.__init__")))
    (u_InvalidProgram_InvalidProgram : PySem.W.subIn K (.ref a_InvalidProgram) (.ref a_InvalidProgram) = some true)
    (u_InvalidProgram_ArriveError : PySem.W.subIn K (.ref a_InvalidProgram) (.ref a_ArriveError) = some true) :
    ∃ fd : FuncData, (∀ (s : Shared) (v : Value), BindsTo s fd ⟨[v], []⟩ [("script", v)]) ∧ ∀ base : Heap, K.In base → base.Ns mainGlobals mg → FnG l.prog w K mg base 60 fa fd ["script"] (spLaw K) := by
  have e := hfa.symm.trans (PySem.W.mg_of X G d_law.a)
  cases e
  let T : Txt K mg := {
    a_law_well := _, fd_law_well := _, F_law_well := d_law_well.F, m_law_well := PySem.W.mg_of X G d_law_well.a, b_law_well := d_law_well.F.binds (ps := ["script", "at"]) fun _ _ _ _ _ _ us hl => match us, hl with | [_, _], _ => rfl,
    a_law_take := _, fd_law_take := _, F_law_take := d_law_take.F, m_law_take := PySem.W.mg_of X G d_law_take.a, b_law_take := d_law_take.F.binds (ps := ["well", "many"]) fun _ _ _ _ _ _ us hl => match us, hl with | [_, _], _ => rfl,
    a_law_choose := _, fd_law_choose := _, F_law_choose := d_law_choose.F, m_law_choose := PySem.W.mg_of X G d_law_choose.a, b_law_choose := d_law_choose.F.binds (ps := ["well", "things"]) fun _ _ _ _ _ _ us hl => match us, hl with | [_, _], _ => rfl,
    a_law_bent_part := _, fd_law_bent_part := _, F_law_bent_part := d_law_bent_part.F, m_law_bent_part := PySem.W.mg_of X G d_law_bent_part.a, b_law_bent_part := d_law_bent_part.F.binds (ps := ["well", "thing"]) fun _ _ _ _ _ _ us hl => match us, hl with | [_, _], _ => rfl,
    a_law_equal := _, fd_law_equal := _, F_law_equal := d_law_equal.F, m_law_equal := PySem.W.mg_of X G d_law_equal.a, b_law_equal := d_law_equal.F.binds (ps := ["told", "due"]) fun _ _ _ _ _ _ us hl => match us, hl with | [_, _], _ => rfl,
    a_law_whole := _, fd_law_whole := _, F_law_whole := d_law_whole.F, m_law_whole := PySem.W.mg_of X G d_law_whole.a, b_law_whole := d_law_whole.F.binds (ps := ["thing", "low"]) fun _ _ _ _ _ _ us hl => match us, hl with | [_, _], _ => rfl,
    a_law_is_expression := _, fd_law_is_expression := _, F_law_is_expression := d_law_is_expression.F, m_law_is_expression := PySem.W.mg_of X G d_law_is_expression.a, b_law_is_expression := d_law_is_expression.F.binds (ps := ["cells", "thing"]) fun _ _ _ _ _ _ us hl => match us, hl with | [_, _], _ => rfl,
    a_law_are_statements := _, fd_law_are_statements := _, F_law_are_statements := d_law_are_statements.F, m_law_are_statements := PySem.W.mg_of X G d_law_are_statements.a, b_law_are_statements := d_law_are_statements.F.binds (ps := ["cells", "thing"]) fun _ _ _ _ _ _ us hl => match us, hl with | [_, _], _ => rfl,
    a_law_fault := _, fd_law_fault := _, F_law_fault := d_law_fault.F, m_law_fault := PySem.W.mg_of X G d_law_fault.a, b_law_fault := d_law_fault.F.binds (ps := ["value"]) fun _ _ _ _ _ _ us hl => match us, hl with | [_], _ => rfl,
    a_law_expression := _, fd_law_expression := _, F_law_expression := d_law_expression.F, m_law_expression := PySem.W.mg_of X G d_law_expression.a, b_law_expression := d_law_expression.F.binds (ps := ["well", "sizes", "depth"]) fun _ _ _ _ _ _ us hl => match us, hl with | [_, _, _], _ => rfl,
    a_law_statements := _, fd_law_statements := _, F_law_statements := d_law_statements.F, m_law_statements := PySem.W.mg_of X G d_law_statements.a, b_law_statements := d_law_statements.F.binds (ps := ["well", "sizes", "depth"]) fun _ _ _ _ _ _ us hl => match us, hl with | [_, _, _], _ => rfl,
    a_law_program := _, fd_law_program := _, F_law_program := d_law_program.F, m_law_program := PySem.W.mg_of X G d_law_program.a, b_law_program := d_law_program.F.binds (ps := ["well", "events"]) fun _ _ _ _ _ _ us hl => match us, hl with | [_, _], _ => rfl,
    a_of_two := _, fd_of_two := _, F_of_two := d_of_two.F, m_of_two := PySem.W.mg_of X G d_of_two.a, b_of_two := d_of_two.F.binds (ps := ["word", "one", "two"]) fun _ _ _ _ _ _ us hl => match us, hl with | [_, _, _], _ => rfl,
    a_value_of := _, fd_value_of := _, F_value_of := d_value_of.F, m_value_of := PySem.W.mg_of X G d_value_of.a, b_value_of := d_value_of.F.binds (ps := ["cells", "expression"]) fun _ _ _ _ _ _ us hl => match us, hl with | [_, _], _ => rfl,
    a_done := _, fd_done := _, F_done := d_done.F, m_done := PySem.W.mg_of X G d_done.a, b_done := d_done.F.binds (ps := ["sizes", "cells", "statements"]) fun _ _ _ _ _ _ us hl => match us, hl with | [_, _, _], _ => rfl,
    a_cells_in := _, fd_cells_in := _, F_cells_in := d_cells_in.F, m_cells_in := PySem.W.mg_of X G d_cells_in.a, b_cells_in := d_cells_in.F.binds (ps := ["program", "log"]) fun _ _ _ _ _ _ us hl => match us, hl with | [_, _], _ => rfl,
    a_is_integer := _, fd_is_integer := _, F_is_integer := d_is_integer.F, m_is_integer := PySem.W.mg_of X G d_is_integer.a, b_is_integer := d_is_integer.F.binds (ps := ["thing"]) fun _ _ _ _ _ _ us hl => match us, hl with | [_], _ => rfl,
    a_is_from := _, fd_is_from := _, F_is_from := d_is_from.F, m_is_from := PySem.W.mg_of X G d_is_from.a, b_is_from := d_is_from.F.binds (ps := ["low", "thing"]) fun _ _ _ _ _ _ us hl => match us, hl with | [_, _], _ => rfl,
    a_is_below := _, fd_is_below := _, F_is_below := d_is_below.F, m_is_below := PySem.W.mg_of X G d_is_below.a, b_is_below := d_is_below.F.binds (ps := ["many", "thing"]) fun _ _ _ _ _ _ us hl => match us, hl with | [_, _], _ => rfl,
    a_row_fault := _, fd_row_fault := _, F_row_fault := d_row_fault.F, m_row_fault := PySem.W.mg_of X G d_row_fault.a, b_row_fault := d_row_fault.F.binds (ps := ["many", "thing"]) fun _ _ _ _ _ _ us hl => match us, hl with | [_, _], _ => rfl,
    a_check_log := _, fd_check_log := _, F_check_log := d_check_log.F, m_check_log := PySem.W.mg_of X G d_check_log.a, b_check_log := d_check_log.F.binds (ps := ["events", "thing"]) fun _ _ _ _ _ _ us hl => match us, hl with | [_, _], _ => rfl,
    a_is_expression := _, fd_is_expression := _, F_is_expression := d_is_expression.F, m_is_expression := PySem.W.mg_of X G d_is_expression.a, b_is_expression := d_is_expression.F.binds (ps := ["cells", "thing"]) fun _ _ _ _ _ _ us hl => match us, hl with | [_, _], _ => rfl,
    a_is_statement := _, fd_is_statement := _, F_is_statement := d_is_statement.F, m_is_statement := PySem.W.mg_of X G d_is_statement.a, b_is_statement := d_is_statement.F.binds (ps := ["cells", "thing"]) fun _ _ _ _ _ _ us hl => match us, hl with | [_, _], _ => rfl,
    a_are_statements := _, fd_are_statements := _, F_are_statements := d_are_statements.F, m_are_statements := PySem.W.mg_of X G d_are_statements.a, b_are_statements := d_are_statements.F.binds (ps := ["cells", "thing"]) fun _ _ _ _ _ _ us hl => match us, hl with | [_, _], _ => rfl,
    a_is_tuple := _, fd_is_tuple := _, F_is_tuple := d_is_tuple.F, m_is_tuple := PySem.W.mg_of X G d_is_tuple.a, b_is_tuple := d_is_tuple.F.binds (ps := ["many", "thing"]) fun _ _ _ _ _ _ us hl => match us, hl with | [_, _], _ => rfl,
    a_program_fault := _, fd_program_fault := _, F_program_fault := d_program_fault.F, m_program_fault := PySem.W.mg_of X G d_program_fault.a, b_program_fault := d_program_fault.F.binds (ps := ["value"]) fun _ _ _ _ _ _ us hl => match us, hl with | [_], _ => rfl,
    a_check_program := _, fd_check_program := _, F_check_program := d_check_program.F, m_check_program := PySem.W.mg_of X G d_check_program.a, b_check_program := d_check_program.F.binds (ps := ["thing"]) fun _ _ _ _ _ _ us hl => match us, hl with | [_], _ => rfl,
    a_check_run := _, fd_check_run := _, F_check_run := d_check_run.F, m_check_run := PySem.W.mg_of X G d_check_run.a, b_check_run := d_check_run.F.binds (ps := ["program", "log"]) fun _ _ _ _ _ _ us hl => match us, hl with | [_, _], _ => rfl,
    a_answer_by := _, fd_answer_by := _, F_answer_by := d_answer_by.F, m_answer_by := PySem.W.mg_of X G d_answer_by.a, b_answer_by := d_answer_by.F.binds (ps := ["program", "log"]) fun _ _ _ _ _ _ us hl => match us, hl with | [_, _], _ => rfl,
    a_check_other_program := _, fd_check_other_program := _, F_check_other_program := d_check_other_program.F, m_check_other_program := PySem.W.mg_of X G d_check_other_program.a, b_check_other_program := d_check_other_program.F.binds (ps := ["program", "thing"]) fun _ _ _ _ _ _ us hl => match us, hl with | [_, _], _ => rfl,
    a_parting_from := _, fd_parting_from := _, F_parting_from := d_parting_from.F, m_parting_from := PySem.W.mg_of X G d_parting_from.a, b_parting_from := d_parting_from.F.binds (ps := ["summary", "state", "other", "other_state"]) fun _ _ _ _ _ _ us hl => match us, hl with | [_, _, _, _], _ => rfl,
    a_summary_in := _, fd_summary_in := _, F_summary_in := d_summary_in.F, m_summary_in := PySem.W.mg_of X G d_summary_in.a, b_summary_in := d_summary_in.F.binds (ps := ["program"]) fun _ _ _ _ _ _ us hl => match us, hl with | [_], _ => rfl,
    a_program_parting := _, fd_program_parting := _, F_program_parting := d_program_parting.F, m_program_parting := PySem.W.mg_of X G d_program_parting.a, b_program_parting := d_program_parting.F.binds (ps := ["program", "other_program"]) fun _ _ _ _ _ _ us hl => match us, hl with | [_, _], _ => rfl,
    a_summary_of_program := _, fd_summary_of_program := _, F_summary_of_program := d_summary_of_program.F, m_summary_of_program := PySem.W.mg_of X G d_summary_of_program.a, b_summary_of_program := d_summary_of_program.F.binds (ps := ["program"]) fun _ _ _ _ _ _ us hl => match us, hl with | [_], _ => rfl,
    a_law_told := _, fd_law_told := _, F_law_told := d_law_told.F, m_law_told := PySem.W.mg_of X G d_law_told.a, b_law_told := d_law_told.F.binds (ps := ["which", "value"]) fun _ _ _ _ _ _ us hl => match us, hl with | [_, _], _ => rfl,
    a_is_program := _, fd_is_program := _, F_is_program := d_is_program.F, m_is_program := PySem.W.mg_of X G d_is_program.a, b_is_program := d_is_program.F.binds (ps := ["value"]) fun _ _ _ _ _ _ us hl => match us, hl with | [_], _ => rfl,
    a_law_right := _, fd_law_right := _, F_law_right := d_law_right.F, m_law_right := PySem.W.mg_of X G d_law_right.a, b_law_right := d_law_right.F.binds (ps := ["well"]) fun _ _ _ _ _ _ us hl => match us, hl with | [_], _ => rfl,
    a_law := _, fd_law := _, F_law := d_law.F, m_law := PySem.W.mg_of X G d_law.a, b_law := d_law.F.binds (ps := ["script"]) fun _ _ _ _ _ _ us hl => match us, hl with | [_], _ => rfl,
    z_abs := PySem.W.mg_none_of X G z_abs,
    z_all := PySem.W.mg_none_of X G z_all,
    z_bool := PySem.W.mg_none_of X G z_bool,
    z_enumerate := PySem.W.mg_none_of X G z_enumerate,
    z_int := PySem.W.mg_none_of X G z_int,
    z_isinstance := PySem.W.mg_none_of X G z_isinstance,
    z_len := PySem.W.mg_none_of X G z_len,
    z_list := PySem.W.mg_none_of X G z_list,
    z_max := PySem.W.mg_none_of X G z_max,
    z_min := PySem.W.mg_none_of X G z_min,
    z_range := PySem.W.mg_none_of X G z_range,
    z_repr := PySem.W.mg_none_of X G z_repr,
    z_str := PySem.W.mg_none_of X G z_str,
    z_tuple := PySem.W.mg_none_of X G z_tuple,
    u_SET := _, m_SET := PySem.W.mg_of X G g_SET, r_SET := ⟨_, rfl⟩,
    u_VALUE := _, m_VALUE := PySem.W.mg_of X G g_VALUE, r_VALUE := ⟨_, rfl⟩,
    u_CELL := _, m_CELL := PySem.W.mg_of X G g_CELL, r_CELL := ⟨_, rfl⟩,
    u_IF := _, m_IF := PySem.W.mg_of X G g_IF, r_IF := ⟨_, rfl⟩,
    a_OF_TWO := a_OF_TWO, m_OF_TWO := PySem.W.mg_of X G g_OF_TWO, tc_OF_TWO := tupSB_mk l_OF_TWO tc_OF_TWO,
    a_InvalidProgram := a_InvalidProgram, m_InvalidProgram := PySem.W.mg_of X G g_InvalidProgram,
    a_ArriveError := a_ArriveError, m_ArriveError := PySem.W.mg_of X G g_ArriveError,
    O_InvalidProgram := ⟨⟨_, _, _, _, _, _, _, _, _, _, _, _, _, _, _, xL_InvalidProgram, rfl⟩, sa_InvalidProgram, s_InvalidProgram, t_InvalidProgram, k_InvalidProgram⟩, ai_InvalidProgram := ai_InvalidProgram, fdi_InvalidProgram := _, Fi_InvalidProgram := fun_mk (st := si_InvalidProgram) il_InvalidProgram ic_InvalidProgram ik_InvalidProgram, i_InvalidProgram := i_InvalidProgram, ti_InvalidProgram := ti_InvalidProgram, bi_InvalidProgram := (fun_mk (st := si_InvalidProgram) il_InvalidProgram ic_InvalidProgram ik_InvalidProgram).binds (ps := ["self", "place"]) fun _ _ _ _ _ _ us hl => match us, hl with | [_, _], _ => rfl,
    n_InvalidProgram := n_InvalidProgram,
    xf_InvalidProgram := ⟨xfa_InvalidProgram, xfb_InvalidProgram, xfc_InvalidProgram, xfd_InvalidProgram⟩,
    rd_ArriveError := rd_ArriveError,
    sp_ArriveError := sp_ArriveError,
    vi_ArriveError := vi_ArriveError,
    x_InvalidProgram_InvalidProgram := PySem.W.exm_ref s_InvalidProgram hd_InvalidProgram t_InvalidProgram u_InvalidProgram_InvalidProgram,
    x_InvalidProgram_ArriveError := PySem.W.exm_ref s_ArriveError hd_ArriveError t_ArriveError u_InvalidProgram_ArriveError }
  exact ⟨_, fun s v => .of_eq rfl, fun base _ _ => ok_law T hin⟩
end
end G74
open PySem PySem.W PyProof.Rows
theorem PySem.Challenge.cw_arrivesalike_k74_programs_judged_holds : PySem.Challenge.rw_arrivesalike_k74_programs_judged.Holds := by
  w_on; o_law; k_head; (case hw => w_witness2)
  k_fill
  refine AL.walkG (l := PySem.Challenge.rw_arrivesalike_k74_programs_judged) (n := 63) (k := 60) (x := "script") (sp := fun w => AL.spLaw _) rfl (by decide) rfl ⟨rfl, by decide, by decide⟩ (fun w h Y => by first | exact PySem.W.kIn_of Y | exact PySem.W.km_in_of Y) ?F (fun w H a ns hl hb ho hS => ⟨a, ns, rfl, ho, hS, hl, hb, fun _ => rfl⟩)
  case F =>
    intro w mg fa h KX G hmg
    refine' G74.all_mk KX G hmg ⟨?a_law_well, ?l_law_well, ?c_law_well, ?k_law_well⟩ ⟨?a_law_take, ?l_law_take, ?c_law_take, ?k_law_take⟩ ⟨?a_law_choose, ?l_law_choose, ?c_law_choose, ?k_law_choose⟩ ⟨?a_law_bent_part, ?l_law_bent_part, ?c_law_bent_part, ?k_law_bent_part⟩ ⟨?a_law_equal, ?l_law_equal, ?c_law_equal, ?k_law_equal⟩ ⟨?a_law_whole, ?l_law_whole, ?c_law_whole, ?k_law_whole⟩ ⟨?a_law_is_expression, ?l_law_is_expression, ?c_law_is_expression, ?k_law_is_expression⟩ ⟨?a_law_are_statements, ?l_law_are_statements, ?c_law_are_statements, ?k_law_are_statements⟩ ⟨?a_law_fault, ?l_law_fault, ?c_law_fault, ?k_law_fault⟩ ⟨?a_law_expression, ?l_law_expression, ?c_law_expression, ?k_law_expression⟩ ⟨?a_law_statements, ?l_law_statements, ?c_law_statements, ?k_law_statements⟩ ⟨?a_law_program, ?l_law_program, ?c_law_program, ?k_law_program⟩ ⟨?a_of_two, ?l_of_two, ?c_of_two, ?k_of_two⟩ ⟨?a_value_of, ?l_value_of, ?c_value_of, ?k_value_of⟩ ⟨?a_done, ?l_done, ?c_done, ?k_done⟩ ⟨?a_cells_in, ?l_cells_in, ?c_cells_in, ?k_cells_in⟩ ⟨?a_is_integer, ?l_is_integer, ?c_is_integer, ?k_is_integer⟩ ⟨?a_is_from, ?l_is_from, ?c_is_from, ?k_is_from⟩ ⟨?a_is_below, ?l_is_below, ?c_is_below, ?k_is_below⟩ ⟨?a_row_fault, ?l_row_fault, ?c_row_fault, ?k_row_fault⟩ ⟨?a_check_log, ?l_check_log, ?c_check_log, ?k_check_log⟩ ⟨?a_is_expression, ?l_is_expression, ?c_is_expression, ?k_is_expression⟩ ⟨?a_is_statement, ?l_is_statement, ?c_is_statement, ?k_is_statement⟩ ⟨?a_are_statements, ?l_are_statements, ?c_are_statements, ?k_are_statements⟩ ⟨?a_is_tuple, ?l_is_tuple, ?c_is_tuple, ?k_is_tuple⟩ ⟨?a_program_fault, ?l_program_fault, ?c_program_fault, ?k_program_fault⟩ ⟨?a_check_program, ?l_check_program, ?c_check_program, ?k_check_program⟩ ⟨?a_check_run, ?l_check_run, ?c_check_run, ?k_check_run⟩ ⟨?a_answer_by, ?l_answer_by, ?c_answer_by, ?k_answer_by⟩ ⟨?a_check_other_program, ?l_check_other_program, ?c_check_other_program, ?k_check_other_program⟩ ⟨?a_parting_from, ?l_parting_from, ?c_parting_from, ?k_parting_from⟩ ⟨?a_summary_in, ?l_summary_in, ?c_summary_in, ?k_summary_in⟩ ⟨?a_program_parting, ?l_program_parting, ?c_program_parting, ?k_program_parting⟩ ⟨?a_summary_of_program, ?l_summary_of_program, ?c_summary_of_program, ?k_summary_of_program⟩ ⟨?a_law_told, ?l_law_told, ?c_law_told, ?k_law_told⟩ ⟨?a_is_program, ?l_is_program, ?c_is_program, ?k_is_program⟩ ⟨?a_law_right, ?l_law_right, ?c_law_right, ?k_law_right⟩ ⟨?a_law, ?l_law, ?c_law, ?k_law⟩ ?z_abs ?z_all ?z_bool ?z_enumerate ?z_int ?z_isinstance ?z_len ?z_list ?z_max ?z_min ?z_range ?z_repr ?z_str ?z_tuple ?g_SET ?g_VALUE ?g_CELL ?g_IF ?g_OF_TWO ?l_OF_TWO ?tc_OF_TWO ?g_InvalidProgram ?s_InvalidProgram ?t_InvalidProgram ?hd_InvalidProgram ?g_ArriveError ?s_ArriveError ?t_ArriveError ?hd_ArriveError ?xL_InvalidProgram ?sa_InvalidProgram ?k_InvalidProgram ?i_InvalidProgram ?ti_InvalidProgram ?il_InvalidProgram ?ic_InvalidProgram ?ik_InvalidProgram ?n_InvalidProgram ?xfa_InvalidProgram ?xfb_InvalidProgram ?xfc_InvalidProgram ?xfd_InvalidProgram ?rd_ArriveError ?sp_ArriveError ?vi_ArriveError ?u_InvalidProgram_InvalidProgram ?u_InvalidProgram_ArriveError
    (case a_law_well => k_is); (case l_law_well => k_is); (case c_law_well => k_is); (case k_law_well => k_is)
    (case a_law_take => k_is); (case l_law_take => k_is); (case c_law_take => k_is); (case k_law_take => k_is)
    (case a_law_choose => k_is); (case l_law_choose => k_is); (case c_law_choose => k_is); (case k_law_choose => k_is)
    (case a_law_bent_part => k_is); (case l_law_bent_part => k_is); (case c_law_bent_part => k_is); (case k_law_bent_part => k_is)
    (case a_law_equal => k_is); (case l_law_equal => k_is); (case c_law_equal => k_is); (case k_law_equal => k_is)
    (case a_law_whole => k_is); (case l_law_whole => k_is); (case c_law_whole => k_is); (case k_law_whole => k_is)
    (case a_law_is_expression => k_is); (case l_law_is_expression => k_is); (case c_law_is_expression => k_is); (case k_law_is_expression => k_is)
    (case a_law_are_statements => k_is); (case l_law_are_statements => k_is); (case c_law_are_statements => k_is); (case k_law_are_statements => k_is)
    (case a_law_fault => k_is); (case l_law_fault => k_is); (case c_law_fault => k_is); (case k_law_fault => k_is)
    (case a_law_expression => k_is); (case l_law_expression => k_is); (case c_law_expression => k_is); (case k_law_expression => k_is)
    (case a_law_statements => k_is); (case l_law_statements => k_is); (case c_law_statements => k_is); (case k_law_statements => k_is)
    (case a_law_program => k_is); (case l_law_program => k_is); (case c_law_program => k_is); (case k_law_program => k_is)
    (case a_of_two => k_is); (case l_of_two => k_is); (case c_of_two => k_is); (case k_of_two => k_is)
    (case a_value_of => k_is); (case l_value_of => k_is); (case c_value_of => k_is); (case k_value_of => k_is)
    (case a_done => k_is); (case l_done => k_is); (case c_done => k_is); (case k_done => k_is)
    (case a_cells_in => k_is); (case l_cells_in => k_is); (case c_cells_in => k_is); (case k_cells_in => k_is)
    (case a_is_integer => k_is); (case l_is_integer => k_is); (case c_is_integer => k_is); (case k_is_integer => k_is)
    (case a_is_from => k_is); (case l_is_from => k_is); (case c_is_from => k_is); (case k_is_from => k_is)
    (case a_is_below => k_is); (case l_is_below => k_is); (case c_is_below => k_is); (case k_is_below => k_is)
    (case a_row_fault => k_is); (case l_row_fault => k_is); (case c_row_fault => k_is); (case k_row_fault => k_is)
    (case a_check_log => k_is); (case l_check_log => k_is); (case c_check_log => k_is); (case k_check_log => k_is)
    (case a_is_expression => k_is); (case l_is_expression => k_is); (case c_is_expression => k_is); (case k_is_expression => k_is)
    (case a_is_statement => k_is); (case l_is_statement => k_is); (case c_is_statement => k_is); (case k_is_statement => k_is)
    (case a_are_statements => k_is); (case l_are_statements => k_is); (case c_are_statements => k_is); (case k_are_statements => k_is)
    (case a_is_tuple => k_is); (case l_is_tuple => k_is); (case c_is_tuple => k_is); (case k_is_tuple => k_is)
    (case a_program_fault => k_is); (case l_program_fault => k_is); (case c_program_fault => k_is); (case k_program_fault => k_is)
    (case a_check_program => k_is); (case l_check_program => k_is); (case c_check_program => k_is); (case k_check_program => k_is)
    (case a_check_run => k_is); (case l_check_run => k_is); (case c_check_run => k_is); (case k_check_run => k_is)
    (case a_answer_by => k_is); (case l_answer_by => k_is); (case c_answer_by => k_is); (case k_answer_by => k_is)
    (case a_check_other_program => k_is); (case l_check_other_program => k_is); (case c_check_other_program => k_is); (case k_check_other_program => k_is)
    (case a_parting_from => k_is); (case l_parting_from => k_is); (case c_parting_from => k_is); (case k_parting_from => k_is)
    (case a_summary_in => k_is); (case l_summary_in => k_is); (case c_summary_in => k_is); (case k_summary_in => k_is)
    (case a_program_parting => k_is); (case l_program_parting => k_is); (case c_program_parting => k_is); (case k_program_parting => k_is)
    (case a_summary_of_program => k_is); (case l_summary_of_program => k_is); (case c_summary_of_program => k_is); (case k_summary_of_program => k_is)
    (case a_law_told => k_is); (case l_law_told => k_is); (case c_law_told => k_is); (case k_law_told => k_is)
    (case a_is_program => k_is); (case l_is_program => k_is); (case c_is_program => k_is); (case k_is_program => k_is)
    (case a_law_right => k_is); (case l_law_right => k_is); (case c_law_right => k_is); (case k_law_right => k_is)
    (case a_law => k_is); (case l_law => k_is); (case c_law => k_is); (case k_law => k_is)
    (case z_abs => k_is)
    (case z_all => k_is)
    (case z_bool => k_is)
    (case z_enumerate => k_is)
    (case z_int => k_is)
    (case z_isinstance => k_is)
    (case z_len => k_is)
    (case z_list => k_is)
    (case z_max => k_is)
    (case z_min => k_is)
    (case z_range => k_is)
    (case z_repr => k_is)
    (case z_str => k_is)
    (case z_tuple => k_is)
    (case g_SET => k_is)
    (case g_VALUE => k_is)
    (case g_CELL => k_is)
    (case g_IF => k_is)
    (case g_OF_TWO => k_is)
    (case l_OF_TWO => k_is)
    (case tc_OF_TWO => first | rfl | decide +kernel)
    (case g_InvalidProgram => k_is)
    (case s_InvalidProgram => k_is)
    (case t_InvalidProgram => k_is)
    (case hd_InvalidProgram => k_is)
    (case g_ArriveError => k_is)
    (case s_ArriveError => k_is)
    (case t_ArriveError => k_is)
    (case hd_ArriveError => k_is)
    (case xL_InvalidProgram => k_is)
    (case sa_InvalidProgram => k_is)
    (case k_InvalidProgram => k_is)
    (case i_InvalidProgram => k_is)
    (case ti_InvalidProgram => k_is)
    (case il_InvalidProgram => k_is)
    (case ic_InvalidProgram => k_is)
    (case ik_InvalidProgram => k_is)
    (case n_InvalidProgram => k_is)
    (case xfa_InvalidProgram => k_is)
    (case xfb_InvalidProgram => k_is)
    (case xfc_InvalidProgram => k_is)
    (case xfd_InvalidProgram => k_is)
    (case rd_ArriveError => k_is)
    (case sp_ArriveError => k_is)
    (case vi_ArriveError => k_is)
    (case u_InvalidProgram_InvalidProgram => first | k_is | rfl)
    (case u_InvalidProgram_ArriveError => first | k_is | rfl)
