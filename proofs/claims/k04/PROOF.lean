import PyProof.Rows.All
import Wide.All
import OpenK.AllK
import Wide.FinOn
import PyProof.EqAt
import PyProof.EqKinds
import PyProof.TupleCall
import PyProof.ReprRoads
import KE.GoesEnum
import HandS.ForMost
import HandS.Exc
import HandS.ExcOwn
import HandS.TryOnly
import HandS.WordsExc
import HandS.IsInst
import HandS.TupAny
import HandS.Walk
import HandS.Wide
import HandS.Zip
import HandS.EndBits
import HandS.TryMany
import HandS.ExcInit
import HandS.ExcField
import HandS.ExcIs
import KE.KeyNested
import KE.KDictKeyed
import HandS.Dict
import HandS.Nested
import HandS.TupMul
import KE.KDictDisplayH
import HandS.SetKeys
import HandS.Style
import KE.GoesMore
import HandS.ExcValue
import HandS.EndTab
import HandS.DictComp
import HandS.Deep
import HandS.Conv
import PySem.Challenge.RW_arrivesalike_k04_whole_least_summaries
set_option Elab.async false
set_option linter.all false
set_option maxRecDepth 100000
set_option maxHeartbeats 4000000
namespace AL
open PySem PySem.Spec PyProof.Rows L2
abbrev St := L2.St
/-! # A data layer: tuples, lists, ints, texts as plain values; draws as any number below a bound -/
/-- a value as data -/
inductive D where
  | non | bl (b : Bool) | int (i : Int) | str (s : Str) | tup (xs : List D) | lst (xs : List D) | well | raw (a : Addr) | exc (a : Addr) (d : Option Addr) (cls f : Str) (xs : List D) | err (C : Addr) (f : Str) (xs : List D) | dic (ks vs : List D) | fn (id : Nat) (xs : List D) | pf (id : Nat) (cl : List (Str × Addr))
/-- an error: its class, what it keeps -/
structure Exc where
  cls : Str
  arg : Option (Str × D)
/-- a run: an answer, an error, a draw below m, or no claim -/
inductive T (α : Type) where
  | ok (a : α) | exc (e : Exc) | draw (m : Int) (k : Int → T α) | fail
namespace T
def bind {α β : Type} : T α → (α → T β) → T β
  | .ok a, k => k a
  | .exc e, _ => .exc e
  | .draw m f, k => .draw m fun r => (f r).bind k
  | .fail, _ => .fail
@[simp] theorem bind_ok {α β : Type} (a : α) (k : α → T β) : (T.ok a).bind k = k a := rfl
@[simp] theorem bind_exc {α β : Type} (e : Exc) (k : α → T β) : (T.exc e : T α).bind k = .exc e := rfl
@[simp] theorem bind_fail {α β : Type} (k : α → T β) : (T.fail : T α).bind k = .fail := rfl
@[simp] theorem bind_draw {α β : Type} (m : Int) (f : Int → T α) (k : α → T β) : (T.draw m f).bind k = .draw m fun r => (f r).bind k := rfl
theorem bind_assoc {α β γ : Type} (t : T α) (k : α → T β) (l : β → T γ) : (t.bind k).bind l = t.bind fun a => (k a).bind l := by
  induction t with
  | ok a => rfl
  | exc e => rfl
  | draw m f ih => simp only [bind_draw]; exact congrArg _ (funext ih)
  | fail => rfl
@[simp] theorem bind_id {α : Type} (t : T α) : t.bind T.ok = t := by
  induction t with
  | ok a => rfl
  | exc e => rfl
  | draw m f ih => simp only [bind_draw]; exact congrArg _ (funext ih)
  | fail => rfl
/-- as many draws as are counted -/
abbrev line : Nat := 1000000000000
/-- what is wanted behind a run: n draws were made ahead of it -/
def wp {α : Type} : T α → (α → Nat → Prop) → (Exc → Nat → Prop) → Nat → Prop
  | .ok a, Q, _, n => Q a n
  | .exc e, _, E, n => E e n
  | .draw m k, Q, E, n => 0 < m ∧ n < line ∧ ∀ r, 0 ≤ r → r < m → (k r).wp Q E (n + 1)
  | .fail, _, _, _ => False
theorem wp_mono {α : Type} {t : T α} {Q Q' : α → Nat → Prop} {E E' : Exc → Nat → Prop} (hQ : ∀ a n, Q a n → Q' a n) (hE : ∀ e n, E e n → E' e n) : ∀ {n : Nat}, t.wp Q E n → t.wp Q' E' n := by
  induction t with
  | ok a => exact fun {n} h => hQ a n h
  | exc e => exact fun {n} h => hE e n h
  | draw m f ih => exact fun {n} h => ⟨h.1, h.2.1, fun r h0 h1 => ih r (h.2.2 r h0 h1)⟩
  | fail => exact fun {n} h => h.elim
theorem wp_bind {α β : Type} (t : T α) (k : α → T β) {Q : β → Nat → Prop} {E : Exc → Nat → Prop} : ∀ {n : Nat}, (t.bind k).wp Q E n ↔ t.wp (fun a m => (k a).wp Q E m) E n := by
  induction t with
  | ok a => exact fun {n} => Iff.rfl
  | exc e => exact fun {n} => Iff.rfl
  | draw m f ih =>
    intro n
    refine ⟨fun h => ⟨h.1, h.2.1, fun r h0 h1 => (ih r).mp (h.2.2 r h0 h1)⟩, fun h => ⟨h.1, h.2.1, fun r h0 h1 => (ih r).mpr (h.2.2 r h0 h1)⟩⟩
  | fail => exact fun {n} => Iff.rfl
end T
/-- a slot of a frame: nothing, a value that stays, a list of the frame's own -/
inductive Slot where
  | no | sh (d : D) | own (xs : List D) | dic (kvs : List (D × D))
def Slot.ow : Slot → Bool
  | .own _ | .dic _ => true
  | _ => false
abbrev DEnv := List Slot

/-! ## how data lie in the heap -/
/-- the words of a function that is made while the law runs: of a lambda, of a def in a def; fr: the names that it captures -/
structure Word where
  name : Str
  qual : Str
  params : Arguments
  body : FuncBody
  scope : Scope
  fr : List Str
/-- the tables of code objects that the law's defs have, each with the names of what is made there; the words -/
class Tb where
  T : List NdefX.NTab
  W : Nat → Word
def Word.fd (W : Word) (cl : List (Str × Addr)) (c : Addr) (doc pm ctv : Value) : FuncData :=
  { name := W.name, qualname := W.qual, params := W.params, body := W.body, scope := W.scope, globals := mainGlobals, closure := cl, defaults := .none, kwdefaults := .none, doc := doc, pyModule := pm, annotations := none, code := .ref c, closureTuple := ctv, builtins := builtinsNs }
/-- the object at f is such a function -/
def FnQ (f : Addr) (W : Word) (cl : List (Str × Addr)) (c : Addr) : HO := .ext fun h => ∃ (od : Option Addr) (sl : Array (Option Value)) (doc pm ctv : Value), h.get? f = some (⟨.type "function", od, .func (W.fd cl c doc pm ctv), sl⟩ : Obj)
/-- a cell that stays as it is -/
def CellO (a : Addr) (o : Obj) : HO := .ext fun h => h.get? a = some o
/-- the function at f, made with the words W, and its code object -/
structure FnW (F : Addr → Prop) (H : Hp) (f : Addr) (W : Word) (cl : List (Str × Addr)) (c : Addr) : Prop where
  ff : F f
  hf : H f = some (FnQ f W cl c)
  fc : F c
  hc : H c = some (LamX.CodeO c W.qual)
/-- .. its cells stay, and hold vs -/
structure FnC (F : Addr → Prop) (H : Hp) (f : Addr) (W : Word) (cl : List (Str × Addr)) (c : Addr) (vs : List V) : Prop extends FnW F H f W cl c where
  len : vs.length = W.fr.length
  all : ∀ y a, cl.lookup y = some a → F a ∧ ∃ o v, H a = some (CellO a o) ∧ o.data = .cell v
  inj : ∀ x y a, cl.lookup x = some a → cl.lookup y = some a → x = y
  has : ∀ (i : Nat) (y : Str), W.fr[i]? = some y → ∃ a, cl.lookup y = some a ∧ ∀ v, vs[i]? = some v → ∃ o u, H a = some (CellO a o) ∧ o.data = .cell (some u) ∧ RelV v u
/-- a dict's entries as they lie: numbers and tuples of numbers as keys -/
def NDo (wd : World) (a : Addr) (xs : List (NestedKey × Addr × Value)) : HO := .ext fun h => (a == sysModules) = false ∧ ∃ o es ep, h.get? a = some o ∧ o.ExactDict ∧ o.data = .dict es ep ∧ es.toList = xs.map fun x => (⟨x.1.hash wd, .ref x.2.1, x.2.2⟩ : DictEntry)
mutual
/-- a number, a tuple of such: a key -/
def D.nk : D → Option NestedKey
  | .int i => some (.num i)
  | .tup xs => (D.nks xs).map .tup
  | _ => none
def D.nks : List D → Option (List NestedKey)
  | [] => some []
  | x :: r => match D.nk x, D.nks r with
    | some k, some ks => some (k :: ks)
    | _, _ => none
end
def D.isTup : D → Bool
  | .tup _ => true
  | _ => false
/-- how a dict of the frame's own lies: with ints as keys (the empty one, too), or with tuples -/
def DShape (a : Addr) (o : HO) (ks vs : List V) (kvs : List (D × D)) : Prop :=
  (∃ is : List Int, kvs.map (·.1) = is.map D.int ∧ o = .dK ((is.map (Sum.inl : Int → Key)).zip vs)) ∨
  (∃ (wd : World) (xs : List (NestedKey × Addr × Value)), o = NDo wd a xs ∧ kvs ≠ [] ∧ xs.length ≤ sizeLine ∧ (xs.map (·.1)).Nodup ∧ Paired (fun (p : D) (x : NestedKey × Addr × Value) => p.isTup = true ∧ p.nk = some x.1 ∧ x.1.depth ≤ 8) (kvs.map (·.1)) xs ∧ ks = xs.map (fun x => V.ref x.2.1) ∧ Vals vs (xs.map (·.2.2)))
variable [Tb]
section
variable (K : PySem.W.Frag) (w : Addr) (F : Addr → Prop) (H : Hp)
/-- a tuple that stands for ever: tracked, or of the written part -/
def TupAt (a : Addr) (vs : List V) : Prop := (F a ∧ H a = some (.tup vs)) ∨
  ∃ (o : Obj) (its : Array Value) (n : Nat), K.lookup a = some o ∧ o.cls = .type "tuple" ∧ o.data = .seq its n ∧ its.size ≤ sizeLine ∧ Vals vs its.toList
mutual
inductive Rep : V → D → Prop
  | non : Rep .non .non
  | bl (b : Bool) : Rep (.bl b) (.bl b)
  | int (i : Int) : Rep (.int i) (.int i)
  | str (s : Str) : Rep (.str s) (.str s)
  | tup {a : Addr} {vs : List V} {ds : List D} : TupAt K F H a vs → Reps vs ds → Rep (.ref a) (.tup ds)
  | lst {a : Addr} {vs : List V} {ds : List D} : F a → H a = some (.lst vs) → Reps vs ds → Rep (.ref a) (.lst ds)
  | well : Rep (.ref w) .well
  | raw (a : Addr) : Rep (.ref a) (.raw a)
  | exc0 {a : Addr} {cls f : Str} : Rep (.ref a) (.exc a none cls f [])
  | exc1 {a dd : Addr} {cls f : Str} {v : V} {d : D} : F dd → H dd = some (.xd [(f, v)]) → Rep v d → Rep (.ref a) (.exc a (some dd) cls f [d])
  | err0 {a C : Addr} : F a → H a = some (exo a C none) → Rep (.ref a) (.err C "" [])
  | err1 {a dx C : Addr} {f : Str} {v : V} {d : D} : F a → F dx → H a = some (exo a C (some dx)) → H dx = some (exd dx [(f, v)]) → Rep v d → Rep (.ref a) (.err C f [d])
  | dic {a : Addr} {o : HO} {ks vs : List V} {dk dv : List D} : F a → H a = some o → DShape a o ks vs (dk.zip dv) → dk.length = dv.length → Reps ks dk → Reps vs dv → Rep (.ref a) (.dic dk dv)
  | fn {f c : Addr} {id : Nat} {cl : List (Str × Addr)} {vs : List V} {ds : List D} : FnC F H f (Tb.W id) cl c vs → Reps vs ds → Rep (.ref f) (.fn id ds)
  | pf {f c : Addr} {id : Nat} {cl : List (Str × Addr)} : FnW F H f (Tb.W id) cl c → Rep (.ref f) (.pf id cl)
inductive Reps : List V → List D → Prop
  | nil : Reps [] []
  | cons {v : V} {d : D} {vs : List V} {ds : List D} : Rep v d → Reps vs ds → Reps (v :: vs) (d :: ds)
end
end
/-- a sequence that is read at once -/
inductive Sq where
  | t (xs : List D) | l (xs : List D)
def Sq.xs : Sq → List D
  | .t xs => xs
  | .l xs => xs
def SqAt (K : PySem.W.Frag) (w : Addr) (F : Addr → Prop) (H : Hp) (a : Addr) (vs : List V) : Sq → Prop
  | .t _ => TupAt K F H a vs
  | .l _ => a ≠ w ∧ H a = some (.lst vs)
/-- the well: three ints, the first one not below nought, the last one at most n -/
def WellAt (H : Hp) (w : Addr) (n : Nat) : Prop := ∃ x y z : Int, H w = some (.lst [.int x, .int y, .int z]) ∧ 0 ≤ x ∧ x.natAbs < 2 ^ 2000000 ∧ y.natAbs < 2 ^ 200 ∧ 0 ≤ z ∧ z ≤ n
/-- no table of code objects: a table may grow while an expression runs -/
def NT (o : HO) : Prop := ∀ ps, o ≠ .tbl ps
theorem nt_lst {xs : List V} : NT (.lst xs) := fun _ h => by cases h
theorem nt_tup {xs : List V} : NT (.tup xs) := fun _ h => by cases h
theorem nt_xd {fs : List (Str × V)} : NT (.xd fs) := fun _ h => by cases h
theorem nt_dK {kvs : List (Key × V)} : NT (.dK kvs) := fun _ h => by cases h
theorem nt_ext {p : Heap → Prop} : NT (.ext p) := fun _ h => by cases h
theorem nt_exo {a C : Addr} {d : Option Addr} : NT (exo a C d) := fun _ h => by cases h
theorem nt_exd {a : Addr} {fs : List (Str × V)} : NT (exd a fs) := fun _ h => by cases h
theorem DShape.nt {a : Addr} {o : HO} {ks vs : List V} {kvs : List (D × D)} (h : DShape a o ks vs kvs) : NT o := by
  rcases h with ⟨is, _, e⟩ | ⟨wd, xs, e, _⟩ <;> subst e <;> exact fun _ h => by cases h
/-- the table at P: each code object that it tells bears the name of its place, and stands -/
def TabF (F : Addr → Prop) (H : Hp) (P : Addr) (nm : Nat → Nat → Str) : Prop := ∃ ps : Array Value, H P = some (.tbl ps) ∧ TriplesOk ps.toList ∧ ∀ (pos : Pos) (cv : Value), codeAmong pos ps.toList = some cv → ∃ c, cv = .ref c ∧ F c ∧ H c = some (LamX.CodeO c (nm pos.line pos.col))
theorem TabF.of {F F' : Addr → Prop} {H H' : Hp} {P : Addr} {q : Nat → Nat → Str} (t : TabF F H P q) (sub : ∀ a, F a → F' a) (kt : ∀ b ps, H b = some (.tbl ps) → H' b = some (.tbl ps)) (kf : ∀ b o, F b → H b = some o → H' b = some o) : TabF F' H' P q := by
  obtain ⟨ps, h1, h2, h3⟩ := t
  refine ⟨ps, kt _ _ h1, h2, fun pos cv h => ?_⟩
  obtain ⟨c, e1, e2, e3⟩ := h3 pos cv h
  exact ⟨c, e1, sub c e2, kf c _ e2 e3⟩
structure Base (w : Addr) (F : Addr → Prop) (H : Hp) (n : Nat) : Prop where
  well : WellAt H w n
  nw : ¬ F w
  dom' : ∀ a, F a → ∃ o, H a = some o ∧ NT o
  tabs : ∀ p ∈ Tb.T, TabF F H p.1 p.2
/-- an expression's step: all that was tracked stands, but the well -/
structure StepE (w : Addr) (F : Addr → Prop) (H : Hp) (F' : Addr → Prop) (H' : Hp) : Prop where
  keep' : ∀ a o, a ≠ w → H a = some o → NT o → H' a = some o
  sub : ∀ a, F a → F' a
  new : ∀ a, F' a → F a ∨ H a = none
  dom : ∀ a, H' a = none → H a = none
section
variable {K : PySem.W.Frag} {w : Addr} {F F' F2 : Addr → Prop} {H H' H2 : Hp} {n m : Nat}
theorem StepE.keep (s : StepE w F H F' H') (a : Addr) (o : HO) (n : a ≠ w) (h : H a = some o) (t : NT o := by first | assumption | exact AL.nt_lst | exact AL.nt_tup | exact AL.nt_xd | exact AL.nt_dK | exact AL.nt_ext | exact AL.nt_exo | exact AL.nt_exd | exact fun _ h => by cases h) : H' a = some o := s.keep' a o n h t
theorem Base.dom (b : Base w F H n) (a : Addr) (f : F a) : ∃ o, H a = some o := let ⟨o, h, _⟩ := b.dom' a f; ⟨o, h⟩
theorem Base.nt (b : Base w F H n) {a : Addr} {o : HO} (f : F a) (h : H a = some o) : NT o := by
  obtain ⟨o', h', t⟩ := b.dom' a f
  rw [h] at h'
  cases h'
  exact t
theorem StepE.refl : StepE w F H F H := ⟨fun _ _ _ h _ => h, fun _ h => h, fun _ h => .inl h, fun _ h => h⟩
theorem StepE.trans (a : StepE w F H F' H') (b : StepE w F' H' F2 H2) : StepE w F H F2 H2 where
  keep' := fun x o n h t => b.keep x o n (a.keep x o n h)
  sub := fun x h => b.sub x (a.sub x h)
  new := fun x h => (b.new x h).elim (a.new x) fun q => .inr (a.dom x q)
  dom := fun x h => a.dom x (b.dom x h)
theorem StepE.fz (s : StepE w F H F' H') (b : Base w F H n) {a : Addr} {o : HO} (f : F a) (h : H a = some o) : H' a = some o := s.keep a o (fun e => b.nw (e ▸ f)) h (b.nt f h)
theorem TupAt.step {a : Addr} {vs : List V} (s : StepE w F H F' H') (b : Base w F H n) (h : TupAt K F H a vs) : TupAt K F' H' a vs := by
  rcases h with ⟨f, h⟩ | h
  · exact .inl ⟨s.sub a f, s.fz b f h⟩
  · exact .inr h
theorem SqAt.step {a : Addr} {vs : List V} {q : Sq} (s : StepE w F H F' H') (b : Base w F H n) (h : SqAt K w F H a vs q) : SqAt K w F' H' a vs q := by
  cases q with
  | t xs => exact TupAt.step s b h
  | l xs => exact ⟨h.1, s.keep _ _ h.1 h.2⟩
theorem FnW.step {f c : Addr} {W : Word} {cl : List (Str × Addr)} (s : StepE w F H F' H') (b : Base w F H n) (x : FnW F H f W cl c) : FnW F' H' f W cl c := ⟨s.sub _ x.ff, s.fz b x.ff x.hf, s.sub _ x.fc, s.fz b x.fc x.hc⟩
theorem FnC.step {f c : Addr} {W : Word} {cl : List (Str × Addr)} {vs : List V} (s : StepE w F H F' H') (b : Base w F H n) (x : FnC F H f W cl c vs) : FnC F' H' f W cl c vs :=
  ⟨x.toFnW.step s b, x.len, fun y a e => by
    obtain ⟨h1, o, v, h2, h3⟩ := x.all y a e
    exact ⟨s.sub _ h1, o, v, s.fz b h1 h2, h3⟩, x.inj, fun i y e => by
    obtain ⟨a, h1, h2⟩ := x.has i y e
    refine ⟨a, h1, fun v hv => ?_⟩
    obtain ⟨o, u, h3, h4, h5⟩ := h2 v hv
    exact ⟨o, u, s.fz b (x.all y a h1).1 h3, h4, h5⟩⟩
theorem TupAt.seq {a : Addr} {vs : List V} (h : TupAt K F H a vs) : SqT K H a vs := by
  rcases h with ⟨f, h⟩ | h
  · exact .inl (.inl h)
  · exact .inr h
mutual
theorem Rep.step (s : StepE w F H F' H') (b : Base w F H n) : ∀ {v : V} {d : D}, Rep K w F H v d → Rep K w F' H' v d
  | _, _, .non => .non
  | _, _, .bl x => .bl x
  | _, _, .int x => .int x
  | _, _, .str x => .str x
  | _, _, .tup h r => .tup (h.step s b) (Reps.step s b r)
  | _, _, .lst f h r => .lst (s.sub _ f) (s.fz b f h) (Reps.step s b r)
  | _, _, .well => .well
  | _, _, .raw v => .raw v
  | _, _, .exc0 => .exc0
  | _, _, .exc1 f h r => .exc1 (s.sub _ f) (s.fz b f h) (Rep.step s b r)
  | _, _, .err0 f h => .err0 (s.sub _ f) (s.fz b f h)
  | _, _, .err1 f g h k r => .err1 (s.sub _ f) (s.sub _ g) (s.fz b f h) (s.fz b g k) (Rep.step s b r)
  | _, _, .dic f h e l r t => .dic (s.sub _ f) (s.fz b f h) e l (Reps.step s b r) (Reps.step s b t)
  | _, _, .fn x r => .fn (x.step s b) (Reps.step s b r)
  | _, _, .pf x => .pf (x.step s b)
theorem Reps.step (s : StepE w F H F' H') (b : Base w F H n) : ∀ {vs : List V} {ds : List D}, Reps K w F H vs ds → Reps K w F' H' vs ds
  | _, _, .nil => .nil
  | _, _, .cons r t => .cons (Rep.step s b r) (Reps.step s b t)
end
theorem Reps.length : ∀ {vs : List V} {ds : List D}, Reps K w F H vs ds → vs.length = ds.length
  | _, _, .nil => rfl
  | _, _, .cons _ t => congrArg Nat.succ (Reps.length t)
theorem Reps.get : ∀ {vs : List V} {ds : List D} {i : Nat} {d : D}, Reps K w F H vs ds → ds[i]? = some d → ∃ v, vs[i]? = some v ∧ Rep K w F H v d
  | _, _, _, _, .nil, e => by simp at e
  | _, _, 0, _, .cons r _, e => by
    have e := Option.some.inj e
    exact ⟨_, rfl, e ▸ r⟩
  | _, _, i + 1, d, .cons _ t, e => Reps.get (i := i) (d := d) t e
theorem Reps.getV : ∀ {vs : List V} {ds : List D} {i : Nat} {v : V}, Reps K w F H vs ds → vs[i]? = some v → ∃ d, ds[i]? = some d ∧ Rep K w F H v d
  | _, _, _, _, .nil, e => by simp at e
  | _, _, 0, _, .cons r _, e => by
    have e := Option.some.inj e
    exact ⟨_, rfl, e ▸ r⟩
  | _, _, i + 1, d, .cons _ t, e => Reps.getV (i := i) t e
theorem Reps.append : ∀ {vs us : List V} {ds es : List D}, Reps K w F H vs ds → Reps K w F H us es → Reps K w F H (vs ++ us) (ds ++ es)
  | _, _, _, _, .nil, s => s
  | _, _, _, _, .cons r t, s => .cons r (Reps.append t s)
theorem Reps.drop : ∀ {vs : List V} {ds : List D} (n : Nat), Reps K w F H vs ds → Reps K w F H (vs.drop n) (ds.drop n)
  | _, _, 0, h => h
  | _, _, _ + 1, .nil => .nil
  | _, _, n + 1, .cons _ t => Reps.drop n t
theorem Reps.take : ∀ {vs : List V} {ds : List D} (n : Nat), Reps K w F H vs ds → Reps K w F H (vs.take n) (ds.take n)
  | _, _, 0, _ => .nil
  | _, _, _ + 1, .nil => .nil
  | _, _, n + 1, .cons r t => .cons r (Reps.take n t)
/-- a new object that stays -/
theorem StepE.lay {p : Addr} {o : HO} (hp : H p = none) (hw : ∃ u, H w = some u) : StepE w F H (fun a => F a ∨ a = p) (upd H p o) where
  keep' := fun a u _ h _ => by rw [upd_ne (ne_of_none h hp)]; exact h
  sub := fun a h => .inl h
  new := fun a h => h.elim .inl fun e => .inr (e ▸ hp)
  dom := fun a h => by
    by_cases e : a = p
    · rw [e, upd_same] at h; cases h
    · rw [upd_ne e] at h; exact h
/-- a new object of one's own -/
theorem StepE.layOwn {p : Addr} {o : HO} (hp : H p = none) : StepE w F H F (upd H p o) where
  keep' := fun a u _ h _ => by rw [upd_ne (ne_of_none h hp)]; exact h
  sub := fun a h => h
  new := fun a h => .inl h
  dom := fun a h => by
    by_cases e : a = p
    · rw [e, upd_same] at h; cases h
    · rw [upd_ne e] at h; exact h
theorem WellAt.there {w : Addr} {n : Nat} (h : WellAt H w n) : ∃ u, H w = some u := let ⟨_, _, _, h, _⟩ := h; ⟨_, h⟩
theorem WellAt.mono (h : WellAt H w n) (k : n ≤ m) : WellAt H w m := by
  obtain ⟨x, y, z, h1, h2, h3, h4, h5, h6⟩ := h
  exact ⟨x, y, z, h1, h2, h3, h4, h5, by omega⟩
theorem Base.mono (b : Base w F H n) (k : n ≤ m) : Base w F H m := ⟨b.well.mono k, b.nw, b.dom', b.tabs⟩
theorem Base.pne (b : Base w F H n) {p : Addr} (hp : H p = none) : p ≠ w := fun e => by
  obtain ⟨u, h⟩ := b.well.there
  rw [← e, hp] at h
  cases h
theorem Base.pnf (b : Base w F H n) {p : Addr} (hp : H p = none) : ¬ F p := fun f => by
  obtain ⟨u, h⟩ := b.dom p f
  rw [hp] at h
  cases h
theorem Base.lay (b : Base w F H n) {p : Addr} {o : HO} (hp : H p = none) (t : NT o := by first | assumption | exact AL.nt_lst | exact AL.nt_tup | exact AL.nt_xd | exact AL.nt_dK | exact AL.nt_ext | exact AL.nt_exo | exact AL.nt_exd | exact fun _ h => by cases h) : Base w (fun a => F a ∨ a = p) (upd H p o) n := by
  refine ⟨?_, fun h => h.elim b.nw fun e => b.pne hp e.symm, fun a h => ?_, fun q hq => (b.tabs q hq).of (fun _ => .inl) (fun c ps z => by rw [upd_ne (ne_of_none z hp)]; exact z) fun c u _ z => by rw [upd_ne (ne_of_none z hp)]; exact z⟩
  · obtain ⟨x, y, z, h1, h2⟩ := b.well
    exact ⟨x, y, z, by rw [upd_ne (b.pne hp).symm]; exact h1, h2⟩
  · by_cases e : a = p
    · exact ⟨o, by rw [e, upd_same], t⟩
    · rw [upd_ne e]
      exact b.dom' a (h.elim id fun z => absurd z e)
theorem Base.layOwn (b : Base w F H n) {p : Addr} {o : HO} (hp : H p = none) : Base w F (upd H p o) n := by
  refine ⟨?_, b.nw, fun a h => ?_, fun q hq => (b.tabs q hq).of (fun _ => id) (fun c ps z => by rw [upd_ne (ne_of_none z hp)]; exact z) fun c u _ z => by rw [upd_ne (ne_of_none z hp)]; exact z⟩
  · obtain ⟨x, y, z, h1, h2⟩ := b.well
    exact ⟨x, y, z, by rw [upd_ne (b.pne hp).symm]; exact h1, h2⟩
  · have e : a ≠ p := fun e => b.pnf hp (e ▸ h)
    rw [upd_ne e]
    exact b.dom' a h
/-- a thing of one's own changes -/
theorem Base.put (b : Base w F H n) {a : Addr} {ob o0 : HO} (nf : ¬ F a) (nw : a ≠ w) (h : H a = some o0) (t : NT o0 := by first | assumption | exact AL.nt_lst | exact AL.nt_tup | exact AL.nt_xd | exact AL.nt_dK | exact AL.nt_ext | exact AL.nt_exo | exact AL.nt_exd | exact fun _ h => by cases h) : Base w F (upd H a ob) n := by
  have ne : ∀ c, F c → c ≠ a := fun c f e => nf (e ▸ f)
  refine ⟨?_, b.nw, fun c f => ?_, fun q hq => (b.tabs q hq).of (fun _ => id) (fun c ps z => ?_) fun c u f z => ?_⟩
  · obtain ⟨x, y, z, h1, h2⟩ := b.well
    exact ⟨x, y, z, by rw [upd_ne nw.symm]; exact h1, h2⟩
  · rw [upd_ne (ne c f)]
    exact b.dom' c f
  · rw [upd_ne fun e => t ps (by rw [e, h] at z; exact Option.some.inj z)]
    exact z
  · rw [upd_ne (ne c f)]
    exact z
/-- an own list is frozen -/
theorem StepE.freeze {p : Addr} (hp : H p = none) : StepE w F H (fun a => F a ∨ a = p) H := ⟨fun _ _ _ h _ => h, fun _ h => .inl h, fun a h => h.elim .inl fun e => .inr (e ▸ hp), fun _ h => h⟩
end

/-! ## the frame -/
def OwnAt (K : PySem.W.Frag) (w : Addr) (F : Addr → Prop) (H : Hp) (a : Addr) : Slot → Prop
  | .own xs => ∃ vs, H a = some (.lst vs) ∧ Reps K w F H vs xs
  | .dic kvs => ∃ o ks vs, H a = some o ∧ DShape a o ks vs kvs ∧ Reps K w F H ks (kvs.map (·.1)) ∧ Reps K w F H vs (kvs.map (·.2))
  | _ => False
structure SlotOk (K : PySem.W.Frag) (w : Addr) (F : Addr → Prop) (H : Hp) (v : Option V) (s : Slot) (a : Addr) : Prop where
  at_ : v = some (.ref a)
  nf : ¬ F a
  nw : a ≠ w
  h : OwnAt K w F H a s
theorem OwnAt.some_ {K : PySem.W.Frag} {w : Addr} {F : Addr → Prop} {H : Hp} {a : Addr} {s : Slot} (h : OwnAt K w F H a s) : ∃ o, H a = some o := by
  cases s with
  | no => exact h.elim
  | sh d => exact h.elim
  | own xs => obtain ⟨vs, h1, _⟩ := h; exact ⟨_, h1⟩
  | dic kvs => obtain ⟨o, ks, vs, h1, _⟩ := h; exact ⟨_, h1⟩
theorem OwnAt.someNT {K : PySem.W.Frag} {w : Addr} {F : Addr → Prop} {H : Hp} {a : Addr} {s : Slot} (h : OwnAt K w F H a s) : ∃ o, H a = some o ∧ NT o := by
  cases s with
  | no => exact h.elim
  | sh d => exact h.elim
  | own xs => obtain ⟨vs, h1, _⟩ := h; exact ⟨_, h1, nt_lst⟩
  | dic kvs => obtain ⟨o, ks, vs, h1, h2, _⟩ := h; exact ⟨_, h1, h2.nt⟩
theorem OwnAt.step {K : PySem.W.Frag} {w : Addr} {F F' : Addr → Prop} {H H' : Hp} {n : Nat} {a : Addr} {s : Slot} (h : OwnAt K w F H a s) (st : StepE w F H F' H') (b : Base w F H n) (nw : a ≠ w) : OwnAt K w F' H' a s := by
  cases s with
  | no => exact h.elim
  | sh d => exact h.elim
  | own xs =>
    obtain ⟨vs, h1, h2⟩ := h
    exact ⟨vs, st.keep a _ nw h1, h2.step st b⟩
  | dic kvs =>
    obtain ⟨o, ks, vs, h1, h2, h3, h4⟩ := h
    exact ⟨o, ks, vs, st.keep a _ nw h1 h2.nt, h2, h3.step st b, h4.step st b⟩
/-- the slots' data; own lists and dicts lie apart -/
structure REnv (K : PySem.W.Frag) (w : Addr) (F : Addr → Prop) (H : Hp) (σ : St) (ρ : DEnv) : Prop where
  len : σ.length = ρ.length
  sh : ∀ (i : Nat) (d : D), ρ[i]? = some (Slot.sh d) → ∃ v, σ[i]? = some (some v) ∧ Rep K w F H v d
  own : ∀ (i : Nat) (s : Slot), ρ[i]? = some s → s.ow = true → ∃ a, SlotOk K w F H (σ[i]?.join) s a
  apart : ∀ (i j : Nat) (s t : Slot) (a : Addr), i ≠ j → ρ[i]? = some s → s.ow = true → ρ[j]? = some t → t.ow = true → σ[i]? = some (some (V.ref a)) → σ[j]? ≠ some (some (V.ref a))
/-- the addresses of the own lists -/
def Own (σ : St) (ρ : DEnv) (a : Addr) : Prop := ∃ (i : Nat) (s : Slot), ρ[i]? = some s ∧ s.ow = true ∧ σ[i]? = some (some (V.ref a))
structure Cur (K : PySem.W.Frag) (w : Addr) (F : Addr → Prop) (H : Hp) (σ : St) (ρ : DEnv) (n : Nat) : Prop extends Base w F H n where
  env : REnv K w F H σ ρ
section
variable {K : PySem.W.Frag} {w : Addr} {F F' F2 : Addr → Prop} {H H' H2 : Hp} {n m : Nat} {σ : St} {ρ : DEnv}
theorem REnv.step (e : REnv K w F H σ ρ) (s : StepE w F H F' H') (b : Base w F H n) : REnv K w F' H' σ ρ where
  len := e.len
  sh := fun i d h => let ⟨v, h1, h2⟩ := e.sh i d h; ⟨v, h1, h2.step s b⟩
  own := fun i sl h ho => by
    obtain ⟨a, h1, h2, h3, h4⟩ := e.own i sl h ho
    obtain ⟨o, h5⟩ := h4.some_
    exact ⟨a, h1, fun f => (s.new a f).elim h2 (fun q => by rw [h5] at q; cases q), h3, h4.step s b h3⟩
  apart := e.apart
theorem Cur.step (c : Cur K w F H σ ρ n) (s : StepE w F H F' H') (b : Base w F' H' m) : Cur K w F' H' σ ρ m := ⟨b, c.env.step s c.toBase⟩
end

/-! ## readings over data -/
section
variable (K : PySem.W.Frag) (mg : Str → Option Value)
/-- an error as it lies: its class, its dict -/
def RExc (w : Addr) (F : Addr → Prop) (H : Hp) (e : Exc) (c : Value) (dd : Option Addr) : Prop := ∃ C, mg e.cls = some (.ref C) ∧ c = .ref C ∧
  match e.arg with
  | none => dd = none
  | some (f, d) => ∃ a v, dd = some a ∧ F a ∧ H a = some (.xd [(f, v)]) ∧ Rep K w F H v d
def PostE (w : Addr) (F : Addr → Prop) (H : Hp) (Q : VK) : D → Nat → Prop := fun d n => ∀ F' H' v, StepE w F H F' H' → Base w F' H' n → Rep K w F' H' v d → Q v H'
def PostX (w : Addr) (F : Addr → Prop) (H : Hp) (E : XK) : Exc → Nat → Prop := fun e n => ∀ F' H' c dd, StepE w F H F' H' → Base w F' H' n → RExc K mg w F' H' e c dd → E c dd H'
/-- an expression -/
def tD (W : WX) (f : DEnv → T D) : TE := fun σ H Q => ∃ w F ρ n, Cur K w F H σ ρ n ∧ (f ρ).wp (PostE K w F H Q) (PostX K mg w F H fun c dd H' => W c dd σ H') n
/-- a test -/
def tDT (W : WX) (f : DEnv → T Bool) : TT := fun σ H Q => ∃ w F ρ n, Cur K w F H σ ρ n ∧ (f ρ).wp (fun b m => ∀ F' H', StepE w F H F' H' → Base w F' H' m → Q b H') (PostX K mg w F H fun c dd H' => W c dd σ H') n
/-- arguments -/
def tDA (W : WX) (f : DEnv → T (List D)) : TA := fun σ H Q => ∃ w F ρ n, Cur K w F H σ ρ n ∧ (f ρ).wp (fun ds m => ∀ F' H' vs, StepE w F H F' H' → Base w F' H' m → Reps K w F' H' vs ds → Q vs H') (PostX K mg w F H fun c dd H' => W c dd σ H') n
def tS (W : WX) (f : DEnv → T Sq) : TE := fun σ H Q => ∃ w F ρ n, Cur K w F H σ ρ n ∧ (f ρ).wp (fun s m => ∀ F' H' a vs, StepE w F H F' H' → Base w F' H' m → SqAt K w F' H' a vs s → Reps K w F' H' vs s.xs → Q (.ref a) H') (PostX K mg w F H fun c dd H' => W c dd σ H') n
/-- a new list -/
def tN (W : WX) (f : DEnv → T (List D)) : TE := fun σ H Q => ∃ w F ρ n, Cur K w F H σ ρ n ∧ (f ρ).wp (fun ds m => ∀ F' H' p vs, StepE w F H F' H' → Base w F' H' m → H p = none → ¬ F' p → H' p = some (.lst vs) → Reps K w F' H' vs ds → Q (.ref p) H') (PostX K mg w F H fun c dd H' => W c dd σ H') n
end
/-- a statement's end -/
inductive Fl where
  | nx (ρ : DEnv) | rt (d : D) | rs (e : Exc) (ρ : DEnv) | bk (ρ : DEnv) | ct (ρ : DEnv)
/-- a statement's step -/
structure StepS (w : Addr) (F : Addr → Prop) (H : Hp) (O : Addr → Prop) (F' : Addr → Prop) (H' : Hp) (O' : Addr → Prop) : Prop where
  keep' : ∀ a o, a ≠ w → ¬ O a → H a = some o → NT o → H' a = some o
  sub : ∀ a, F a → F' a
  new : ∀ a, F' a → F a ∨ H a = none ∨ O a
  onew : ∀ a, O' a → O a ∨ H a = none
  dom : ∀ a, H' a = none → H a = none
/-- a statement -/
def sD (K : PySem.W.Frag) (mg : Str → Option Value) (W : WX) (g : DEnv → T Fl) : TS := fun D σ H => ∃ w F ρ n, Cur K w F H σ ρ n ∧ (g ρ).wp (fun fl m => match fl with
  | .nx ρ' => ∀ F' H' σ', StepS w F H (Own σ ρ) F' H' (Own σ' ρ') → Cur K w F' H' σ' ρ' m → D.nx σ' H'
  | .bk ρ' => ∀ F' H' σ', StepS w F H (Own σ ρ) F' H' (Own σ' ρ') → Cur K w F' H' σ' ρ' m → D.bk σ' H'
  | .ct ρ' => ∀ F' H' σ', StepS w F H (Own σ ρ) F' H' (Own σ' ρ') → Cur K w F' H' σ' ρ' m → D.ct σ' H'
  | .rt d => ∀ F' H' v, StepS w F H (Own σ ρ) F' H' (fun _ => False) → Base w F' H' m → Rep K w F' H' v d → D.rt v H'
  | .rs e ρ' => ∀ F' H' σ' c dd, StepS w F H (Own σ ρ) F' H' (Own σ' ρ') → Cur K w F' H' σ' ρ' m → RExc K mg w F' H' e c dd → W c dd σ' H') (fun _ _ => False) n
section
variable {w : Addr} {F F' F2 O O' O2 : Addr → Prop} {H H' H2 : Hp}
theorem StepS.keep (s : StepS w F H O F' H' O') (a : Addr) (o : HO) (n : a ≠ w) (no : ¬ O a) (h : H a = some o) (t : NT o := by first | assumption | exact AL.nt_lst | exact AL.nt_tup | exact AL.nt_xd | exact AL.nt_dK | exact AL.nt_ext | exact AL.nt_exo | exact AL.nt_exd | exact fun _ h => by cases h) : H' a = some o := s.keep' a o n no h t
theorem StepS.refl : StepS w F H O F H O := ⟨fun _ _ _ _ h _ => h, fun _ h => h, fun _ h => .inl h, fun _ h => .inl h, fun _ h => h⟩
theorem StepS.trans (a : StepS w F H O F' H' O') (b : StepS w F' H' O' F2 H2 O2) : StepS w F H O F2 H2 O2 where
  keep' := fun x o n h1 h t => b.keep x o n (fun q => (a.onew x q).elim h1 fun z => by rw [h] at z; cases z) (a.keep x o n h1 h)
  sub := fun x h => b.sub x (a.sub x h)
  new := fun x h => by
    rcases b.new x h with q | q | q
    · exact a.new x q
    · exact .inr (.inl (a.dom x q))
    · exact (a.onew x q).elim (fun z => .inr (.inr z)) fun z => .inr (.inl z)
  onew := fun x h => by
    rcases b.onew x h with q | q
    · exact a.onew x q
    · exact .inr (a.dom x q)
  dom := fun x h => a.dom x (b.dom x h)
theorem StepE.s (s : StepE w F H F' H') : StepS w F H O F' H' O := ⟨fun x o n _ h t => s.keep x o n h, s.sub, fun x h => (s.new x h).elim .inl fun q => .inr (.inl q), fun _ h => .inl h, s.dom⟩
theorem StepS.e (s : StepS w F H (fun _ => False) F' H' O') : StepE w F H F' H' := ⟨fun x o n h t => s.keep x o n (fun q => q) h, s.sub, fun x h => by
  rcases s.new x h with q | q | q
  · exact .inl q
  · exact .inr q
  · exact q.elim, s.dom⟩
end
end AL
namespace AL
open PySem PySem.Spec PyProof.Rows L2
variable [Tb]
/-! ## rules of expressions -/
theorem PE.of {X : Cx} {e : Expr} {t t' : TE} (h : PE X e t) (k : ∀ σ H Q, t' σ H Q → t σ H Q) : PE X e t' := ⟨fun pins s σ H Q I q => h.run pins s σ H Q I (k σ H Q q)⟩
theorem PT.of {X : Cx} {e : Expr} {t t' : TT} (h : PT X e t) (k : ∀ σ H Q, t' σ H Q → t σ H Q) : PT X e t' := ⟨fun pins s σ H Q I q => h.run pins s σ H Q I (k σ H Q q)⟩
theorem PA.of {X : Cx} {es : List Expr} {t t' : TA} (h : PA X es t) (k : ∀ σ H Q, t' σ H Q → t σ H Q) : PA X es t' := ⟨fun pos pins s σ H Q I q => h.run pos pins s σ H Q I (k σ H Q q)⟩
theorem PS.of {X : Cx} {st : Stmt} {t t' : TS} (h : PS X st t) (k : ∀ D σ H, t' D σ H → t D σ H) : PS X st t' := ⟨fun pins s σ H D I q => h.run pins s σ H D I (k D σ H q)⟩
theorem PSs.of {X : Cx} {st : List Stmt} {t t' : TS} (h : PSs X st t) (k : ∀ D σ H, t' D σ H → t D σ H) : PSs X st t' := ⟨fun pins s σ H D I q => h.run pins s σ H D I (k D σ H q)⟩
section
variable {K : PySem.W.Frag} {mg : Str → Option Value} {w : Addr} {F F' : Addr → Prop} {H H' : Hp} {Q : VK} {E : XK} {n m : Nat} {d : D} {e : Exc}
theorem PostE.back (s : StepE w F H F' H') (p : PostE K w F H Q d n) : PostE K w F' H' Q d n := fun F2 H2 v s2 b r => p F2 H2 v (s.trans s2) b r
theorem PostX.back (s : StepE w F H F' H') (p : PostX K mg w F H E e n) : PostX K mg w F' H' E e n := fun F2 H2 c dd s2 b r => p F2 H2 c dd (s.trans s2) b r
end
section
variable {X : Cx} {W : WX}
/-- what the reading of a part gives, for the next one -/
theorem tD.go {f : DEnv → T D} {σ : St} {H : Hp} {Q : VK} {w : Addr} {F : Addr → Prop} {ρ : DEnv} {n : Nat} {E : Exc → Nat → Prop} {R : D → Nat → Prop} (c : Cur X.K w F H σ ρ n) (h : (f ρ).wp R E n)
    (hE : ∀ e m, E e m → PostX X.K X.mg w F H (fun c dd H' => W c dd σ H') e m)
    (hR : ∀ d m, R d m → ∀ F' H' v, StepE w F H F' H' → Cur X.K w F' H' σ ρ m → Rep X.K w F' H' v d → Q v H') : tD X.K X.mg W f σ H Q :=
  ⟨w, F, ρ, n, c, T.wp_mono (fun d m r F' H' v s b p => hR d m r F' H' v s (c.step s b) p) hE h⟩
/-! ### constants, names -/
def dC (d : D) : DEnv → T D := fun _ => .ok d
theorem de_c {e : Expr} {v : V} {d : D} (h : PE X e (tC v)) (r : ∀ w F H, Rep X.K w F H v d) : PE X e (tD X.K X.mg W (dC d)) := PE.of h fun σ H Q ⟨w, F, ρ, n, c, q⟩ => q F H v .refl c.toBase (r w F H)
theorem de_int {i j pos} : PE X (.Constant (.int i) j pos) (tD X.K X.mg W (dC (.int i))) := de_c pe_int fun _ _ _ => .int i
theorem de_bl {i j pos} : PE X (.Constant (.bool i) j pos) (tD X.K X.mg W (dC (.bl i))) := de_c pe_bl fun _ _ _ => .bl i
theorem de_non {j pos} : PE X (.Constant .none j pos) (tD X.K X.mg W (dC .non)) := de_c pe_non fun _ _ _ => .non
theorem de_str {i j pos} : PE X (.Constant (.str i) j pos) (tD X.K X.mg W (dC (.str i))) := de_c pe_str fun _ _ _ => .str i
def dV (i : Nat) : DEnv → T D := fun ρ => match ρ[i]? with
  | some (.sh d) => .ok d
  | _ => .fail
theorem de_var {e : Expr} (i : Nat) (h : PE X e (tVar i)) : PE X e (tD X.K X.mg W (dV i)) := PE.of h fun σ H Q ⟨w, F, ρ, n, c, q⟩ => by
  unfold dV at q
  split at q
  · rename_i d hd
    obtain ⟨v, h1, h2⟩ := c.env.sh i d hd
    exact ⟨v, h1, q F H v .refl c.toBase h2⟩
  · exact q.elim
/-! ### two parts -/
def dB (op : D → D → T D) (a b : DEnv → T D) : DEnv → T D := fun ρ => (a ρ).bind fun x => (b ρ).bind fun y => op x y
/-- an operator over data -/
def OpOk (K : PySem.W.Frag) (r : R2) (op : D → D → T D) : Prop := ∀ (w : Addr) (F : Addr → Prop) (H : Hp) (n : Nat) (x y : V) (dx dy : D) (Q : VK) (E : Exc → Nat → Prop), Base w F H n → Rep K w F H x dx → Rep K w F H y dy → (op dx dy).wp (PostE K w F H Q) E n → r x y H Q
theorem two {a b : Expr} {fa fb : DEnv → T D} {r : R2} {op : D → D → T D} (ho : OpOk X.K r op) {σ : St} {H : Hp} {Q : VK} (h : tD X.K X.mg W (dB op fa fb) σ H Q) : tOp r (tD X.K X.mg W fa) (tD X.K X.mg W fb) σ H Q := by
  obtain ⟨w, F, ρ, n, c, q⟩ := h
  refine tD.go c (T.wp_bind _ _ |>.mp q) (fun _ _ h => h) fun dx m1 q1 F1 H1 vx s1 c1 rx => ?_
  refine tD.go c1 (T.wp_bind _ _ |>.mp q1) (fun _ _ h => h.back s1) fun dy m2 q2 F2 H2 vy s2 c2 ry => ?_
  exact ho w F2 H2 m2 vx vy dx dy Q _ c2.toBase (rx.step s2 c1.toBase) ry (T.wp_mono (fun _ _ h => h.back (s1.trans s2)) (fun _ _ h => h) q2)
theorem de_bin {op : Operator} {r : R2} {f : D → D → T D} {a b : Expr} {fa fb : DEnv → T D} {pos : Pos} (hr : OpR X (binaryOp op) r) (ho : OpOk X.K r f) (ha : PE X a (tD X.K X.mg W fa)) (hb : PE X b (tD X.K X.mg W fb)) :
    PE X (.BinOp a op b pos) (tD X.K X.mg W (dB f fa fb)) := PE.of (pe_op hr ha hb) fun _ _ _ h => two (a := a) (b := b) ho h
theorem de_cmp {op : CmpOp} {r : R2} {f : D → D → T D} {a b : Expr} {fa fb : DEnv → T D} {pos : Pos} (hr : OpR X (compareOp op) r) (ho : OpOk X.K r f) (ha : PE X a (tD X.K X.mg W fa)) (hb : PE X b (tD X.K X.mg W fb))
    (hm : behindInMarks op b = false) : PE X (.Compare a [op] [b] pos) (tD X.K X.mg W (dB f fa fb)) := PE.of (pe_cmpR hr ha hb hm) fun _ _ _ h => two (a := a) (b := b) ho h
/-! ### tests -/
def dT (f : DEnv → T D) : DEnv → T Bool := fun ρ => (f ρ).bind fun d => match d with
  | .bl b => .ok b
  | _ => .fail
theorem dt_of {e : Expr} {f : DEnv → T D} (h : PE X e (tD X.K X.mg W f)) (he : ∀ whole, isTrue e X.env whole = (do let v ← whole; standAt e.pos; holding [v] (truthy v)) := by intro _; rfl) : PT X e (tDT X.K X.mg W (dT f)) :=
  PT.of (pt_val h he) fun σ H Q ⟨w, F, ρ, n, c, q⟩ => by
    refine tD.go c (T.wp_bind _ _ |>.mp q) (fun _ _ h => h) fun d m q1 F1 H1 v s1 c1 r => ?_
    cases d with
    | bl b => cases r; exact ⟨b, rfl, q1 F1 H1 s1 c1.toBase⟩
    | _ => exact q1.elim
theorem dt_cmp {op : CmpOp} {r : R2} {f : D → D → T D} {a b : Expr} {fa fb : DEnv → T D} {pos : Pos} (hr : OpR X (compareOp op) r) (ho : OpOk X.K r f) (ha : PE X a (tD X.K X.mg W fa)) (hb : PE X b (tD X.K X.mg W fb))
    (hm : behindInMarks op b = false) : PT X (.Compare a [op] [b] pos) (tDT X.K X.mg W (dT (dB f fa fb))) :=
  PT.of (pt_cmpR hr ha hb hm) fun σ H Q ⟨w, F, ρ, n, c, q⟩ => two (a := a) (b := b) (op := f) ho ⟨w, F, ρ, n, c, T.wp_mono (fun d m h F1 H1 v s1 b1 r => by
    cases d with
    | bl b => cases r; exact ⟨b, rfl, h F1 H1 s1 b1⟩
    | _ => exact h.elim) (fun _ _ h => h) (T.wp_bind _ _ |>.mp q)⟩
theorem tDT.go {f : DEnv → T Bool} {σ : St} {H : Hp} {Q : Bool → Hp → Prop} {w : Addr} {F : Addr → Prop} {ρ : DEnv} {n : Nat} {E : Exc → Nat → Prop} {R : Bool → Nat → Prop} (c : Cur X.K w F H σ ρ n) (h : (f ρ).wp R E n)
    (hE : ∀ e m, E e m → PostX X.K X.mg w F H (fun c dd H' => W c dd σ H') e m)
    (hR : ∀ b m, R b m → ∀ F' H', StepE w F H F' H' → Cur X.K w F' H' σ ρ m → Q b H') : tDT X.K X.mg W f σ H Q :=
  ⟨w, F, ρ, n, c, T.wp_mono (fun d m r F' H' s b => hR d m r F' H' s (c.step s b)) hE h⟩
def dTAnd (a b : DEnv → T Bool) : DEnv → T Bool := fun ρ => (a ρ).bind fun x => if x then b ρ else .ok false
def dTOr (a b : DEnv → T Bool) : DEnv → T Bool := fun ρ => (a ρ).bind fun x => if x then .ok true else b ρ
def dTNot (a : DEnv → T Bool) : DEnv → T Bool := fun ρ => (a ρ).bind fun x => .ok (!x)
theorem dw_and1 {a : Expr} {f : DEnv → T Bool} {pos : Pos} (h : PT X a (tDT X.K X.mg W f)) : PW X (.BoolOp .And [a] pos) (tDT X.K X.mg W f) := pw_and1 h
theorem dw_or1 {a : Expr} {f : DEnv → T Bool} {pos : Pos} (h : PT X a (tDT X.K X.mg W f)) : PW X (.BoolOp .Or [a] pos) (tDT X.K X.mg W f) := pw_or1 h
theorem PW.of {X : Cx} {e : Expr} {t t' : TT} (h : PW X e t) (k : ∀ σ H Q, t' σ H Q → t σ H Q) : PW X e t' := ⟨fun whole pins s σ H Q I q => h.run whole pins s σ H Q I (k σ H Q q)⟩
theorem dw_and {a b : Expr} {rest : List Expr} {fa fb : DEnv → T Bool} {pos : Pos} (ha : PT X a (tDT X.K X.mg W fa)) (hb : PW X (.BoolOp .And (b :: rest) pos) (tDT X.K X.mg W fb)) : PW X (.BoolOp .And (a :: b :: rest) pos) (tDT X.K X.mg W (dTAnd fa fb)) :=
  PW.of (pw_and ha hb) fun σ H Q ⟨w, F, ρ, n, c, q⟩ => tDT.go c (T.wp_bind _ _ |>.mp q) (fun _ _ h => h) fun x m q1 F1 H1 s1 c1 => by
    cases x with
    | true => exact tDT.go c1 q1 (fun _ _ h => h.back s1) fun y m2 q2 F2 H2 s2 c2 => q2 F2 H2 (s1.trans s2) c2.toBase
    | false => exact q1 F1 H1 s1 c1.toBase
theorem dw_or {a b : Expr} {rest : List Expr} {fa fb : DEnv → T Bool} {pos : Pos} (ha : PT X a (tDT X.K X.mg W fa)) (hb : PW X (.BoolOp .Or (b :: rest) pos) (tDT X.K X.mg W fb)) : PW X (.BoolOp .Or (a :: b :: rest) pos) (tDT X.K X.mg W (dTOr fa fb)) :=
  PW.of (pw_or ha hb) fun σ H Q ⟨w, F, ρ, n, c, q⟩ => tDT.go c (T.wp_bind _ _ |>.mp q) (fun _ _ h => h) fun x m q1 F1 H1 s1 c1 => by
    cases x with
    | false => exact tDT.go c1 q1 (fun _ _ h => h.back s1) fun y m2 q2 F2 H2 s2 c2 => q2 F2 H2 (s1.trans s2) c2.toBase
    | true => exact q1 F1 H1 s1 c1.toBase
theorem dt_w {e : Expr} {f : DEnv → T Bool} (h : PW X e (tDT X.K X.mg W f)) : PT X e (tDT X.K X.mg W f) := h.pt
theorem dt_not {a : Expr} {f : DEnv → T Bool} {pos : Pos} (h : PT X a (tDT X.K X.mg W f)) : PT X (.UnaryOp .Not a pos) (tDT X.K X.mg W (dTNot f)) :=
  PT.of (pt_not h) fun σ H Q ⟨w, F, ρ, n, c, q⟩ => tDT.go c (T.wp_bind _ _ |>.mp q) (fun _ _ h => h) fun x m q1 F1 H1 s1 c1 => q1 F1 H1 s1 c1.toBase
/-! ### and, or, not, if as values -/
def dAnd (a b : DEnv → T D) : DEnv → T D := fun ρ => (a ρ).bind fun x => match x with
  | .bl true => b ρ
  | .bl false => .ok (.bl false)
  | _ => .fail
def dOr (a b : DEnv → T D) : DEnv → T D := fun ρ => (a ρ).bind fun x => match x with
  | .bl false => b ρ
  | .bl true => .ok (.bl true)
  | _ => .fail
def dNot (a : DEnv → T D) : DEnv → T D := fun ρ => (a ρ).bind fun x => match x with
  | .bl b => .ok (.bl (!b))
  | _ => .fail
def dIf (t : DEnv → T Bool) (a b : DEnv → T D) : DEnv → T D := fun ρ => (t ρ).bind fun x => if x then a ρ else b ρ
theorem de_one {op} {a : Expr} {f : DEnv → T D} {pos : Pos} (h : PE X a (tD X.K X.mg W f)) : PE X (.BoolOp op [a] pos) (tD X.K X.mg W f) := pe_one h
theorem de_and {a b : Expr} {rest : List Expr} {fa fb : DEnv → T D} {pos : Pos} (ha : PE X a (tD X.K X.mg W fa)) (hb : PE X (.BoolOp .And (b :: rest) pos) (tD X.K X.mg W fb)) : PE X (.BoolOp .And (a :: b :: rest) pos) (tD X.K X.mg W (dAnd fa fb)) :=
  PE.of (pe_and ha hb) fun σ H Q ⟨w, F, ρ, n, c, q⟩ => tD.go c (T.wp_bind _ _ |>.mp q) (fun _ _ h => h) fun x m q1 F1 H1 v s1 c1 r => by
    cases x with
    | bl b =>
      cases r
      refine ⟨b, rfl, ?_⟩
      cases b with
      | true => exact tD.go c1 q1 (fun _ _ h => h.back s1) fun y m2 q2 F2 H2 v2 s2 c2 r2 => q2 F2 H2 v2 (s1.trans s2) c2.toBase r2
      | false => exact q1 F1 H1 (.bl false) s1 c1.toBase (.bl false)
    | _ => exact q1.elim
theorem de_or {a b : Expr} {rest : List Expr} {fa fb : DEnv → T D} {pos : Pos} (ha : PE X a (tD X.K X.mg W fa)) (hb : PE X (.BoolOp .Or (b :: rest) pos) (tD X.K X.mg W fb)) : PE X (.BoolOp .Or (a :: b :: rest) pos) (tD X.K X.mg W (dOr fa fb)) :=
  PE.of (pe_or ha hb) fun σ H Q ⟨w, F, ρ, n, c, q⟩ => tD.go c (T.wp_bind _ _ |>.mp q) (fun _ _ h => h) fun x m q1 F1 H1 v s1 c1 r => by
    cases x with
    | bl b =>
      cases r
      refine ⟨b, rfl, ?_⟩
      cases b with
      | false => exact tD.go c1 q1 (fun _ _ h => h.back s1) fun y m2 q2 F2 H2 v2 s2 c2 r2 => q2 F2 H2 v2 (s1.trans s2) c2.toBase r2
      | true => exact q1 F1 H1 (.bl true) s1 c1.toBase (.bl true)
    | _ => exact q1.elim
theorem de_not {a : Expr} {f : DEnv → T D} {pos : Pos} (h : PE X a (tD X.K X.mg W f)) : PE X (.UnaryOp .Not a pos) (tD X.K X.mg W (dNot f)) :=
  PE.of (pe_not h) fun σ H Q ⟨w, F, ρ, n, c, q⟩ => tD.go c (T.wp_bind _ _ |>.mp q) (fun _ _ h => h) fun x m q1 F1 H1 v s1 c1 r => by
    cases x with
    | bl b => cases r; exact ⟨b, rfl, q1 F1 H1 _ s1 c1.toBase (.bl _)⟩
    | _ => exact q1.elim
theorem de_if {t a b : Expr} {ft : DEnv → T Bool} {fa fb : DEnv → T D} {pos : Pos} (ht : PT X t (tDT X.K X.mg W ft)) (ha : PE X a (tD X.K X.mg W fa)) (hb : PE X b (tD X.K X.mg W fb)) : PE X (.IfExp t a b pos) (tD X.K X.mg W (dIf ft fa fb)) :=
  PE.of (pe_ifExp ht ha hb) fun σ H Q ⟨w, F, ρ, n, c, q⟩ => tDT.go c (T.wp_bind _ _ |>.mp q) (fun _ _ h => h) fun x m q1 F1 H1 s1 c1 => by
    cases x with
    | true => exact tD.go c1 q1 (fun _ _ h => h.back s1) fun y m2 q2 F2 H2 v2 s2 c2 r2 => q2 F2 H2 v2 (s1.trans s2) c2.toBase r2
    | false => exact tD.go c1 q1 (fun _ _ h => h.back s1) fun y m2 q2 F2 H2 v2 s2 c2 r2 => q2 F2 H2 v2 (s1.trans s2) c2.toBase r2
/-! ### arguments, displays -/
def dNil : DEnv → T (List D) := fun _ => .ok []
def dCons (a : DEnv → T D) (b : DEnv → T (List D)) : DEnv → T (List D) := fun ρ => (a ρ).bind fun x => (b ρ).bind fun r => .ok (x :: r)
theorem da_nil : PA X [] (tDA X.K X.mg W dNil) := PA.of pa_nil fun σ H Q ⟨w, F, ρ, n, c, q⟩ => q F H [] .refl c.toBase .nil
theorem tDA.go {f : DEnv → T (List D)} {σ : St} {H : Hp} {Q : List V → Hp → Prop} {w : Addr} {F : Addr → Prop} {ρ : DEnv} {n : Nat} {E : Exc → Nat → Prop} {R : List D → Nat → Prop} (c : Cur X.K w F H σ ρ n) (h : (f ρ).wp R E n)
    (hE : ∀ e m, E e m → PostX X.K X.mg w F H (fun c dd H' => W c dd σ H') e m)
    (hR : ∀ ds m, R ds m → ∀ F' H' vs, StepE w F H F' H' → Cur X.K w F' H' σ ρ m → Reps X.K w F' H' vs ds → Q vs H') : tDA X.K X.mg W f σ H Q :=
  ⟨w, F, ρ, n, c, T.wp_mono (fun d m r F' H' v s b p => hR d m r F' H' v s (c.step s b) p) hE h⟩
theorem da_cons {e : Expr} {es : List Expr} {f : DEnv → T D} {g : DEnv → T (List D)} (h : PE X e (tD X.K X.mg W f)) (hr : PA X es (tDA X.K X.mg W g)) (hs : starEach (e :: es) X.env = (false, eval e X.env) :: starEach es X.env := by rfl) :
    PA X (e :: es) (tDA X.K X.mg W (dCons f g)) := PA.of (pa_cons h hr hs) fun σ H Q ⟨w, F, ρ, n, c, q⟩ =>
  tD.go c (T.wp_bind _ _ |>.mp q) (fun _ _ h => h) fun d m q1 F1 H1 v s1 c1 r => tDA.go c1 (T.wp_bind _ _ |>.mp q1) (fun _ _ h => h.back s1) fun ds m2 q2 F2 H2 vs s2 c2 r2 =>
    q2 F2 H2 (v :: vs) (s1.trans s2) c2.toBase (.cons (r.step s2 c1.toBase) r2)
def dTup (a : DEnv → T (List D)) : DEnv → T D := fun ρ => (a ρ).bind fun xs => if xs.length ≤ sizeLine then .ok (.tup xs) else .fail
def dLst (a : DEnv → T (List D)) : DEnv → T (List D) := fun ρ => (a ρ).bind fun xs => if xs.length ≤ sizeLine then .ok xs else .fail
theorem TupAt.lay {K : PySem.W.Frag} {w : Addr} {F : Addr → Prop} {H : Hp} {p : Addr} {vs : List V} : TupAt K (fun a => F a ∨ a = p) (upd H p (.tup vs)) p vs := .inl ⟨.inr rfl, upd_same⟩
theorem tup_new {K : PySem.W.Frag} {w : Addr} {F : Addr → Prop} {H : Hp} {n : Nat} {vs : List V} {ds : List D} {p : Addr} (b : Base w F H n) (r : Reps K w F H vs ds) (hp : H p = none) :
    StepE w F H (fun a => F a ∨ a = p) (upd H p (.tup vs)) ∧ Base w (fun a => F a ∨ a = p) (upd H p (.tup vs)) n ∧ Rep K w (fun a => F a ∨ a = p) (upd H p (.tup vs)) (.ref p) (.tup ds) :=
  have s := StepE.lay (w := w) (F := F) (o := .tup vs) hp b.well.there
  ⟨s, b.lay hp, .tup (TupAt.lay (w := w)) (r.step s b)⟩
theorem de_tup {es : List Expr} {x1} {pos : Pos} {f : DEnv → T (List D)} (h : PA X es (tDA X.K X.mg W f)) : PE X (.Tuple es x1 pos) (tD X.K X.mg W (dTup f)) := PE.of (pe_tup h) fun σ H Q ⟨w, F, ρ, n, c, q⟩ =>
  tDA.go c (T.wp_bind _ _ |>.mp q) (fun _ _ h => h) fun ds m q1 F1 H1 vs s1 c1 r => by
    split at q1
    · rename_i hz
      refine ⟨by rw [r.length]; exact hz, fun p hp => ?_⟩
      obtain ⟨s2, b2, r2⟩ := tup_new c1.toBase r hp
      exact q1 _ _ _ (s1.trans s2) b2 r2
    · exact q1.elim
/-- a new list -/
theorem dn_lst {es : List Expr} {pos : Pos} {f : DEnv → T (List D)} (h : PA X es (tDA X.K X.mg W f)) : PE X (.List es pos) (tN X.K X.mg W (dLst f)) := PE.of (pe_lst h) fun σ H Q ⟨w, F, ρ, n, c, q⟩ =>
  tDA.go c (T.wp_bind _ _ |>.mp q) (fun _ _ h => h) fun ds m q1 F1 H1 vs s1 c1 r => by
    split at q1
    · rename_i hz
      refine ⟨by rw [r.length]; exact hz, fun p hp => ?_⟩
      have s2 := StepE.layOwn (w := w) (F := F1) (o := .lst vs) hp
      exact q1 F1 _ p vs (s1.trans s2) (c1.toBase.layOwn hp) (s1.dom p hp) (c1.toBase.pnf hp) upd_same (r.step s2 c1.toBase)
    · exact q1.elim
/-- a new list that stays as it is -/
def dFz (f : DEnv → T (List D)) : DEnv → T D := fun ρ => (f ρ).bind fun xs => .ok (.lst xs)
theorem StepE.freezeL {w : Addr} {F : Addr → Prop} {H F1 : _} {H1 : Hp} {p : Addr} (s : StepE w F H F1 H1) (hp : H p = none) : StepE w F H (fun a => F1 a ∨ a = p) H1 :=
  ⟨s.keep', fun a h => .inl (s.sub a h), fun a h => h.elim (s.new a) fun e => .inr (e ▸ hp), s.dom⟩
mutual
theorem Rep.sub {K : PySem.W.Frag} {w : Addr} {F F' : Addr → Prop} {H : Hp} (h : ∀ a, F a → F' a) : ∀ {v : V} {d : D}, Rep K w F H v d → Rep K w F' H v d
  | _, _, .non => .non
  | _, _, .bl x => .bl x
  | _, _, .int x => .int x
  | _, _, .str x => .str x
  | _, _, .tup q r => .tup (q.imp (fun z => ⟨h _ z.1, z.2⟩) id) (Reps.sub h r)
  | _, _, .lst f q r => .lst (h _ f) q (Reps.sub h r)
  | _, _, .well => .well
  | _, _, .raw v => .raw v
  | _, _, .exc0 => .exc0
  | _, _, .exc1 f q r => .exc1 (h _ f) q (Rep.sub h r)
  | _, _, .err0 f q => .err0 (h _ f) q
  | _, _, .err1 f g q k r => .err1 (h _ f) (h _ g) q k (Rep.sub h r)
  | _, _, .dic f q e l r t => .dic (h _ f) q e l (Reps.sub h r) (Reps.sub h t)
  | _, _, .fn x r => .fn ⟨⟨h _ x.ff, x.hf, h _ x.fc, x.hc⟩, x.len, fun y a e => ⟨h _ (x.all y a e).1, (x.all y a e).2⟩, x.inj, x.has⟩ (Reps.sub h r)
  | _, _, .pf x => .pf ⟨h _ x.ff, x.hf, h _ x.fc, x.hc⟩
theorem Reps.sub {K : PySem.W.Frag} {w : Addr} {F F' : Addr → Prop} {H : Hp} (h : ∀ a, F a → F' a) : ∀ {vs : List V} {ds : List D}, Reps K w F H vs ds → Reps K w F' H vs ds
  | _, _, .nil => .nil
  | _, _, .cons r t => .cons (Rep.sub h r) (Reps.sub h t)
end
theorem Base.fz {w : Addr} {F : Addr → Prop} {H : Hp} {n : Nat} {p : Addr} {o : HO} (b : Base w F H n) (nw : p ≠ w) (hp : H p = some o) (t : NT o := by first | assumption | exact AL.nt_lst | exact AL.nt_tup | exact AL.nt_xd | exact AL.nt_dK | exact AL.nt_ext | exact AL.nt_exo | exact AL.nt_exd | exact fun _ h => by cases h) : Base w (fun a => F a ∨ a = p) H n :=
  ⟨b.well, fun h => h.elim b.nw fun e => nw e.symm, fun a h => h.elim (b.dom' a) fun e => ⟨o, e ▸ hp, t⟩, fun q hq => (b.tabs q hq).of (fun _ => .inl) (fun _ _ z => z) fun _ _ _ z => z⟩
theorem de_fz {e : Expr} {f : DEnv → T (List D)} (h : PE X e (tN X.K X.mg W f)) : PE X e (tD X.K X.mg W (dFz f)) := PE.of h fun σ H Q ⟨w, F, ρ, n, c, q⟩ =>
  ⟨w, F, ρ, n, c, T.wp_mono (fun ds m q1 F1 H1 p vs s1 b1 hp nf h1 r => q1 (fun a => F1 a ∨ a = p) H1 (.ref p) (s1.freezeL hp) (b1.fz (c.toBase.pne hp) h1) (.lst (.inr rfl) h1 (r.sub fun _ => .inl))) (fun _ _ h => h) (T.wp_bind _ _ |>.mp q)⟩
/-! ### sequences read at once -/
def dSqV (i : Nat) : DEnv → T Sq := fun ρ => match ρ[i]? with
  | some (.sh (.tup xs)) => .ok (.t xs)
  | some (.sh (.lst xs)) => .ok (.l xs)
  | some (.own xs) => .ok (.l xs)
  | _ => .fail
theorem dq_var {e : Expr} (i : Nat) (h : PE X e (tVar i)) : PE X e (tS X.K X.mg W (dSqV i)) := PE.of h fun σ H Q ⟨w, F, ρ, n, c, q⟩ => by
  unfold dSqV at q
  split at q
  · rename_i d hd
    obtain ⟨v, h1, h2⟩ := c.env.sh i _ hd
    cases h2 with
    | tup ht hr => exact ⟨_, h1, q F H _ _ .refl c.toBase ht hr⟩
  · rename_i d hd
    obtain ⟨v, h1, h2⟩ := c.env.sh i _ hd
    cases h2 with
    | lst hf ht hr => exact ⟨_, h1, q F H _ _ .refl c.toBase ⟨fun e => c.nw (e ▸ hf), ht⟩ hr⟩
  · rename_i d hd
    obtain ⟨a, h1, h2, h3, vs, h4, h5⟩ := c.env.own i _ hd rfl
    refine ⟨.ref a, ?_, q F H a vs .refl c.toBase ⟨h3, h4⟩ h5⟩
    cases hs : σ[i]? with
    | none => rw [hs] at h1; cases h1
    | some o => rw [hs] at h1; exact congrArg some h1
  · exact q.elim
def dSq (f : DEnv → T D) : DEnv → T Sq := fun ρ => (f ρ).bind fun d => match d with
  | .tup xs => .ok (.t xs)
  | .lst xs => .ok (.l xs)
  | _ => .fail
theorem dq_of {e : Expr} {f : DEnv → T D} (h : PE X e (tD X.K X.mg W f)) : PE X e (tS X.K X.mg W (dSq f)) := PE.of h fun σ H Q ⟨w, F, ρ, n, c, q⟩ =>
  tD.go c (T.wp_bind _ _ |>.mp q) (fun _ _ h => h) fun d m q1 F1 H1 v s1 c1 r => by
    cases r with
    | tup ht hr => exact q1 F1 H1 _ _ s1 c1.toBase ht hr
    | lst hf ht hr => exact q1 F1 H1 _ _ s1 c1.toBase ⟨fun e => c1.nw (e ▸ hf), ht⟩ hr
    | _ => exact q1.elim
def dSqN (f : DEnv → T (List D)) : DEnv → T Sq := fun ρ => (f ρ).bind fun xs => .ok (.l xs)
theorem dq_new {e : Expr} {f : DEnv → T (List D)} (h : PE X e (tN X.K X.mg W f)) : PE X e (tS X.K X.mg W (dSqN f)) := PE.of h fun σ H Q ⟨w, F, ρ, n, c, q⟩ =>
  ⟨w, F, ρ, n, c, T.wp_mono (fun ds m q1 F1 H1 p vs s1 b1 hp nf h1 r => q1 F1 H1 p vs s1 b1 ⟨c.toBase.pne hp, h1⟩ r) (fun _ _ h => h) (T.wp_bind _ _ |>.mp q)⟩
theorem tS.go {f : DEnv → T Sq} {σ : St} {H : Hp} {Q : VK} {w : Addr} {F : Addr → Prop} {ρ : DEnv} {n : Nat} {E : Exc → Nat → Prop} {R : Sq → Nat → Prop} (c : Cur X.K w F H σ ρ n) (h : (f ρ).wp R E n)
    (hE : ∀ e m, E e m → PostX X.K X.mg w F H (fun c dd H' => W c dd σ H') e m)
    (hR : ∀ s m, R s m → ∀ F' H' a vs, StepE w F H F' H' → Cur X.K w F' H' σ ρ m → SqAt X.K w F' H' a vs s → Reps X.K w F' H' vs s.xs → Q (.ref a) H') : tS X.K X.mg W f σ H Q :=
  ⟨w, F, ρ, n, c, T.wp_mono (fun d m r F' H' a v s b h1 p => hR d m r F' H' a v s (c.step s b) h1 p) hE h⟩
end
end AL
namespace AL
open PySem PySem.Spec PyProof.Rows L2
variable [Tb]
/-! ## operators over data -/
section
variable {X : Cx}
def opAdd (a b : D) : T D := match a, b with
  | .int i, .int j => .ok (.int (i + j))
  | .str x, .str y => if x.length + y.length ≤ sizeLine then .ok (.str (x ++ y)) else .fail
  | .tup xs, .tup ys => if xs.length + ys.length ≤ sizeLine then .ok (.tup (xs ++ ys)) else .fail
  | _, _ => .fail
def rAdd3 (K : PySem.W.Frag) : R2 := fun x y H Q => rI0 (fun i j => .int (i + j)) x y H Q ∨ (∃ i j, x = .str i ∧ y = .str j ∧ i.length + j.length ≤ sizeLine ∧ Q (.str (i ++ j)) H) ∨ rCatA K x y H Q
theorem or_add : OpR X (binaryOp .Add) (rAdd3 X.K) := OpR.or op_add (OpR.or op_add_str op_catA)
theorem ok_add : OpOk X.K (rAdd3 X.K) opAdd := fun w F H n x y dx dy Q E b rx ry h => by
  cases rx with
  | int i =>
    cases ry with
    | int j => exact .inl ⟨i, j, rfl, rfl, h F H _ .refl b (.int _)⟩
    | _ => exact h.elim
  | str i =>
    cases ry with
    | str j =>
      unfold opAdd at h
      dsimp only at h
      split at h
      · rename_i hz
        exact .inr (.inl ⟨i, j, rfl, rfl, hz, h F H _ .refl b (.str _)⟩)
      · exact h.elim
    | _ => exact h.elim
  | tup hx qx =>
    cases ry with
    | tup hy qy =>
      unfold opAdd at h
      dsimp only at h
      split at h
      · rename_i xs a vs1 ys c vs2 hz
        refine .inr (.inr ⟨_, _, _, _, rfl, rfl, hx.seq, hy.seq, by rw [qx.length, qy.length]; exact hz, fun e => ?_, fun _ e => ?_, fun _ _ p hp => ?_⟩)
        · subst e
          cases qx
          exact h F H _ .refl b (.tup hy qy)
        · subst e
          cases qy
          rw [List.append_nil] at h
          exact h F H _ .refl b (.tup hx qx)
        · obtain ⟨s2, b2, r2⟩ := tup_new b (qx.append qy) hp
          exact h _ _ _ s2 b2 r2
      · exact h.elim
    | _ => exact h.elim
  | _ => exact h.elim
/-- two ints -/
def opI (g : Int → Int → D) (a b : D) : T D := match a, b with
  | .int i, .int j => .ok (g i j)
  | _, _ => .fail
theorem ok_int {K : PySem.W.Frag} {g : Int → Int → V} {g' : Int → Int → D} (hg : ∀ w F H i j, Rep K w F H (g i j) (g' i j)) : OpOk K (rI0 g) (opI g') := fun w F H n x y dx dy Q E b rx ry h => by
  cases rx with
  | int i =>
    cases ry with
    | int j => exact ⟨i, j, rfl, rfl, h F H _ .refl b (hg w F H i j)⟩
    | _ => exact h.elim
  | _ => exact h.elim
/-- two ints under a condition -/
def opIC (C : Int → Int → Prop) [∀ i j, Decidable (C i j)] (g : Int → Int → D) (a b : D) : T D := match a, b with
  | .int i, .int j => if C i j then .ok (g i j) else .fail
  | _, _ => .fail
theorem ok_intC {K : PySem.W.Frag} {C : Int → Int → Prop} [∀ i j, Decidable (C i j)] {g : Int → Int → V} {g' : Int → Int → D} (hg : ∀ w F H i j, Rep K w F H (g i j) (g' i j)) : OpOk K (rI C g) (opIC C g') := fun w F H n x y dx dy Q E b rx ry h => by
  cases rx with
  | int i =>
    cases ry with
    | int j =>
      unfold opIC at h
      dsimp only at h
      split at h
      · rename_i hc
        exact ⟨i, j, rfl, rfl, hc, h F H _ .refl b (hg w F H i j)⟩
      · exact h.elim
    | _ => exact h.elim
  | _ => exact h.elim
def opSub : D → D → T D := opI fun i j => .int (i - j)
theorem ok_sub : OpOk X.K (rI0 fun i j => .int (i - j)) opSub := ok_int fun _ _ _ _ _ => .int _
noncomputable instance (i j : Int) : Decidable (CMul i j) := Classical.propDecidable _
noncomputable def opMul : D → D → T D := opIC CMul fun i j => .int (i * j)
theorem ok_mul : OpOk X.K (rI CMul fun i j => .int (i * j)) opMul := ok_intC fun _ _ _ _ _ => .int _
def opMod : D → D → T D := opIC (fun _ j => 0 < j) fun i j => .int (i % j)
theorem ok_mod : OpOk X.K (rI (fun _ j => 0 < j) fun i j => .int (i % j)) opMod := ok_intC fun _ _ _ _ _ => .int _
noncomputable instance (i j : Int) : Decidable (CDiv i j) := Classical.propDecidable _
noncomputable def opDiv : D → D → T D := opIC CDiv fun i j => .int (i / j)
theorem ok_div : OpOk X.K (rI CDiv fun i j => .int (i / j)) opDiv := ok_intC fun _ _ _ _ _ => .int _
def opLt : D → D → T D := opI fun i j => .bl (decide (i < j))
def opLe : D → D → T D := opI fun i j => .bl (decide (i ≤ j))
def opGt : D → D → T D := opI fun i j => .bl (decide (j < i))
def opGe : D → D → T D := opI fun i j => .bl (decide (j ≤ i))
theorem ok_lt : OpOk X.K (rI0 fun i j => .bl (decide (i < j))) opLt := ok_int fun _ _ _ _ _ => .bl _
theorem ok_le : OpOk X.K (rI0 fun i j => .bl (decide (i ≤ j))) opLe := ok_int fun _ _ _ _ _ => .bl _
theorem ok_gt : OpOk X.K (rI0 fun i j => .bl (decide (j < i))) opGt := ok_int fun _ _ _ _ _ => .bl _
theorem ok_ge : OpOk X.K (rI0 fun i j => .bl (decide (j ≤ i))) opGe := ok_int fun _ _ _ _ _ => .bl _
end
/-! ### equality -/
namespace D
mutual
def py : D → PyData
  | .non => .none
  | .bl b => .bool b
  | .int i => .int i
  | .str s => .str s
  | .tup xs => .tuple (pys xs)
  | .lst xs => .list (pys xs)
  | .well => .none
  | .raw _ => .none
  | .exc _ _ _ _ _ => .none
  | .err _ _ _ => .none
  | .dic _ _ => .none
  | .fn _ _ => .none
  | .pf _ _ => .none
def pys : List D → List PyData
  | [] => []
  | x :: r => py x :: pys r
end
mutual
/-- nothing but data -/
def plain : D → Bool
  | .non | .bl _ | .int _ => true
  | .str s => PyData.strOk s
  | .tup xs | .lst xs => plains xs
  | .well => false
  | .raw _ => false
  | .exc _ _ _ _ _ => false
  | .err _ _ _ => false
  | .dic _ _ => false
  | .fn _ _ => false
  | .pf _ _ => false
def plains : List D → Bool
  | [] => true
  | x :: r => plain x && plains r
end
mutual
theorem canLay : ∀ d : D, d.plain = true → d.py.canLay0 = true
  | .non, _ => by simp [py, PyData.canLay0]
  | .bl b, _ => by simp [py, PyData.canLay0]
  | .int i, _ => by simp [py, PyData.canLay0]
  | .str s, h => by simpa [py, PyData.canLay0, plain] using h
  | .tup xs, h => by simp only [py, PyData.canLay0]; exact canLays xs (by simpa only [plain] using h)
  | .lst xs, h => by simp only [py, PyData.canLay0]; exact canLays xs (by simpa only [plain] using h)
  | .well, h => by simp [plain] at h
  | .raw _, h => by simp [plain] at h
  | .exc _ _ _ _ _, h => by simp [plain] at h
  | .err _ _ _, h => by simp [plain] at h
  | .dic _ _, h => by simp [plain] at h
  | .fn _ _, h => by simp [plain] at h
  | .pf _ _, h => by simp [plain] at h
theorem canLays : ∀ ds : List D, plains ds = true → PyData.canLayAll0 (pys ds) = true
  | [], _ => by simp [pys, PyData.canLayAll0]
  | d :: r, h => by
    simp only [plains, Bool.and_eq_true] at h
    simp only [pys, PyData.canLayAll0, Bool.and_eq_true]
    exact ⟨canLay d h.1, canLays r h.2⟩
end
end D
section
variable {K : PySem.W.Frag} {w : Addr} {F : Addr → Prop} {H : Hp}
mutual
theorem Rep.dp : ∀ {v : V} {d : D}, Rep K w F H v d → d.plain = true → Dp K H v d.py
  | _, _, .non, _ => by simp only [D.py]; exact .non
  | _, _, .bl b, _ => by simp only [D.py]; exact .bl b
  | _, _, .int i, _ => by simp only [D.py]; exact .int i
  | _, _, .str s, _ => by simp only [D.py]; exact .str s
  | _, _, .tup h r, p => by simp only [D.py]; exact .tup h.seq (Reps.dp r (by simpa only [D.plain] using p))
  | _, _, .lst f h r, p => by simp only [D.py]; exact .lst (SqL.of h) (Reps.dp r (by simpa only [D.plain] using p))
  | _, _, .well, p => by simp [D.plain] at p
  | _, _, .raw _, p => by simp [D.plain] at p
  | _, _, .exc0, p => by simp [D.plain] at p
  | _, _, .exc1 _ _ _, p => by simp [D.plain] at p
  | _, _, .err0 _ _, p => by simp [D.plain] at p
  | _, _, .err1 _ _ _ _ _, p => by simp [D.plain] at p
  | _, _, .dic _ _ _ _ _ _, p => by simp [D.plain] at p
  | _, _, .fn _ _, p => by simp [D.plain] at p
  | _, _, .pf _, p => by simp [D.plain] at p
theorem Reps.dp : ∀ {vs : List V} {ds : List D}, Reps K w F H vs ds → D.plains ds = true → DpAll K H vs (D.pys ds)
  | _, _, .nil, _ => by simp only [D.pys]; exact .nil
  | _, _, .cons r t, p => by
    simp only [D.plains, Bool.and_eq_true] at p
    simp only [D.pys]
    exact .cons (Rep.dp r p.1) (Reps.dp t p.2)
end
end
section
variable {X : Cx}
def rEqP (K : PySem.W.Frag) (g : Bool → Bool) : R2 := fun x y H Q => ∃ d e, Dp K H x d ∧ Dp K H y e ∧ d.canLay0 = true ∧ e.canLay0 = true ∧ min d.depth e.depth ≤ 64 ∧ Q (.bl (g (PyData.eqv d e))) H
/-- two texts -/
def rStr2 (g : Bool → Bool) : R2 := fun x y H Q => ∃ s t, x = .str s ∧ y = .str t ∧ Q (.bl (g (decide (s = t)))) H
def rEqS (K : PySem.W.Frag) (g : Bool → Bool) : R2 := fun x y H Q => rStr2 g x y H Q ∨ rEqP K g x y H Q
theorem str_dec {s t : Str} : decide (V.str s = V.str t) = decide (s = t) := by
  by_cases e : s = t
  · subst e; simp
  · rw [decide_eq_false e, decide_eq_false fun z => e (V.str.inj z)]
theorem op_eqS2 : OpR X (compareOp .Eq) (rStr2 id) := fun pins s σ H x y v u Q I rx ry ⟨a, b, e1, e2, q⟩ => by
  subst e1 e2
  exact op_eq pins s σ H _ _ v u Q I rx ry ⟨by first | rfl | simp [scal], by rw [str_dec]; exact q⟩
theorem op_neS2 : OpR X (compareOp .NotEq) (rStr2 not) := fun pins s σ H x y v u Q I rx ry ⟨a, b, e1, e2, q⟩ => by
  subst e1 e2
  exact op_ne pins s σ H _ _ v u Q I rx ry ⟨by first | rfl | simp [scal], by rw [str_dec]; exact q⟩
theorem or_eq (hu : X.A.units + 64 < cLine) : OpR X (compareOp .Eq) (rEqS X.K id) := by
  refine OpR.or op_eqS2 ?_
  intro pins s σ H x y v u Q I rx ry h
  obtain ⟨d, e, hd, he, sd, se, hm, q⟩ := h
  obtain ⟨as, r1⟩ := Dp.reads I d x v hd rx
  obtain ⟨bs, r2⟩ := Dp.reads I e y u he ry
  exact SeqAt.compareEq_reads r1 r2 sd se (by omega) ⟨.bl _, H, I, rfl, q⟩
theorem or_ne (hu : X.A.units + 64 < cLine) : OpR X (compareOp .NotEq) (rEqS X.K not) := by
  refine OpR.or op_neS2 ?_
  intro pins s σ H x y v u Q I rx ry h
  obtain ⟨d, e, hd, he, sd, se, hm, q⟩ := h
  obtain ⟨as, r1⟩ := Dp.reads I d x v hd rx
  obtain ⟨bs, r2⟩ := Dp.reads I e y u he ry
  exact SeqAt.compareNe_reads r1 r2 sd se (by omega) ⟨.bl _, H, I, rfl, q⟩
/-- two data compared: True is 1 -/
def opEqG (g : Bool → Bool) (a b : D) : T D := match a, b with
  | .str s, .str t => .ok (.bl (g (decide (s = t))))
  | a, b => if a.plain = true ∧ b.plain = true ∧ min a.py.depth b.py.depth ≤ 64 then .ok (.bl (g (PyData.eqv a.py b.py))) else .fail
def opEq : D → D → T D := opEqG id
def opNe : D → D → T D := opEqG not
theorem ok_eqG {g : Bool → Bool} : OpOk X.K (rEqS X.K g) (opEqG g) := fun w F H n x y dx dy Q E b rx ry h => by
  unfold opEqG at h
  split at h
  · cases rx
    cases ry
    exact .inl ⟨_, _, rfl, rfl, h F H _ .refl b (.bl _)⟩
  · split at h
    · rename_i hc
      exact .inr ⟨_, _, rx.dp hc.1, ry.dp hc.2.1, D.canLay _ hc.1, D.canLay _ hc.2.1, hc.2.2, h F H _ .refl b (.bl _)⟩
    · exact h.elim
theorem ok_eq : OpOk X.K (rEqS X.K id) opEq := ok_eqG
theorem ok_ne : OpOk X.K (rEqS X.K not) opNe := ok_eqG
/-- is None -/
def D.isNon : D → Bool
  | .non => true
  | _ => false
def opIs (g : Bool → Bool) (a b : D) : T D := match b with
  | .non => .ok (.bl (g a.isNon))
  | _ => .fail
theorem Rep.isNon {K : PySem.W.Frag} {w : Addr} {F : Addr → Prop} {H : Hp} {v : V} {d : D} (r : Rep K w F H v d) : decide (v = .non) = d.isNon := by
  cases r <;> simp [D.isNon]
theorem ok_is : OpOk X.K (fun x y H Q => y = .non ∧ Q (.bl (decide (x = .non))) H) (opIs id) := fun w F H n x y dx dy Q E b rx ry h => by
  cases ry with
  | non => exact ⟨rfl, by rw [rx.isNon]; exact h F H _ .refl b (.bl _)⟩
  | _ => exact h.elim
theorem ok_isnot : OpOk X.K (fun x y H Q => y = .non ∧ Q (.bl (!decide (x = .non))) H) (opIs not) := fun w F H n x y dx dy Q E b rx ry h => by
  cases ry with
  | non => exact ⟨rfl, by rw [rx.isNon]; exact h F H _ .refl b (.bl _)⟩
  | _ => exact h.elim
end
/-! ## sequences: len, items, slices, tuple(), list() -/
section
variable {X : Cx} {W : WX}
theorem arg1 {te : TE} {σ : St} {H : Hp} {R : List V → Hp → Prop} (h : te σ H fun x H1 => R [x] H1) : tCons te tNil σ H R := h
theorem SqAt.or {K : PySem.W.Frag} {w : Addr} {F : Addr → Prop} {H : Hp} {a : Addr} {vs : List V} {q : Sq} (h : SqAt K w F H a vs q) : SqL K H a vs ∨ SqT K H a vs := by
  cases q with
  | t xs => exact .inr (TupAt.seq h)
  | l xs => exact .inl (SqL.of h.2)
def dLen (f : DEnv → T Sq) : DEnv → T D := fun ρ => (f ρ).bind fun s => .ok (.int s.xs.length)
theorem de_len {a : Expr} {f : DEnv → T Sq} {p pos : Pos} (hg : Gl X "len") (hm : X.mg "len" = none) (h : PE X a (tS X.K X.mg W f)) (he : starEach (a :: []) X.env = (false, eval a X.env) :: starEach [] X.env := by rfl) (hpl : (backTo pos (starEach [] X.env)).any (·.1) = false := by rfl) :
    PE X (.Call (.Name "len" p) [a] [] pos) (tD X.K X.mg W (dLen f)) :=
  PE.of (pe_callB call_len_seq hg hm PySem.boot_len (pa_cons h pa_nil he) (he := he) (hpl := hpl)) fun σ H Q ⟨w, F, ρ, n, c, q⟩ => arg1 <|
    tS.go c (T.wp_bind _ _ |>.mp q) (fun _ _ h => h) fun s m q1 F1 H1 a vs s1 c1 hs r => ⟨a, vs, rfl, hs.or, by rw [r.length]; exact q1 F1 H1 _ s1 c1.toBase (.int _)⟩
def opIx (s : Sq) (i : D) : T D := match i with
  | .int i => match atI s.xs i with
    | some d => .ok d
    | none => .fail
  | _ => .fail
def dIx (f : DEnv → T Sq) (g : DEnv → T D) : DEnv → T D := fun ρ => (f ρ).bind fun s => (g ρ).bind fun i => opIx s i
theorem Reps.atI {K : PySem.W.Frag} {w : Addr} {F : Addr → Prop} {H : Hp} {vs : List V} {ds : List D} {i : Int} {d : D} (r : Reps K w F H vs ds) (h : L2.atI ds i = some d) : ∃ v, L2.atI vs i = some v ∧ Rep K w F H v d := by
  unfold L2.atI at h ⊢
  rw [r.length]
  cases e : ixN ds.length i with
  | none => rw [e] at h; cases h
  | some j =>
    rw [e] at h
    exact r.get h
def rIx2 (K : PySem.W.Frag) : R2 := fun x y H Q => rIxL K x y H Q ∨ rIxT K x y H Q
theorem de_ix {a b : Expr} {f : DEnv → T Sq} {g : DEnv → T D} {pos : Pos} (ha : PE X a (tS X.K X.mg W f)) (hb : PE X b (tD X.K X.mg W g)) (hs : PlainIx b := by exact fun _ _ => rfl) : PE X (.Subscript a b pos) (tD X.K X.mg W (dIx f g)) :=
  PE.of (pe_ix (r := rIx2 X.K) (IxR.or ix_list ix_tup) ha hb hs) fun σ H Q ⟨w, F, ρ, n, c, q⟩ =>
    tS.go c (T.wp_bind _ _ |>.mp q) (fun _ _ h => h) fun s m q1 F1 H1 a vs s1 c1 hs r => tD.go c1 (T.wp_bind _ _ |>.mp q1) (fun _ _ h => h.back s1) fun i m2 q2 F2 H2 v s2 c2 r2 => by
      cases r2 with
      | int i =>
        unfold opIx at q2
        dsimp only at q2
        split at q2
        · rename_i d hd
          obtain ⟨v, h1, h2⟩ := (r.step s2 c1.toBase).atI hd
          have hz := (hs.step s2 c1.toBase).or
          have q3 := q2 F2 H2 v (s1.trans s2) c2.toBase h2
          rcases hz with hz | hz
          · exact .inl ⟨a, vs, i, v, rfl, rfl, hz, h1, q3⟩
          · exact .inr ⟨a, vs, i, v, rfl, rfl, hz, h1, q3⟩
        · exact q2.elim
      | _ => exact q2.elim
/-- tuple(s) -/
def dTupOf (f : DEnv → T Sq) : DEnv → T D := fun ρ => (f ρ).bind fun s => if s.xs.length ≤ sizeLine then .ok (.tup s.xs) else .fail
theorem de_tupOf {a : Expr} {f : DEnv → T Sq} {p pos : Pos} (hg : Gl X "tuple") (hm : X.mg "tuple" = none) (h : PE X a (tS X.K X.mg W f)) (he : starEach (a :: []) X.env = (false, eval a X.env) :: starEach [] X.env := by rfl) (hpl : (backTo pos (starEach [] X.env)).any (·.1) = false := by rfl) :
    PE X (.Call (.Name "tuple" p) [a] [] pos) (tD X.K X.mg W (dTupOf f)) :=
  PE.of (pe_callTy call_tuple_of hg hm (by decide +kernel) (pa_cons h pa_nil he) (he := he) (hpl := hpl)) fun σ H Q ⟨w, F, ρ, n, c, q⟩ => arg1 <|
    tS.go c (T.wp_bind _ _ |>.mp q) (fun _ _ h => h) fun s m q1 F1 H1 a vs s1 c1 hs r => by
      split at q1
      · cases s with
        | t xs => exact ⟨a, vs, rfl, .inr ⟨TupAt.seq hs, q1 F1 H1 _ s1 c1.toBase (.tup hs r)⟩⟩
        | l xs =>
          refine ⟨a, vs, rfl, .inl ⟨SqL.of hs.2, fun p hp => ?_⟩⟩
          obtain ⟨s2, b2, r2⟩ := tup_new c1.toBase r hp
          exact q1 _ _ _ (s1.trans s2) b2 r2
      · exact q1.elim
/-- list(s) -/
def dListOf (f : DEnv → T Sq) : DEnv → T (List D) := fun ρ => (f ρ).bind fun s => .ok s.xs
theorem dn_new {K : PySem.W.Frag} {mg : Str → Option Value} {w : Addr} {F : Addr → Prop} {H : Hp} {n : Nat} {vs : List V} {ds : List D} {p : Addr} (b : Base w F H n) (r : Reps K w F H vs ds) (hp : H p = none) :
    StepE w F H F (upd H p (.lst vs)) ∧ Base w F (upd H p (.lst vs)) n ∧ ¬ F p ∧ Reps K w F (upd H p (.lst vs)) vs ds :=
  have s := StepE.layOwn (w := w) (F := F) (o := .lst vs) hp
  ⟨s, b.layOwn hp, b.pnf hp, r.step s b⟩
theorem dn_listOf {a : Expr} {f : DEnv → T Sq} {p pos : Pos} (hg : Gl X "list") (hm : X.mg "list" = none) (h : PE X a (tS X.K X.mg W f)) (he : starEach (a :: []) X.env = (false, eval a X.env) :: starEach [] X.env := by rfl) (hpl : (backTo pos (starEach [] X.env)).any (·.1) = false := by rfl) :
    PE X (.Call (.Name "list" p) [a] [] pos) (tN X.K X.mg W (dListOf f)) :=
  PE.of (pe_callTy call_list_of hg hm (by decide +kernel) (pa_cons h pa_nil he) (he := he) (hpl := hpl)) fun σ H Q ⟨w, F, ρ, n, c, q⟩ => arg1 <|
    tS.go c (T.wp_bind _ _ |>.mp q) (fun _ _ h => h) fun s m q1 F1 H1 a vs s1 c1 hs r => ⟨a, vs, rfl, hs.or, fun p hp => by
      obtain ⟨s2, b2, nf, r2⟩ := dn_new (mg := X.mg) c1.toBase r hp
      exact q1 F1 _ p vs (s1.trans s2) b2 (s1.dom p hp) nf upd_same r2⟩
/-- l + m of lists -/
def dCat (f g : DEnv → T Sq) : DEnv → T (List D) := fun ρ => (f ρ).bind fun s => (g ρ).bind fun t => match s, t with
  | .l xs, .l ys => if xs.length + ys.length ≤ sizeLine then .ok (xs ++ ys) else .fail
  | _, _ => .fail
theorem dn_cat {a b : Expr} {f g : DEnv → T Sq} {pos : Pos} (ha : PE X a (tS X.K X.mg W f)) (hb : PE X b (tS X.K X.mg W g)) : PE X (.BinOp a .Add b pos) (tN X.K X.mg W (dCat f g)) :=
  PE.of (pe_op op_cat ha hb) fun σ H Q ⟨w, F, ρ, n, c, q⟩ =>
    tS.go c (T.wp_bind _ _ |>.mp q) (fun _ _ h => h) fun s m q1 F1 H1 a vs s1 c1 hs r => tS.go c1 (T.wp_bind _ _ |>.mp q1) (fun _ _ h => h.back s1) fun t m2 q2 F2 H2 b us s2 c2 ht r2 => by
      have hs' := hs.step s2 c1.toBase
      have r' := r.step s2 c1.toBase
      cases s with
      | t xs => exact q2.elim
      | l xs =>
        cases t with
        | t ys => exact q2.elim
        | l ys =>
          dsimp only at q2
          split at q2
          · rename_i hz
            refine ⟨a, b, vs, us, rfl, rfl, hs'.2, ht.2, by rw [r.length, r2.length]; exact hz, fun p hp => ?_⟩
            obtain ⟨s3, b3, nf, r3⟩ := dn_new (mg := X.mg) c2.toBase (r'.append r2) hp
            exact q2 F2 _ p _ ((s1.trans s2).trans s3) b3 (s1.dom p (s2.dom p hp)) nf upd_same r3
          · exact q2.elim
/-- parts of a slice -/
def tDO (K : PySem.W.Frag) (mg : Str → Option Value) (W : WX) (f : DEnv → T (Option Int)) : TO := fun σ H Q => ∃ w F ρ n, Cur K w F H σ ρ n ∧ (f ρ).wp (fun b m => ∀ F' H', StepE w F H F' H' → Base w F' H' m → Q b H') (PostX K mg w F H fun c dd H' => W c dd σ H') n
def dNoP : DEnv → T (Option Int) := fun _ => .ok none
def dP (f : DEnv → T D) : DEnv → T (Option Int) := fun ρ => (f ρ).bind fun d => match d with
  | .int i => .ok (some i)
  | _ => .fail
theorem PO.of {X : Cx} {e : Option Expr} {t t' : TO} (h : PO X e t) (k : ∀ σ H Q, t' σ H Q → t σ H Q) : PO X e t' := by
  constructor
  intro pins s σ H Q I q
  exact h.run pins s σ H Q I (k σ H Q q)
theorem do_none : PO X none (tDO X.K X.mg W dNoP) := PO.of po_none fun σ H Q ⟨w, F, ρ, n, c, q⟩ => q F H .refl c.toBase
theorem do_some {e : Expr} {f : DEnv → T D} (h : PE X e (tD X.K X.mg W f)) : PO X (some e) (tDO X.K X.mg W (dP f)) := PO.of (po_some h) fun σ H Q ⟨w, F, ρ, n, c, q⟩ =>
  tD.go c (T.wp_bind _ _ |>.mp q) (fun _ _ h => h) fun d m q1 F1 H1 v s1 c1 r => by
    cases r with
    | int i => exact ⟨i, rfl, q1 F1 H1 s1 c1.toBase⟩
    | _ => exact q1.elim
def cutD (xs : List D) (lo hi : Option Int) : List D := (xs.drop (HT.sIx xs.length 0 lo)).take (HT.sIx xs.length xs.length hi - HT.sIx xs.length 0 lo)
theorem Reps.cut {K : PySem.W.Frag} {w : Addr} {F : Addr → Prop} {H : Hp} {vs : List V} {ds : List D} {lo hi : Option Int} (r : Reps K w F H vs ds) : Reps K w F H (cutV vs lo hi) (cutD ds lo hi) := by
  unfold cutV cutD
  rw [r.length]
  exact (r.drop _).take _
/-- t[lo:hi] of a tuple -/
def dSlT (f : DEnv → T Sq) (lo hi : DEnv → T (Option Int)) : DEnv → T D := fun ρ => (f ρ).bind fun s => (lo ρ).bind fun l => (hi ρ).bind fun h => match s with
  | .t xs => .ok (.tup (cutD xs l h))
  | .l _ => .fail
theorem tDO.go {f : DEnv → T (Option Int)} {σ : St} {H : Hp} {Q : Option Int → Hp → Prop} {w : Addr} {F : Addr → Prop} {ρ : DEnv} {n : Nat} {E : Exc → Nat → Prop} {R : Option Int → Nat → Prop} (c : Cur X.K w F H σ ρ n) (h : (f ρ).wp R E n)
    (hE : ∀ e m, E e m → PostX X.K X.mg w F H (fun c dd H' => W c dd σ H') e m)
    (hR : ∀ b m, R b m → ∀ F' H', StepE w F H F' H' → Cur X.K w F' H' σ ρ m → Q b H') : tDO X.K X.mg W f σ H Q :=
  ⟨w, F, ρ, n, c, T.wp_mono (fun d m r F' H' s b => hR d m r F' H' s (c.step s b)) hE h⟩
theorem de_slT {e : Expr} {lo hi : Option Expr} {f : DEnv → T Sq} {fl fh : DEnv → T (Option Int)} {p2 pos : Pos} (h : PE X e (tS X.K X.mg W f)) (hl : PO X lo (tDO X.K X.mg W fl)) (hh : PO X hi (tDO X.K X.mg W fh)) :
    PE X (.Subscript e (.Slice lo hi none p2) pos) (tD X.K X.mg W (dSlT f fl fh)) := PE.of (pe_slice sl_tupA h hl hh) fun σ H Q ⟨w, F, ρ, n, c, q⟩ =>
  tS.go c (T.wp_bind _ _ |>.mp q) (fun _ _ h => h) fun s m q1 F1 H1 a vs s1 c1 hs r => tDO.go c1 (T.wp_bind _ _ |>.mp q1) (fun _ _ h => h.back s1) fun l m2 q2 F2 H2 s2 c2 =>
    tDO.go c2 (T.wp_bind _ _ |>.mp q2) (fun _ _ h => h.back (s1.trans s2)) fun u m3 q3 F3 H3 s3 c3 => by
      cases s with
      | l xs => exact q3.elim
      | t xs =>
        have hs' := (hs.step s2 c1.toBase).step s3 c2.toBase
        have r' := (r.step s2 c1.toBase).step s3 c2.toBase
        refine ⟨a, vs, rfl, TupAt.seq hs', fun hw => ?_, fun _ p hp => ?_⟩
        · refine q3 F3 H3 _ ((s1.trans s2).trans s3) c3.toBase (.tup hs' ?_)
          have e : cutD xs l u = xs := by
            have hn : vs.length = xs.length := r.length
            rw [hn] at hw
            unfold cutD
            rw [hw.1, hw.2, Nat.sub_zero, List.drop_zero, List.take_length]
          rw [e]
          exact r'
        · obtain ⟨s4, b4, r4⟩ := tup_new c3.toBase (Reps.cut (lo := l) (hi := u) r') hp
          exact q3 _ _ _ (((s1.trans s2).trans s3).trans s4) b4 r4
/-- l[lo:hi] of a list: a new one -/
def dSlL (f : DEnv → T Sq) (lo hi : DEnv → T (Option Int)) : DEnv → T (List D) := fun ρ => (f ρ).bind fun s => (lo ρ).bind fun l => (hi ρ).bind fun h => match s with
  | .l xs => .ok (cutD xs l h)
  | .t _ => .fail
theorem dn_slL {e : Expr} {lo hi : Option Expr} {f : DEnv → T Sq} {fl fh : DEnv → T (Option Int)} {p2 pos : Pos} (h : PE X e (tS X.K X.mg W f)) (hl : PO X lo (tDO X.K X.mg W fl)) (hh : PO X hi (tDO X.K X.mg W fh)) :
    PE X (.Subscript e (.Slice lo hi none p2) pos) (tN X.K X.mg W (dSlL f fl fh)) := PE.of (pe_slice sl_list h hl hh) fun σ H Q ⟨w, F, ρ, n, c, q⟩ =>
  tS.go c (T.wp_bind _ _ |>.mp q) (fun _ _ h => h) fun s m q1 F1 H1 a vs s1 c1 hs r => tDO.go c1 (T.wp_bind _ _ |>.mp q1) (fun _ _ h => h.back s1) fun l m2 q2 F2 H2 s2 c2 =>
    tDO.go c2 (T.wp_bind _ _ |>.mp q2) (fun _ _ h => h.back (s1.trans s2)) fun u m3 q3 F3 H3 s3 c3 => by
      cases s with
      | t xs => exact q3.elim
      | l xs =>
        have hs' := (hs.step s2 c1.toBase).step s3 c2.toBase
        have r' := (r.step s2 c1.toBase).step s3 c2.toBase
        refine ⟨a, vs, rfl, SqL.of hs'.2, fun p hp => ?_⟩
        obtain ⟨s4, b4, nf, r4⟩ := dn_new (mg := X.mg) c3.toBase (Reps.cut (lo := l) (hi := u) r') hp
        exact q3 F3 _ p _ (((s1.trans s2).trans s3).trans s4) b4 (s1.dom p (s2.dom p (s3.dom p hp))) nf upd_same r4
/-! ### all, any over a list of truths -/
def asBools : List D → Option (List Bool)
  | [] => some []
  | .bl b :: r => (asBools r).map (b :: ·)
  | _ :: _ => none
theorem Reps.bools {K : PySem.W.Frag} {w : Addr} {F : Addr → Prop} {H : Hp} : ∀ {ds : List D} {vs : List V} {bs : List Bool}, Reps K w F H vs ds → asBools ds = some bs → vs = bs.map V.bl
  | [], _, _, .nil, h => by cases h; rfl
  | .bl b :: r, _, bs, .cons q t, h => by
    cases q
    simp only [asBools] at h
    cases e : asBools r with
    | none => rw [e] at h; cases h
    | some cs =>
      rw [e] at h
      cases h
      rw [Reps.bools t e]
      rfl
  | .non :: _, _, _, _, h => by cases h
  | .int _ :: _, _, _, _, h => by cases h
  | .str _ :: _, _, _, _, h => by cases h
  | .tup _ :: _, _, _, _, h => by cases h
  | .lst _ :: _, _, _, _, h => by cases h
  | .well :: _, _, _, _, h => by cases h
  | .raw _ :: _, _, _, _, h => by cases h
  | .exc _ _ _ _ _ :: _, _, _, _, h => by cases h
  | .err _ _ _ :: _, _, _, _, h => by cases h
  | .dic _ _ :: _, _, _, _, h => by cases h
  | .fn _ _ :: _, _, _, _, h => by cases h
  | .pf _ _ :: _, _, _, _, h => by cases h
def dQuant (g : List Bool → Bool) (f : DEnv → T Sq) : DEnv → T D := fun ρ => (f ρ).bind fun s => match s with
  | .l xs => match asBools xs with
    | some bs => .ok (.bl (g bs))
    | none => .fail
  | .t _ => .fail
theorem quant {σ : St} {H : Hp} {Q : VK} {f : DEnv → T Sq} {g : List Bool → Bool} (h : tD X.K X.mg W (dQuant g f) σ H Q) :
    tCons (tS X.K X.mg W f) tNil σ H fun vs H' => ∃ (a : Addr) (bs : List Bool), vs = [V.ref a] ∧ SqL X.K H' a (bs.map V.bl) ∧ Q (.bl (g bs)) H' := by
  obtain ⟨w, F, ρ, n, c, q⟩ := h
  refine tS.go c (T.wp_bind _ _ |>.mp q) (fun _ _ h => h) fun s m q1 F1 H1 a vs s1 c1 hs r => ?_
  cases s with
  | t xs => exact q1.elim
  | l xs =>
    dsimp only at q1
    split at q1
    · rename_i bs hb
      have e : vs = bs.map V.bl := Reps.bools r hb
      exact ⟨a, bs, rfl, by rw [← e]; exact SqL.of hs.2, q1 F1 H1 _ s1 c1.toBase (.bl _)⟩
    · exact q1.elim
theorem de_all {a : Expr} {f : DEnv → T Sq} {p pos : Pos} (hc : X.calm = true) (hg : Gl X "all") (hm : X.mg "all" = none) (h : PE X a (tS X.K X.mg W f)) (he : starEach (a :: []) X.env = (false, eval a X.env) :: starEach [] X.env := by rfl) (hpl : (backTo pos (starEach [] X.env)).any (·.1) = false := by rfl) :
    PE X (.Call (.Name "all" p) [a] [] pos) (tD X.K X.mg W (dQuant (·.all id) f)) :=
  PE.of (pe_callB (cr_all hc) hg hm (by decide +kernel) (pa_cons h pa_nil he) (he := he) (hpl := hpl)) fun σ H Q q => quant q
theorem de_any {a : Expr} {f : DEnv → T Sq} {p pos : Pos} (hc : X.calm = true) (hg : Gl X "any") (hm : X.mg "any" = none) (h : PE X a (tS X.K X.mg W f)) (he : starEach (a :: []) X.env = (false, eval a X.env) :: starEach [] X.env := by rfl) (hpl : (backTo pos (starEach [] X.env)).any (·.1) = false := by rfl) :
    PE X (.Call (.Name "any" p) [a] [] pos) (tD X.K X.mg W (dQuant (·.any id) f)) :=
  PE.of (pe_callB (cr_any hc) hg hm (by decide +kernel) (pa_cons h pa_nil he) (he := he) (hpl := hpl)) fun σ H Q q => quant q
/-! ### isinstance of a built-in class -/
def D.ty : D → String
  | .non => "NoneType"
  | .bl _ => "bool"
  | .int _ => "int"
  | .str _ => "str"
  | .tup _ => "tuple"
  | .lst _ => "list"
  | .well => "list"
  | .raw _ => "list"
  | .exc _ _ _ _ _ => "list"
  | .err _ _ _ => "list"
  | .dic _ _ => "list"
  | .fn _ _ => "list"
  | .pf _ _ => "list"
def D.known : D → Bool
  | .raw _ => false
  | .exc _ _ _ _ _ => false
  | .err _ _ _ => false
  | .dic _ _ => false
  | .fn _ _ => false
  | .pf _ _ => false
  | _ => true
theorem Rep.tyX {K : PySem.W.Frag} {w : Addr} {F : Addr → Prop} {H : Hp} {n : Nat} (b : Base w F H n) {v : V} {d : D} (r : Rep K w F H v d) (kn : d.known = true) : TyX K H v (.type d.ty) := by
  cases r with
  | raw a => cases kn
  | exc0 => cases kn
  | exc1 _ _ _ => cases kn
  | err0 _ _ => cases kn
  | err1 _ _ _ _ _ => cases kn
  | dic _ _ _ _ _ _ => cases kn
  | fn _ _ => cases kn
  | pf _ => cases kn
  | non => exact .base .non
  | bl x => exact .base (.bl x)
  | int x => exact .base (.int x)
  | str x => exact .base (.str x)
  | tup h _ =>
    rcases h with ⟨_, h⟩ | ⟨o, its, n, h1, h2, _⟩
    · exact .base (.tup h)
    · exact .kTuple h1 h2
  | lst _ h _ => exact .base (.lst h)
  | well =>
    obtain ⟨x, y, z, h, _⟩ := b.well
    exact .base (.lst h)
def D.isA (Ty : String) (d : D) : Bool := (kitB d.ty Ty).getD false
def dIsi (Ty : String) (f : DEnv → T D) : DEnv → T D := fun ρ => (f ρ).bind fun d => if d.known then .ok (.bl (d.isA Ty)) else .fail
theorem kit_some (Ty : String) (h : (["NoneType", "bool", "int", "str", "tuple", "list"].all fun t => (kitB t Ty).isSome) = true) (d : D) : kitB d.ty Ty = some (d.isA Ty) := by
  have k : (kitB d.ty Ty).isSome = true := List.all_eq_true.mp h d.ty (by cases d <;> simp [D.ty])
  obtain ⟨b, e⟩ := Option.isSome_iff_exists.mp k
  unfold D.isA
  rw [e]
  rfl
theorem de_isi {a : Expr} {f : DEnv → T D} {Tn : Str} {Ts : String} {p p2 pos : Pos} (hg : Gl X "isinstance") (hm : X.mg "isinstance" = none) (hgT : Gl X Tn) (hmT : X.mg Tn = none) (hv : bootBuiltins Tn = some (.type Ts)) (hn : Tn ≠ "__name__") (hd : (Tn == ("__debug__" : Str)) = false)
    (hk : (["NoneType", "bool", "int", "str", "tuple", "list"].all fun t => (kitB t Ts).isSome) = true) (h : PE X a (tD X.K X.mg W f))
    (he : starEach (a :: [.Name Tn p2]) X.env = (false, eval a X.env) :: starEach [.Name Tn p2] X.env := by rfl) (he2 : starEach ((.Name Tn p2) :: []) X.env = (false, eval (.Name Tn p2) X.env) :: starEach [] X.env := by rfl) (hpl : (backTo pos (starEach [.Name Tn p2] X.env)).any (·.1) = false := by rfl) :
    PE X (.Call (.Name "isinstance" p) [a, .Name Tn p2] [] pos) (tD X.K X.mg W (dIsi Ts f)) :=
  PE.of (pe_callB call_isi hg hm (by decide +kernel) (pa_cons h (pa_cons (pe_bltn (v := .ty Ts) hgT hmT hv rfl hn hd) pa_nil he2) he) (he := he) (hpl := hpl)) fun σ H Q ⟨w, F, ρ, n, c, q⟩ => by
    show tD X.K X.mg W f σ H _
    refine tD.go c (T.wp_bind _ _ |>.mp q) (fun _ _ h => h) fun d m q1 F1 H1 v s1 c1 r => ?_
    split at q1
    · rename_i kn
      exact ⟨v, .ty Ts, .type d.ty, .type Ts, d.isA Ts, rfl, .ty Ts, r.tyX c1.toBase kn, kit_ty (kit_some Ts hk d), q1 F1 H1 _ s1 c1.toBase (.bl _)⟩
    · exact q1.elim
end
end AL
namespace AL
open PySem PySem.Spec PyProof.Rows L2
variable [Tb]
open Sem (wp)
open AutoSeq1 (wpAny_loadPart')
/-! ## what loops walk -/
/-! ### enumerate over a tuple -/
theorem enum_of_tuple {ta : Addr} {xs : Array Value} :
    Meets (Builtin.«enumerate.__new__» ⟨[.type "enumerate", .ref ta], []⟩) (fun _ R s => s.heap.IsTuple ta xs ∧
      R (.ok (.ret (.ref (s.heap.push { cls := .type "tuple_iterator", data := .fields #[.ref ta, .int 0 0] }).objs.size)))
        { s with heap := (s.heap.push { cls := .type "tuple_iterator", data := .fields #[.ref ta, .int 0 0] }).push { cls := .type "enumerate", data := .fields #[.none, .bool false, .ref s.heap.objs.size, rawInt 0, .none, .none] } }) := by
  apply Meets.of_wp
  intro prog w A R s h
  obtain ⟨hp, g, d, tk, os⟩ := s
  obtain ⟨ht, h⟩ := h
  have hsub := sub_enumerate
  obtain ⟨ob, hob, hcl, nn, hdt⟩ := id ht
  have it1 : ∀ {A' : Around} {E Q : Value → Shared → Prop}, Q (.ref hp.objs.size) ⟨hp.push { cls := .type "tuple_iterator", data := .fields #[.ref ta, .int 0 0] }, g, d, tk, os⟩ → wpAny (model prog w) A' (pyIter (.ref ta)) Q E ⟨hp, g, d, tk, os⟩ :=
    fun {A' E Q} q => (begins_tuple ta xs).iter prog w A' E ⟨hp, g, d, tk, os⟩ Q ht q
  wp_walk using it1
  refine wpAny_stack_any fun st => wpAny_pure ?_
  split
  · rename_i c _ _ _ _ _
    cases (c == Value.type "enumerate") <;> (wp_walk using it1; exact ⟨_, rfl, h⟩)
  · wp_walk using it1
    exact ⟨_, rfl, h⟩
theorem call_enumT {prog : Program} {w : World} {A : Around} {E : Value → Shared → Prop} {s : Shared} {ta : Addr} {xs : Array Value} {Q : Value → Shared → Prop} (ht : s.heap.IsTuple ta xs)
    (h : ∀ h', IsEnum h' (s.heap.objs.size + 1) s.heap.objs.size 0 .none → h'.IsTupleIter s.heap.objs.size ta 0 → (∀ b o, s.heap.get? b = some o → h'.get? b = some o) → Q (.ref (s.heap.objs.size + 1)) { s with heap := h' }) :
    wpAny (model prog w) A (call (.type "enumerate") [.ref ta]) Q E s := by
  refine callType_new F.called_enumerate (by decide) (F.typeCall_enumerate_1 _) (F.newCall_enumerate_1 _) (fun obj => F.args_object_init_2 obj _) F.entry_enumerate_new enum_of_tuple ⟨ht, ?_⟩
  generalize hI : ({ cls := .type "tuple_iterator", data := .fields #[.ref ta, .int 0 0] } : Obj) = oI
  have fI : oI.isFreed = false := by subst hI; rfl
  have hz : (s.heap.push oI).objs.size = s.heap.objs.size + 1 := Heap.size_push ..
  show _ ∧ _
  rw [hz]
  generalize hE : ({ cls := .type "enumerate", data := .fields #[.none, .bool false, .ref s.heap.objs.size, rawInt 0, .none, .none] } : Obj) = oE
  have fE : oE.isFreed = false := by subst hE; rfl
  have he : ((s.heap.push oI).push oE).get? (s.heap.objs.size + 1) = some oE := by
    have q := Heap.get?_push_size (s.heap.push oI) (o := oE) fE
    rw [hz] at q
    exact q
  subst hE
  have hi : ((s.heap.push oI).push { cls := .type "enumerate", data := .fields #[.none, .bool false, .ref s.heap.objs.size, rawInt 0, .none, .none] }).get? s.heap.objs.size = some oI := Heap.get?_push_of_some _ (Heap.get?_push_size _ fI)
  refine ⟨⟨_, he, rfl⟩, h _ he ?_ fun b o z => Heap.get?_push_of_some _ (Heap.get?_push_of_some _ z)⟩
  subst hI
  exact ⟨_, hi, rfl, rfl⟩
/-- the tuple at a, its items with their numbers in new pairs -/
def ItET (K : PySem.W.Frag) (a : Addr) : It where
  go := fun i H => ∃ xs x, SqT K H a xs ∧ xs[i]? = some x
  yld := fun i H v H' => ∃ T x, v = .ref T ∧ H T = none ∧ H' = upd H T (.tup [.int (i : Nat), x]) ∧ ∀ xs, SqT K H a xs → xs[i]? = some x
  stop := fun i H => ∃ xs, SqT K H a xs ∧ xs.length = i
theorem turn_enumT {P : Program} {w : World} {K : PySem.W.Frag} {elts : List Expr} {kk : Nat} {tpos : Pos} (a e it : Addr) (nea : a ≠ it) :
    Turn P w K (.Tuple elts kk tpos) (ItET K a) [e, it] e (fun i h => (∃ old, IsEnum h e it ((i : Nat) : Int) old) ∧ h.IsTupleIter it a i ∧ e ≠ it) := by
  constructor
  · exact List.mem_cons_self
  · rintro i h ⟨⟨old, he⟩, ⟨o, ho, hc, hd⟩, _⟩ b hb
    rcases List.mem_cons.mp hb with z | hb
    · rw [z]
      exact ⟨_, he, fun v q => nomatch q⟩
    · rw [List.mem_singleton.mp hb]
      exact ⟨o, ho, fun v q => by rw [hd] at q; cases q⟩
  · rintro i h h' ⟨⟨old, he⟩, hi, hne⟩ k
    exact ⟨⟨old, k e List.mem_cons_self _ he⟩, hi.at fun o q => k it (List.mem_cons_of_mem _ List.mem_cons_self) o q, hne⟩
  · intro X hP hw hK hc i pins s σ H E I hf st hg
    subst hP hw hK
    obtain ⟨⟨old, he⟩, hit, hne⟩ := st
    obtain ⟨xs, x, hq, hx⟩ := hg
    obtain ⟨its, rv, p, hz⟩ := I.tuple hq
    obtain ⟨u, hu, ru⟩ := rv.get hx
    have hel : e < s.heap.objs.size := Heap.lt_size he
    have hil : it < s.heap.objs.size := let ⟨_, q, _⟩ := hit; Heap.lt_size q
    have hlen : i < its.toArray.size := by
      rw [List.size_toArray]
      exact (List.getElem?_eq_some_iff.mp hu).1
    have hnea : e ≠ a := by
      intro z
      obtain ⟨o, ho, hc', _⟩ := id p
      rw [← z, show s.heap.get? e = _ from he] at ho
      cases ho
      exact absurd (show Value.type "enumerate" = Value.type "tuple" from hc') (by decide)
    have DT := Draws.tuple (prog := X.prog) (w := X.w) (A := X.A.in1) (show X.A.in1.handled = none from I.ok.hd hc) it a nea its.toArray
    refine wpAny_pyNext_enum_itemD DT he ⟨hit, p⟩ hlen hne (by simp [hne, hnea]) ?_
    intro y h' tk hy ho hst' hT hsz hk
    have ey : u = y := by
      have q : its.toArray[i]? = some u := by simpa using hu
      rw [q] at hy
      exact Option.some.inj hy
    subst ey
    refine ⟨_, rfl, wpAny_letOwnedTupleGo_enum (s := { s with heap := h', toks := tk + 1 }) ho fun h'' he' sb => ?_⟩
    have hT2 : h''.get? s.heap.objs.size = some { cls := .type "tuple", data := .seq #[.int i tk, u] } := (sb.2 _ (Nat.ne_of_gt hel)).trans hT
    have new : ObjOk X.prog X.w (upd H s.heap.objs.size (.tup [.int (i : Nat), x])) h'' s.heap.objs.size (.tup [.int (i : Nat), x]) :=
      ⟨by show 2 ≤ sizeLine; decide, [.int i tk, u], .cons ⟨_, rfl⟩ (.cons ru .nil), ⟨_, hT2, rfl, _, rfl⟩⟩
    have I1 : Inv X pins σ (upd H s.heap.objs.size (.tup [.int (i : Nat), x])) { s with heap := h'', toks := tk + 1 } := by
      refine I.turnedNew (ch := [e, it]) (fun b ob hb q => ?_) hf (Nat.le_refl _) new
      have b1 : b ≠ e := fun z => hb (by simp [z])
      have b2 : b ≠ it := fun z => hb (by simp [z])
      exact (sb.2 b b1).trans (hk b ob b1 b2 q)
    refine ⟨.ref s.heap.objs.size, _, I1, rfl, ⟨_, x, rfl, I.hok.fresh (Nat.le_refl _), rfl, fun ys hy => by rw [I.tuple_inj hy hq]; exact hx⟩, ⟨⟨u, ?_⟩, hst'.1.at fun o q => (sb.2 it (Ne.symm hne)).trans q, hne⟩, fun b hb => ?_⟩
    · rw [show ((i + 1 : Nat) : Int) = (i : Int) + 1 by omega]
      exact he'
    · have hb' : b < s.heap.objs.size := by
        rcases List.mem_cons.mp hb with z | hb
        · rw [z]; exact hel
        · rw [List.mem_singleton.mp hb]; exact hil
      rw [upd_ne (Nat.ne_of_lt hb')]
      exact (hf b hb).1
  · intro X hP hw hK hc i pins s σ H E I hf st hg
    subst hP hw hK
    obtain ⟨⟨old, he⟩, hit, hne⟩ := st
    obtain ⟨xs, hq, hx⟩ := hg
    obtain ⟨its, rv, p, hz⟩ := I.tuple hq
    obtain ⟨f0, f1, f2, f3, f4, f5⟩ := hf it (List.mem_cons_of_mem _ List.mem_cons_self)
    have hl := rv.length
    have DT := Draws.tuple (prog := X.prog) (w := X.w) (A := X.A.in1) (show X.A.in1.handled = none from I.ok.hd hc) it a nea its.toArray
    have hz2 : its.toArray.size = i := by
      rw [List.size_toArray, ← hl, hx]
    refine wpAny_pyNext_enum_endD DT he ?_ fun h' eb => ⟨rfl, I.turned (t' := s.toks) (fun b o hb q => eb b o hb q) f0 f1 f3 f4 f5⟩
    rw [hz2]
    exact ⟨hit, p⟩
  · rintro A i s Q E ⟨⟨_, he⟩, _⟩ h
    exact wpAny_pyIter_enum he h
/-- enumerate of a list or a tuple -/
def iEnumA (K : PySem.W.Frag) (ta : TA) : TI := fun σ H R => ta σ H fun vs H1 => ∃ a xs, vs = [.ref a] ∧ ((SqL K H1 a xs ∧ R (Ite K a) H1) ∨ (SqT K H1 a xs ∧ R (ItET K a) H1))
theorem pi_enumA {X : Cx} {e : Expr} {ta : TA} {p pos tpos : Pos} {elts : List Expr} {kk : Nat} (hg : Gl X "enumerate") (hm : X.mg "enumerate" = none) (ha : PA X [e] ta) (hs : starEach [e] X.env = [(false, eval e X.env)] := by rfl) :
    PI X (.Tuple elts kk tpos) (.Call (.Name "enumerate" p) [e] [] pos) (iEnumA X.K ta) := by
  constructor
  intro pins s σ H R I h
  refine Call_ (ld_blt I hg hm boot_enumerate (PyProof.Rows.callWith_type1 (thn (ha.run pos pins s σ H _ I h) ?_) hs rfl))
  rintro us s1 ⟨vs, H1, I1, r1, a, xs, ex, hq⟩
  subst ex
  obtain ⟨u1, rfl, hu⟩ := vals1 r1
  cases hu
  have ne2 : s1.heap.objs.size + 1 ≠ s1.heap.objs.size := Nat.succ_ne_self _
  have fps : ∀ b ∈ [s1.heap.objs.size + 1, s1.heap.objs.size], FpOk X pins H1 b := fun b hb => by
    have hle : s1.heap.objs.size ≤ b := by
      rcases List.mem_cons.mp hb with z | hb
      · rw [z]; exact Nat.le_add_right _ _
      · rw [List.mem_singleton.mp hb]; exact Nat.le_refl _
    exact I1.fpOk hle (I1.hok.fresh hle)
  rcases hq with ⟨hq, q⟩ | ⟨hq, q⟩
  · obtain ⟨its, rv, p', hz⟩ := I1.list hq
    refine call_enumerate_list p'.isList fun h' he hit hsz hk => wpAny_pyIter_enum he ?_
    exact ⟨_, _, _, _, H1, rfl, I1.kept (t' := s1.toks) hk, turn_enum a (s1.heap.objs.size + 1) s1.heap.objs.size, ⟨⟨.none, he⟩, hit, ne2⟩, fps, q⟩
  · obtain ⟨its, rv, p', hz⟩ := I1.tuple hq
    refine call_enumT (show s1.heap.IsTuple a its.toArray from p') fun h' he hit hk => wpAny_pyIter_enum he ?_
    refine ⟨_, _, _, _, H1, rfl, I1.kept (t' := s1.toks) hk, turn_enumT a (s1.heap.objs.size + 1) s1.heap.objs.size ?_, ⟨⟨.none, he⟩, hit, ne2⟩, fps, q⟩
    obtain ⟨o, ho, _⟩ := id p'
    exact Nat.ne_of_lt (Heap.lt_size ho)
/-- a list or a tuple -/
def iSeq (K : PySem.W.Frag) (tl : TE) : TI := fun σ H R => tl σ H fun x H1 => ∃ a xs, x = .ref a ∧ ((SqL K H1 a xs ∧ R (Itl K a) H1) ∨ (SqT K H1 a xs ∧ R (Itt K a) H1))
theorem pi_seq {X : Cx} {tg l : Expr} {tl : TE} (hl : PE X l tl) : PI X tg l (iSeq X.K tl) := by
  constructor
  intro pins s σ H R I h
  refine thn (hl.run pins s σ H _ I h) ?_
  rintro v s1 ⟨x, H1, I1, r1, a, xs, e, hq⟩
  subst e
  cases r1
  have fps : ∀ b ∈ [s1.heap.objs.size], FpOk X pins H1 b := fun b hb => by
    rw [List.mem_singleton.mp hb]
    exact I1.fpOk (Nat.le_refl _) (I1.hok.fresh (Nat.le_refl _))
  rcases hq with ⟨hq, q⟩ | ⟨hq, q⟩
  · obtain ⟨its, rv, p, hz⟩ := I1.list hq
    refine wpAny_pyIter_list p.isList ?_
    exact ⟨_, _, _, _, H1, rfl, I1.kept (t' := s1.toks) (fun b o e => Heap.get?_push_of_some _ e), turn_list a _, ⟨_, Heap.get?_push_size _ rfl, rfl, rfl⟩, fps, q⟩
  · obtain ⟨its, rv, p, hz⟩ := I1.tuple hq
    refine wpAny_pyIter_tuple (show s1.heap.IsTuple a its.toArray from p) ?_
    exact ⟨_, _, _, _, H1, rfl, I1.kept (t' := s1.toks) (fun b o e => Heap.get?_push_of_some _ e), turn_tuple a _, ⟨_, Heap.get?_push_size _ rfl, rfl, rfl⟩, fps, q⟩
end AL
namespace AL
open PySem PySem.Spec PyProof.Rows L2
noncomputable section
variable [Tb]
/-! ## frames that change -/
section
variable {K : PySem.W.Frag} {w : Addr} {F F2 : Addr → Prop} {H H2 : Hp} {n m : Nat} {σ : St} {ρ : DEnv}
theorem FnW.fz {f c : Addr} {W : Word} {cl : List (Str × Addr)} (sub : ∀ a, F a → F2 a) (kp : ∀ a o, F a → H a = some o → H2 a = some o) (x : FnW F H f W cl c) : FnW F2 H2 f W cl c := ⟨sub _ x.ff, kp _ _ x.ff x.hf, sub _ x.fc, kp _ _ x.fc x.hc⟩
theorem FnC.fz {f c : Addr} {W : Word} {cl : List (Str × Addr)} {vs : List V} (sub : ∀ a, F a → F2 a) (kp : ∀ a o, F a → H a = some o → H2 a = some o) (x : FnC F H f W cl c vs) : FnC F2 H2 f W cl c vs :=
  ⟨x.toFnW.fz sub kp, x.len, fun y a e => by
    obtain ⟨h1, o, v, h2, h3⟩ := x.all y a e
    exact ⟨sub _ h1, o, v, kp _ _ h1 h2, h3⟩, x.inj, fun i y e => by
    obtain ⟨a, h1, h2⟩ := x.has i y e
    refine ⟨a, h1, fun v hv => ?_⟩
    obtain ⟨o, u, h3, h4, h5⟩ := h2 v hv
    exact ⟨o, u, kp _ _ (x.all y a h1).1 h3, h4, h5⟩⟩
mutual
theorem Rep.fz (sub : ∀ a, F a → F2 a) (kp : ∀ a o, F a → H a = some o → H2 a = some o) : ∀ {v : V} {d : D}, Rep K w F H v d → Rep K w F2 H2 v d
  | _, _, .non => .non
  | _, _, .bl x => .bl x
  | _, _, .int x => .int x
  | _, _, .str x => .str x
  | _, _, .tup h r => .tup (h.imp (fun z => ⟨sub _ z.1, kp _ _ z.1 z.2⟩) id) (Reps.fz sub kp r)
  | _, _, .lst f h r => .lst (sub _ f) (kp _ _ f h) (Reps.fz sub kp r)
  | _, _, .well => .well
  | _, _, .raw v => .raw v
  | _, _, .exc0 => .exc0
  | _, _, .exc1 f h r => .exc1 (sub _ f) (kp _ _ f h) (Rep.fz sub kp r)
  | _, _, .err0 f h => .err0 (sub _ f) (kp _ _ f h)
  | _, _, .err1 f g h k r => .err1 (sub _ f) (sub _ g) (kp _ _ f h) (kp _ _ g k) (Rep.fz sub kp r)
  | _, _, .dic f h e l r t => .dic (sub _ f) (kp _ _ f h) e l (Reps.fz sub kp r) (Reps.fz sub kp t)
  | _, _, .fn x r => .fn (x.fz sub kp) (Reps.fz sub kp r)
  | _, _, .pf x => .pf (x.fz sub kp)
theorem Reps.fz (sub : ∀ a, F a → F2 a) (kp : ∀ a o, F a → H a = some o → H2 a = some o) : ∀ {vs : List V} {ds : List D}, Reps K w F H vs ds → Reps K w F2 H2 vs ds
  | _, _, .nil => .nil
  | _, _, .cons r t => .cons (Rep.fz sub kp r) (Reps.fz sub kp t)
end
theorem TupAt.fz {a : Addr} {vs : List V} (sub : ∀ a, F a → F2 a) (kp : ∀ a o, F a → H a = some o → H2 a = some o) (h : TupAt K F H a vs) : TupAt K F2 H2 a vs := h.imp (fun z => ⟨sub _ z.1, kp _ _ z.1 z.2⟩) id
theorem set_get {α : Type} (l : List α) (i j : Nat) (x : α) : (l.set i x)[j]? = if i = j then (if j < l.length then some x else none) else l[j]? := by
  rw [List.getElem?_set]
  split
  · rename_i e
    subst e
    rfl
  · rfl
theorem OwnAt.fz {a : Addr} {s : Slot} (sub : ∀ a, F a → F2 a) (kp : ∀ a o, F a → H a = some o → H2 a = some o) (same : H2 a = H a) (h : OwnAt K w F H a s) : OwnAt K w F2 H2 a s := by
  cases s with
  | no => exact h.elim
  | sh d => exact h.elim
  | own xs =>
    obtain ⟨vs, h1, h2⟩ := h
    exact ⟨vs, by rw [same]; exact h1, h2.fz sub kp⟩
  | dic kvs =>
    obtain ⟨o, ks, vs, h1, h2, h3, h4⟩ := h
    exact ⟨o, ks, vs, by rw [same]; exact h1, h2, h3.fz sub kp, h4.fz sub kp⟩
theorem OwnAt.sub {a : Addr} {s : Slot} (sub : ∀ a, F a → F2 a) (h : OwnAt K w F H a s) : OwnAt K w F2 H a s := h.fz sub (fun _ _ _ z => z) rfl
theorem REnv.setSh (e : REnv K w F H σ ρ) (i : Nat) {v : V} {d : D} (r : Rep K w F H v d) : REnv K w F H (σ.set i (some v)) (ρ.set i (.sh d)) where
  len := by rw [List.length_set, List.length_set, e.len]
  sh := fun j d' h => by
    rw [set_get] at h ⊢
    split at h
    · split at h
      · rename_i h1 h2
        cases h
        rw [if_pos h1, e.len, if_pos h2]
        exact ⟨v, rfl, r⟩
      · cases h
    · rename_i h1
      rw [if_neg h1]
      exact e.sh j d' h
  own := fun j s h ho => by
    rw [set_get] at h ⊢
    split at h
    · split at h
      · cases h; cases ho
      · cases h
    · rename_i h1
      rw [if_neg h1]
      exact e.own j s h ho
  apart := fun j k s t a ne h1 o1 h2 o2 h3 => by
    rw [set_get] at h1 h2 h3 ⊢
    split at h1
    · split at h1
      · cases h1; cases o1
      · cases h1
    · split at h2
      · split at h2
        · cases h2; cases o2
        · cases h2
      · rename_i q1 q2
        rw [if_neg q1] at h3
        rw [if_neg q2]
        exact e.apart j k s t a ne h1 o1 h2 o2 h3
theorem Own.setSh {i : Nat} {v : Option V} {d : D} {a : Addr} (h : Own (σ.set i v) (ρ.set i (.sh d)) a) : Own σ ρ a := by
  obtain ⟨j, s, h1, ho, h2⟩ := h
  rw [set_get] at h1 h2
  split at h1
  · split at h1
    · cases h1; cases ho
    · cases h1
  · rename_i q
    rw [if_neg q] at h2
    exact ⟨j, s, h1, ho, h2⟩
theorem REnv.at_ow (e : REnv K w F H σ ρ) {i : Nat} {s : Slot} (h : ρ[i]? = some s) (ho : s.ow = true) : ∃ a, σ[i]? = some (some (.ref a)) ∧ ¬ F a ∧ a ≠ w ∧ OwnAt K w F H a s := by
  obtain ⟨a, h1, h2, h3, h4⟩ := e.own i s h ho
  refine ⟨a, ?_, h2, h3, h4⟩
  cases q : σ[i]? with
  | none => rw [q] at h1; cases h1
  | some o => rw [q] at h1; exact congrArg some h1
theorem REnv.at_own (e : REnv K w F H σ ρ) {i : Nat} {xs : List D} (h : ρ[i]? = some (.own xs)) : ∃ a vs, σ[i]? = some (some (.ref a)) ∧ ¬ F a ∧ a ≠ w ∧ H a = some (.lst vs) ∧ Reps K w F H vs xs := by
  obtain ⟨a, h1, h2, h3, vs, h4, h5⟩ := e.at_ow h rfl
  exact ⟨a, vs, h1, h2, h3, h4, h5⟩
theorem REnv.own_fz (e : REnv K w F H σ ρ) {a : Addr} (h : Own σ ρ a) : ¬ F a ∧ a ≠ w ∧ ∃ o, H a = some o := by
  obtain ⟨i, s, h1, ho, h2⟩ := h
  obtain ⟨b, q1, q2, q3, q4⟩ := e.at_ow h1 ho
  rw [q1] at h2
  cases h2
  exact ⟨q2, q3, q4.some_⟩
/-- what is frozen stands behind a statement -/
theorem StepS.fz {F' : Addr → Prop} {H' : Hp} {O' : Addr → Prop} (s : StepS w F H (Own σ ρ) F' H' O') (c : Cur K w F H σ ρ n) : ∀ a o, F a → H a = some o → H' a = some o := fun a o f h =>
  s.keep a o (fun z => c.nw (z ▸ f)) (fun q => (c.env.own_fz q).1 f) h (c.nt f h)
/-- a thing of one's own comes into a slot -/
theorem REnv.setOw (e : REnv K w F H σ ρ) (i : Nat) {p : Addr} {s0 : Slot} (nf : ¬ F p) (nw : p ≠ w) (hs : s0.ow = true) (hp : OwnAt K w F H p s0) (no : ¬ Own σ ρ p) : REnv K w F H (σ.set i (some (.ref p))) (ρ.set i s0) where
  len := by rw [List.length_set, List.length_set, e.len]
  sh := fun j d' h => by
    rw [set_get] at h ⊢
    split at h
    · split at h
      · cases h; cases hs
      · cases h
    · rename_i h1
      rw [if_neg h1]
      exact e.sh j d' h
  own := fun j ys h ho => by
    rw [set_get] at h ⊢
    split at h
    · split at h
      · rename_i h1 h2
        cases h
        rw [if_pos h1, e.len, if_pos h2]
        exact ⟨p, rfl, nf, nw, hp⟩
      · cases h
    · rename_i h1
      rw [if_neg h1]
      exact e.own j ys h ho
  apart := fun j k ys zs a ne h1 o1 h2 o2 h3 => by
    rw [set_get] at h1 h2 h3 ⊢
    split at h1
    · rename_i q1
      split at h2
      · rename_i q2
        exact absurd (q1.symm.trans q2) ne
      · rename_i q2
        rw [if_neg q2]
        split at h1
        · rename_i q3
          rw [if_pos q1, e.len, if_pos q3] at h3
          cases h3
          exact fun z => no ⟨k, zs, h2, o2, z⟩
        · cases h1
    · rename_i q1
      rw [if_neg q1] at h3
      split at h2
      · rename_i q2
        split at h2
        · rename_i q3
          rw [if_pos q2, e.len, if_pos q3]
          intro z
          cases z
          exact no ⟨j, ys, h1, o1, h3⟩
        · cases h2
      · rename_i q2
        rw [if_neg q2]
        exact e.apart j k ys zs a ne h1 o1 h2 o2 h3
theorem REnv.setOwn (e : REnv K w F H σ ρ) (i : Nat) {p : Addr} {vs : List V} {xs : List D} (nf : ¬ F p) (nw : p ≠ w) (hp : H p = some (.lst vs)) (r : Reps K w F H vs xs) (no : ¬ Own σ ρ p) : REnv K w F H (σ.set i (some (.ref p))) (ρ.set i (.own xs)) :=
  e.setOw i nf nw rfl ⟨vs, hp, r⟩ no
theorem Own.setOw {i : Nat} {p : Addr} {s0 : Slot} {a : Addr} (h : Own (σ.set i (some (.ref p))) (ρ.set i s0) a) : Own σ ρ a ∨ a = p := by
  obtain ⟨j, ys, h1, ho, h2⟩ := h
  rw [set_get] at h1 h2
  split at h1
  · rename_i q
    rw [if_pos q] at h2
    split at h2
    · cases h2
      exact .inr rfl
    · cases h2
  · rename_i q
    rw [if_neg q] at h2
    exact .inl ⟨j, ys, h1, ho, h2⟩
theorem Own.setOwn {i : Nat} {p : Addr} {xs : List D} {a : Addr} (h : Own (σ.set i (some (.ref p))) (ρ.set i (.own xs)) a) : Own σ ρ a ∨ a = p := h.setOw
/-- a thing of one's own changes -/
theorem REnv.putOw (e : REnv K w F H σ ρ) {i : Nat} {a : Addr} {s t : Slot} {ob : HO} (hi : ρ[i]? = some s) (ho : s.ow = true) (ht : t.ow = true) (ha : σ[i]? = some (some (.ref a))) (r : OwnAt K w F (upd H a ob) a t) : REnv K w F (upd H a ob) σ (ρ.set i t) := by
  obtain ⟨b, q1, q2, q3, q4⟩ := e.at_ow hi ho
  rw [ha] at q1
  cases q1
  have kp : ∀ c o, F c → H c = some o → (upd H a ob) c = some o := fun c o f h => by
    have nc : c ≠ a := fun z => q2 (by rw [← z]; exact f)
    rw [upd_ne nc]
    exact h
  have il : i < ρ.length := (List.getElem?_eq_some_iff.mp hi).1
  refine ⟨by rw [List.length_set, e.len], fun j d h => ?_, fun j zs h hz => ?_, fun j k zs zs' b ne h1 o1 h2 o2 h3 => ?_⟩
  · rw [set_get] at h
    split at h
    · split at h
      · cases h; cases ht
      · cases h
    · obtain ⟨v, h1, h2⟩ := e.sh j d h
      exact ⟨v, h1, h2.fz (fun _ z => z) kp⟩
  · rw [set_get] at h
    split at h
    · rename_i z
      rw [if_pos (z ▸ il)] at h
      cases h
      subst z
      exact ⟨a, by rw [ha]; rfl, q2, q3, r⟩
    · rename_i z
      obtain ⟨b, p1, p2, p3, p4⟩ := e.at_ow h hz
      have nb : b ≠ a := fun y => e.apart i j s zs a z hi ho h hz ha (y ▸ p1)
      exact ⟨b, by rw [p1]; rfl, p2, p3, p4.fz (fun _ z => z) kp (upd_ne nb)⟩
  · rw [set_get] at h1 h2
    have g : ∀ (l : Nat) (us' : Slot), us'.ow = true → (if i = l then (if l < ρ.length then some t else none) else ρ[l]?) = some us' → ∃ ws, ws.ow = true ∧ ρ[l]? = some ws := fun l us' hu h => by
      split at h
      · rename_i z
        exact ⟨s, ho, z ▸ hi⟩
      · exact ⟨us', hu, h⟩
    obtain ⟨w1, u1, g1⟩ := g j zs o1 h1
    obtain ⟨w2, u2, g2⟩ := g k zs' o2 h2
    exact e.apart j k w1 w2 b ne g1 u1 g2 u2 h3
theorem REnv.put (e : REnv K w F H σ ρ) {i : Nat} {a : Addr} {xs ys : List D} {us : List V} (hi : ρ[i]? = some (.own xs)) (ha : σ[i]? = some (some (.ref a))) (r : Reps K w F H us ys) : REnv K w F (upd H a (.lst us)) σ (ρ.set i (.own ys)) := by
  obtain ⟨b, q1, q2, q3, q4⟩ := e.at_ow hi rfl
  rw [ha] at q1
  cases q1
  have kp : ∀ c o, F c → H c = some o → (upd H a (.lst us)) c = some o := fun c o f h => by
    have nc : c ≠ a := fun z => q2 (by rw [← z]; exact f)
    rw [upd_ne nc]
    exact h
  exact e.putOw hi rfl rfl ha ⟨us, upd_same, r.fz (fun _ z => z) kp⟩
theorem Own.putOw {i : Nat} {s t : Slot} (hi : ρ[i]? = some s) (ho : s.ow = true) {a : Addr} (h : Own σ (ρ.set i t) a) : Own σ ρ a := by
  obtain ⟨j, zs, h1, hz, h2⟩ := h
  rw [set_get] at h1
  split at h1
  · rename_i q
    exact ⟨j, s, q ▸ hi, ho, h2⟩
  · exact ⟨j, zs, h1, hz, h2⟩
theorem Own.put {i : Nat} {xs ys : List D} (hi : ρ[i]? = some (.own xs)) {a : Addr} (h : Own σ (ρ.set i (.own ys)) a) : Own σ ρ a := h.putOw hi rfl
/-- an own list is frozen -/
def dFreeze (i : Nat) (ρ : DEnv) : DEnv := match ρ[i]? with
  | some (.own xs) => ρ.set i (.sh (.lst xs))
  | _ => ρ
theorem Cur.freeze (c : Cur K w F H σ ρ n) (i : Nat) : ∃ F', StepS w F H (Own σ ρ) F' H (Own σ (dFreeze i ρ)) ∧ Cur K w F' H σ (dFreeze i ρ) n := by
  unfold dFreeze
  split
  · rename_i xs hi
    obtain ⟨a, vs, q1, q2, q3, q4, q5⟩ := c.env.at_own hi
    have il : i < ρ.length := (List.getElem?_eq_some_iff.mp hi).1
    have oi : Own σ ρ a := ⟨i, _, hi, rfl, q1⟩
    have on : ∀ b, Own σ (ρ.set i (.sh (.lst xs))) b → Own σ ρ b ∧ b ≠ a := fun b h => by
      obtain ⟨j, zs, h1, hz, h2⟩ := h
      rw [set_get] at h1
      split at h1
      · split at h1
        · cases h1; cases hz
        · cases h1
      · rename_i z
        exact ⟨⟨j, zs, h1, hz, h2⟩, fun y => c.env.apart i j _ zs a z hi rfl h1 hz q1 (y ▸ h2)⟩
    refine ⟨fun b => F b ∨ b = a, ⟨fun _ _ _ _ h _ => h, fun _ => .inl, fun b h => h.elim .inl fun z => .inr (.inr (z ▸ oi)), fun b h => .inl (on b h).1, fun _ h => h⟩, c.toBase.fz q3 q4, ?_⟩
    refine ⟨by rw [List.length_set, c.env.len], fun j d h => ?_, fun j zs h hz => ?_, fun j k zs zs' b ne h1 o1 h2 o2 h3 => ?_⟩
    · rw [set_get] at h
      split at h
      · rename_i z
        rw [if_pos (z ▸ il)] at h
        cases h
        subst z
        exact ⟨.ref a, q1, .lst (.inr rfl) q4 (q5.sub fun _ => .inl)⟩
      · obtain ⟨v, h1, h2⟩ := c.env.sh j d h
        exact ⟨v, h1, h2.sub fun _ => .inl⟩
    · rw [set_get] at h
      split at h
      · split at h
        · cases h; cases hz
        · cases h
      · rename_i z
        obtain ⟨b, p1, p2, p3, p4⟩ := c.env.at_ow h hz
        refine ⟨b, by rw [p1]; rfl, fun f => f.elim p2 fun y => c.env.apart i j _ zs a z hi rfl h hz q1 (y ▸ p1), p3, p4.sub fun _ => .inl⟩
    · rw [set_get] at h1 h2
      split at h1
      · split at h1
        · cases h1; cases o1
        · cases h1
      · split at h2
        · split at h2
          · cases h2; cases o2
          · cases h2
        · exact c.env.apart j k zs zs' b ne h1 o1 h2 o2 h3
  · exact ⟨F, .refl, c⟩
end
/-! ## what loops walk, as data -/
section
variable (K : PySem.W.Frag) (mg : Str → Option Value)
/-- a sequence that stands while what is frozen, and what G tells, stands -/
def SqSt (w : Addr) (F : Addr → Prop) (H : Hp) (G : Addr → Prop) (a : Addr) (vs : List V) (s : Sq) : Prop := ∀ F2 H2, (∀ b, F b → F2 b) → (∀ b o, F b → H b = some o → H2 b = some o) → (∀ b o, G b → NT o → H b = some o → H2 b = some o) → SqAt K w F2 H2 a vs s
def tQ (G : Addr → Addr → Prop) (W : WX) (f : DEnv → T Sq) : TE := fun σ H Q => ∃ w F ρ n, Cur K w F H σ ρ n ∧ (f ρ).wp (fun s m => ∀ F' H' a vs, StepE w F H F' H' → Base w F' H' m → SqSt K w F' H' (G w) a vs s → Reps K w F' H' vs s.xs → Q (.ref a) H') (PostX K mg w F H fun c dd H' => W c dd σ H') n
def ItOk (w : Addr) (F : Addr → Prop) (H : Hp) (G : Addr → Prop) (J : It) (xs : List D) : Prop := ∀ F2 H2 n, (∀ b, F b → F2 b) → (∀ b o, F b → H b = some o → H2 b = some o) → (∀ b o, G b → NT o → H b = some o → H2 b = some o) → Base w F2 H2 n →
  (∀ i x, xs[i]? = some x → J.go i H2 ∧ ∀ v H3, J.yld i H2 v H3 → ∃ F3, StepE w F2 H2 F3 H3 ∧ Base w F3 H3 n ∧ Rep K w F3 H3 v x) ∧ J.stop xs.length H2
def tI (G : Addr → Addr → Prop) (W : WX) (f : DEnv → T (List D)) : TI := fun σ H R => ∃ w F ρ n, Cur K w F H σ ρ n ∧ (f ρ).wp (fun xs m => ∀ F' H' J, StepE w F H F' H' → Base w F' H' m → ItOk K w F' H' (G w) J xs → R J H') (PostX K mg w F H fun c dd H' => W c dd σ H') n
/-- read while no list changes (a comprehension); read while lists of one's own change (a loop) -/
abbrev gAll : Addr → Addr → Prop := fun w a => a ≠ w
abbrev gFz : Addr → Addr → Prop := fun _ _ => False
end
section
variable {X : Cx} {W : WX} {G : Addr → Addr → Prop}
theorem PI.of {X : Cx} {tg e : Expr} {t t' : TI} (h : PI X tg e t) (k : ∀ σ H Q, t' σ H Q → t σ H Q) : PI X tg e t' := ⟨fun pins s σ H Q I q => h.run pins s σ H Q I (k σ H Q q)⟩
theorem dQ_all {e : Expr} {f : DEnv → T Sq} (h : PE X e (tS X.K X.mg W f)) : PE X e (tQ X.K X.mg gAll W f) := PE.of h fun σ H Q ⟨w, F, ρ, n, c, q⟩ =>
  tS.go c q (fun _ _ h => h) fun s m q1 F1 H1 a vs s1 c1 hs r => q1 F1 H1 a vs s1 c1.toBase (fun F2 H2 sub kp kg => by
    cases s with
    | t xs => exact TupAt.fz sub kp hs
    | l xs => exact ⟨hs.1, kg _ _ hs.1 nt_lst hs.2⟩) r
theorem dQ_fz {e : Expr} {f : DEnv → T D} (h : PE X e (tD X.K X.mg W f)) : PE X e (tQ X.K X.mg G W (dSq f)) := PE.of h fun σ H Q ⟨w, F, ρ, n, c, q⟩ =>
  tD.go c (T.wp_bind _ _ |>.mp q) (fun _ _ h => h) fun d m q1 F1 H1 v s1 c1 r => by
    cases r with
    | tup ht hr => exact q1 F1 H1 _ _ s1 c1.toBase (fun F2 H2 sub kp kg => TupAt.fz sub kp ht) hr
    | lst hf ht hr => exact q1 F1 H1 _ _ s1 c1.toBase (fun F2 H2 sub kp kg => ⟨fun z => c1.nw (z ▸ hf), kp _ _ hf ht⟩) hr
    | _ => exact q1.elim
theorem tQ.go {f : DEnv → T Sq} {σ : St} {H : Hp} {Q : VK} {w : Addr} {F : Addr → Prop} {ρ : DEnv} {n : Nat} {E : Exc → Nat → Prop} {R : Sq → Nat → Prop} (c : Cur X.K w F H σ ρ n) (h : (f ρ).wp R E n)
    (hE : ∀ e m, E e m → PostX X.K X.mg w F H (fun c dd H' => W c dd σ H') e m)
    (hR : ∀ s m, R s m → ∀ F' H' a vs, StepE w F H F' H' → Cur X.K w F' H' σ ρ m → SqSt X.K w F' H' (G w) a vs s → Reps X.K w F' H' vs s.xs → Q (.ref a) H') : tQ X.K X.mg G W f σ H Q :=
  ⟨w, F, ρ, n, c, T.wp_mono (fun d m r F' H' a v s b h1 p => hR d m r F' H' a v s (c.step s b) h1 p) hE h⟩
def dItems (f : DEnv → T Sq) : DEnv → T (List D) := fun ρ => (f ρ).bind fun s => .ok s.xs
theorem SqSt.self {K : PySem.W.Frag} {w : Addr} {F : Addr → Prop} {H : Hp} {G : Addr → Prop} {a : Addr} {vs : List V} {s : Sq} (h : SqSt K w F H G a vs s) : SqAt K w F H a vs s := h F H (fun _ z => z) (fun _ _ _ z => z) fun _ _ _ _ z => z
theorem ItOk.list {K : PySem.W.Frag} {w : Addr} {F : Addr → Prop} {H : Hp} {G : Addr → Prop} {a : Addr} {vs : List V} {xs : List D} (h : SqSt K w F H G a vs (.l xs)) (r : Reps K w F H vs xs) : ItOk K w F H G (Itl K a) xs := fun F2 H2 n sub kp kg b => by
  have q : SqL K H2 a vs := SqL.of (h F2 H2 sub kp kg).2
  refine ⟨fun i x hx => ?_, vs, q, by rw [r.length]; exact Nat.le_refl _⟩
  obtain ⟨v, hv, rv⟩ := r.get hx
  refine ⟨⟨vs, v, q, hv⟩, fun v' H3 y => ?_⟩
  obtain ⟨rfl, y⟩ := y
  have e : v = v' := Option.some.inj (hv.symm.trans (y vs q))
  exact ⟨F2, .refl, b, e ▸ rv.fz sub kp⟩
theorem ItOk.tup {K : PySem.W.Frag} {w : Addr} {F : Addr → Prop} {H : Hp} {G : Addr → Prop} {a : Addr} {vs : List V} {xs : List D} (h : SqSt K w F H G a vs (.t xs)) (r : Reps K w F H vs xs) : ItOk K w F H G (Itt K a) xs := fun F2 H2 n sub kp kg b => by
  have q : SqT K H2 a vs := TupAt.seq (h F2 H2 sub kp kg)
  refine ⟨fun i x hx => ?_, vs, q, by rw [r.length]; exact Nat.le_refl _⟩
  obtain ⟨v, hv, rv⟩ := r.get hx
  refine ⟨⟨vs, v, q, hv⟩, fun v' H3 y => ?_⟩
  obtain ⟨rfl, y⟩ := y
  have e : v = v' := Option.some.inj (hv.symm.trans (y vs q))
  exact ⟨F2, .refl, b, e ▸ rv.fz sub kp⟩
theorem di_seq {tg e : Expr} {f : DEnv → T Sq} (h : PE X e (tQ X.K X.mg G W f)) : PI X tg e (tI X.K X.mg G W (dItems f)) := PI.of (pi_seq h) fun σ H R ⟨w, F, ρ, n, c, q⟩ =>
  tQ.go c (T.wp_bind _ _ |>.mp q) (fun _ _ h => h) fun s m q1 F1 H1 a vs s1 c1 hs r => by
    cases s with
    | l xs => exact ⟨a, vs, rfl, .inl ⟨SqL.of hs.self.2, q1 F1 H1 _ s1 c1.toBase (ItOk.list hs r)⟩⟩
    | t xs => exact ⟨a, vs, rfl, .inr ⟨TupAt.seq hs.self, q1 F1 H1 _ s1 c1.toBase (ItOk.tup hs r)⟩⟩
/-- pairs with numbers -/
def numbered (k : Nat) : List D → List D
  | [] => []
  | x :: r => .tup [.int k, x] :: numbered (k + 1) r
theorem numbered_get : ∀ (xs : List D) (k i : Nat) (x : D), (numbered k xs)[i]? = some x → ∃ y, xs[i]? = some y ∧ x = .tup [.int ((k + i : Nat) : Int), y]
  | [], _, _, _, h => by simp [numbered] at h
  | y :: r, k, 0, x, h => by
    simp only [numbered, List.getElem?_cons_zero, Option.some.injEq] at h
    exact ⟨y, rfl, h.symm⟩
  | y :: r, k, i + 1, x, h => by
    simp only [numbered, List.getElem?_cons_succ] at h
    obtain ⟨z, h1, h2⟩ := numbered_get r (k + 1) i x h
    exact ⟨z, by simpa using h1, by rw [h2, show k + 1 + i = k + (i + 1) by omega]⟩
theorem numbered_length : ∀ (xs : List D) (k : Nat), (numbered k xs).length = xs.length
  | [], _ => rfl
  | _ :: r, k => congrArg Nat.succ (numbered_length r (k + 1))
theorem pair_new {K : PySem.W.Frag} {w : Addr} {F : Addr → Prop} {H : Hp} {n : Nat} {x y : V} {dx dy : D} {T : Addr} (b : Base w F H n) (rx : Rep K w F H x dx) (ry : Rep K w F H y dy) (hT : H T = none) :
    ∃ F3, StepE w F H F3 (upd H T (.tup [x, y])) ∧ Base w F3 (upd H T (.tup [x, y])) n ∧ Rep K w F3 (upd H T (.tup [x, y])) (.ref T) (.tup [dx, dy]) := ⟨_, tup_new b (.cons rx (.cons ry .nil)) hT⟩
def dEnum (f : DEnv → T Sq) : DEnv → T (List D) := fun ρ => (f ρ).bind fun s => .ok (numbered 0 s.xs)
theorem ItOk.enumL {K : PySem.W.Frag} {w : Addr} {F : Addr → Prop} {H : Hp} {G : Addr → Prop} {a : Addr} {vs : List V} {xs : List D} (h : SqSt K w F H G a vs (.l xs)) (r : Reps K w F H vs xs) : ItOk K w F H G (Ite K a) (numbered 0 xs) := fun F2 H2 n sub kp kg b => by
  have q : SqL K H2 a vs := SqL.of (h F2 H2 sub kp kg).2
  refine ⟨fun i x hx => ?_, vs, q, by rw [r.length, numbered_length]; exact Nat.le_refl _⟩
  obtain ⟨d, hd, rfl⟩ := numbered_get xs 0 i x hx
  obtain ⟨v, hv, rv⟩ := r.get hd
  refine ⟨⟨vs, v, q, hv⟩, fun v' H3 y => ?_⟩
  obtain ⟨T, x, rfl, hT, rfl, y⟩ := y
  have e : v = x := Option.some.inj (hv.symm.trans (y vs q))
  subst e
  rw [Nat.zero_add]
  exact pair_new b (.int _) (rv.fz sub kp) hT
theorem ItOk.enumT {K : PySem.W.Frag} {w : Addr} {F : Addr → Prop} {H : Hp} {G : Addr → Prop} {a : Addr} {vs : List V} {xs : List D} (h : SqSt K w F H G a vs (.t xs)) (r : Reps K w F H vs xs) : ItOk K w F H G (ItET K a) (numbered 0 xs) := fun F2 H2 n sub kp kg b => by
  have q : SqT K H2 a vs := TupAt.seq (h F2 H2 sub kp kg)
  refine ⟨fun i x hx => ?_, vs, q, by rw [r.length, numbered_length]⟩
  obtain ⟨d, hd, rfl⟩ := numbered_get xs 0 i x hx
  obtain ⟨v, hv, rv⟩ := r.get hd
  refine ⟨⟨vs, v, q, hv⟩, fun v' H3 y => ?_⟩
  obtain ⟨T, x, rfl, hT, rfl, y⟩ := y
  have e : v = x := Option.some.inj (hv.symm.trans (y vs q))
  subst e
  rw [Nat.zero_add]
  exact pair_new b (.int _) (rv.fz sub kp) hT
theorem di_enum {e : Expr} {f : DEnv → T Sq} {p pos tpos : Pos} {elts : List Expr} {kk : Nat} (hg : Gl X "enumerate") (hm : X.mg "enumerate" = none) (h : PE X e (tQ X.K X.mg G W f))
    (he : starEach (e :: []) X.env = (false, eval e X.env) :: starEach [] X.env := by rfl) (hs : starEach [e] X.env = [(false, eval e X.env)] := by rfl) : PI X (.Tuple elts kk tpos) (.Call (.Name "enumerate" p) [e] [] pos) (tI X.K X.mg G W (dEnum f)) :=
  PI.of (pi_enumA hg hm (pa_cons h pa_nil he) hs) fun σ H R ⟨w, F, ρ, n, c, q⟩ => arg1 <| tQ.go c (T.wp_bind _ _ |>.mp q) (fun _ _ h => h) fun s m q1 F1 H1 a vs s1 c1 hs r => by
    cases s with
    | l xs => exact ⟨a, vs, rfl, .inl ⟨SqL.of hs.self.2, q1 F1 H1 _ s1 c1.toBase (ItOk.enumL hs r)⟩⟩
    | t xs => exact ⟨a, vs, rfl, .inr ⟨TupAt.seq hs.self, q1 F1 H1 _ s1 c1.toBase (ItOk.enumT hs r)⟩⟩
/-- lo, lo + 1, .. (n of them) -/
def upFrom (lo : Int) : Nat → List D
  | 0 => []
  | n + 1 => .int lo :: upFrom (lo + 1) n
theorem upFrom_length : ∀ (n : Nat) (lo : Int), (upFrom lo n).length = n
  | 0, _ => rfl
  | n + 1, lo => congrArg Nat.succ (upFrom_length n (lo + 1))
theorem upFrom_get : ∀ (n i : Nat) (lo : Int) (x : D), (upFrom lo n)[i]? = some x → i < n ∧ x = .int (lo + i)
  | 0, _, _, _, h => by simp [upFrom] at h
  | n + 1, 0, lo, x, h => by
    simp only [upFrom, List.getElem?_cons_zero, Option.some.injEq] at h
    exact ⟨Nat.succ_pos _, by rw [← h]; congr 1; omega⟩
  | n + 1, i + 1, lo, x, h => by
    simp only [upFrom, List.getElem?_cons_succ] at h
    obtain ⟨h1, h2⟩ := upFrom_get n i (lo + 1) x h
    exact ⟨Nat.succ_lt_succ h1, by rw [h2]; congr 1; omega⟩
theorem ItOk.range {K : PySem.W.Frag} {w : Addr} {F : Addr → Prop} {H : Hp} {G : Addr → Prop} {lo : Int} {k : Nat} : ItOk K w F H G (Itr lo k) (upFrom lo k) := fun F2 H2 n sub kp kg b => by
  refine ⟨fun i x hx => ?_, by show k ≤ _; rw [upFrom_length]; exact Nat.le_refl _⟩
  obtain ⟨h1, rfl⟩ := upFrom_get k i lo x hx
  refine ⟨h1, fun v' H3 y => ?_⟩
  obtain ⟨rfl, rfl⟩ := y
  exact ⟨F2, .refl, b, .int _⟩
/-- what range takes; decided by no reckoning, so that no great number is unrolled -/
def RngOk (j : Int) : Prop := -(2 ^ 62) ≤ j ∧ j < 2 ^ 62
instance (j : Int) : Decidable (RngOk j) := Classical.propDecidable _
def dRange1 (f : DEnv → T D) : DEnv → T (List D) := fun ρ => (f ρ).bind fun d => match d with
  | .int j => if RngOk j then .ok (upFrom 0 j.toNat) else .fail
  | _ => .fail
def dRange2 (f g : DEnv → T D) : DEnv → T (List D) := fun ρ => (f ρ).bind fun d => (g ρ).bind fun e => match d, e with
  | .int i, .int j => if RngOk i ∧ RngOk j then .ok (upFrom i (j - i).toNat) else .fail
  | _, _ => .fail
theorem di_range1 {tg a : Expr} {f : DEnv → T D} {p pos : Pos} (hg : Gl X "range") (hm : X.mg "range" = none) (h : PE X a (tD X.K X.mg W f)) (he : starEach (a :: []) X.env = (false, eval a X.env) :: starEach [] X.env := by rfl) (hs : starEach [a] X.env = [(false, eval a X.env)] := by rfl) :
    PI X tg (.Call (.Name "range" p) [a] [] pos) (tI X.K X.mg G W (dRange1 f)) := PI.of (pi_range1 hg hm (pa_cons h pa_nil he) hs) fun σ H R ⟨w, F, ρ, n, c, q⟩ => arg1 <|
  tD.go c (T.wp_bind _ _ |>.mp q) (fun _ _ h => h) fun d m q1 F1 H1 v s1 c1 r => by
    cases r with
    | int j =>
      dsimp only at q1
      split at q1
      · rename_i hb
        exact ⟨j, rfl, hb.1, hb.2, q1 F1 H1 _ s1 c1.toBase ItOk.range⟩
      · exact q1.elim
    | _ => exact q1.elim
theorem di_range2 {tg a b : Expr} {f g : DEnv → T D} {p pos : Pos} (hg : Gl X "range") (hm : X.mg "range" = none) (ha : PE X a (tD X.K X.mg W f)) (hb : PE X b (tD X.K X.mg W g)) (he : starEach (a :: [b]) X.env = (false, eval a X.env) :: starEach [b] X.env := by rfl)
    (he2 : starEach (b :: []) X.env = (false, eval b X.env) :: starEach [] X.env := by rfl) (hs : starEach [a, b] X.env = [(false, eval a X.env), (false, eval b X.env)] := by rfl) (hs2 : starEach [b] X.env = [(false, eval b X.env)] := by rfl) :
    PI X tg (.Call (.Name "range" p) [a, b] [] pos) (tI X.K X.mg G W (dRange2 f g)) := PI.of (pi_range2 hg hm (pa_cons ha (pa_cons hb pa_nil he2) he) hs hs2) fun σ H R ⟨w, F, ρ, n, c, q⟩ =>
  tD.go c (T.wp_bind _ _ |>.mp q) (fun _ _ h => h) fun d m q1 F1 H1 v s1 c1 r => tD.go c1 (T.wp_bind _ _ |>.mp q1) (fun _ _ h => h.back s1) fun d2 m2 q2 F2 H2 v2 s2 c2 r2 => by
    cases r with
    | int i =>
      cases r2 with
      | int j =>
        dsimp only at q2
        split at q2
        · rename_i hb
          exact ⟨i, j, rfl, ⟨hb.1.1, hb.1.2, hb.2.1, hb.2.2⟩, q2 F2 H2 _ (s1.trans s2) c2.toBase ItOk.range⟩
        · exact q2.elim
      | _ => exact q2.elim
    | _ => exact q2.elim
end
end
end AL
namespace AL
open PySem PySem.Spec PyProof.Rows L2
noncomputable section
variable [Tb]
/-! ## targets -/
/-- what a target stores; is: the slots that it may store into -/
def tG (K : PySem.W.Frag) (is : List Nat) (fb : D → DEnv → T DEnv) : TG := fun v σ H Q => ∃ w F ρ n d, Cur K w F H σ ρ n ∧ Rep K w F H v d ∧
  (fb d ρ).wp (fun ρ' m => ∀ σ', Cur K w F H σ' ρ' m → (∀ a, Own σ' ρ' a → Own σ ρ a) → (σ'.length = σ.length ∧ ∀ j, j ∉ is → σ'[j]? = σ[j]?) → Q σ' H) (fun _ _ => False) n
def tGs (K : PySem.W.Frag) (is : List Nat) (fb : List D → DEnv → T DEnv) : TGs := fun vs σ H Q => ∃ w F ρ n ds, Cur K w F H σ ρ n ∧ Reps K w F H vs ds ∧
  (fb ds ρ).wp (fun ρ' m => ∀ σ', Cur K w F H σ' ρ' m → (∀ a, Own σ' ρ' a → Own σ ρ a) → (σ'.length = σ.length ∧ ∀ j, j ∉ is → σ'[j]? = σ[j]?) → Q σ' H) (fun _ _ => False) n
section
variable {X : Cx} {W : WX}
theorem PG.of {X : Cx} {e : Expr} {t t' : TG} (h : PG X e t) (k : ∀ v σ H Q, t' v σ H Q → t v σ H Q) : PG X e t' := by
  constructor
  intro pins s σ H v u Q I r q
  exact h.run pins s σ H v u Q I r (k v σ H Q q)
theorem PGs.of {X : Cx} {e : List Expr} {t t' : TGs} (h : PGs X e t) (k : ∀ v σ H Q, t' v σ H Q → t v σ H Q) : PGs X e t' := by
  constructor
  intro pins s σ H v u Q I r q
  exact h.run pins s σ H v u Q I r (k v σ H Q q)
def bName (i : Nat) : D → DEnv → T DEnv := fun d ρ => .ok (ρ.set i (.sh d))
theorem dg_name {i : Nat} {x : Str} {pos : Pos} (hN : X.N.Nodup) (hi : X.N[i]? = some x) (hx : Loc X.env.scope x) (hf : X.fn x = true ∨ X.env.scope.names.lookup x = some .local := by first | exact .inl rfl | exact .inr rfl | assumption) :
    PG X (.Name x pos) (tG X.K [i] (bName i)) := PG.of (pg_name hN hi hx hf) fun v σ H Q ⟨w, F, ρ, n, d, c, r, q⟩ => by
  refine q _ ⟨c.toBase, c.env.setSh i r⟩ (fun a h => h.setSh) ⟨List.length_set, fun j hj => ?_⟩
  have ne : i ≠ j := fun e => hj (by simp [e])
  exact List.getElem?_set_ne ne
def bNil : List D → DEnv → T DEnv := fun ds ρ => match ds with
  | [] => .ok ρ
  | _ => .fail
def bCons (f : D → DEnv → T DEnv) (g : List D → DEnv → T DEnv) : List D → DEnv → T DEnv := fun ds ρ => match ds with
  | d :: r => (f d ρ).bind fun ρ' => g r ρ'
  | [] => .fail
theorem dgs_nil : PGs X [] (tGs X.K [] bNil) := PGs.of pgs_nil fun vs σ H Q ⟨w, F, ρ, n, ds, c, r, q⟩ => by
  cases r with
  | nil => exact ⟨rfl, q σ c (fun _ h => h) ⟨rfl, fun _ _ => rfl⟩⟩
  | cons => exact q.elim
theorem dgs_cons {e : Expr} {es : List Expr} {is js : List Nat} {f : D → DEnv → T DEnv} {g : List D → DEnv → T DEnv} (h1 : PG X e (tG X.K is f)) (h2 : PGs X es (tGs X.K js g))
    (hs : (assignEach (e :: es) X.env).map (·.2) = assign e X.env :: (assignEach es X.env).map (·.2) := by rfl) : PGs X (e :: es) (tGs X.K (is ++ js) (bCons f g)) := PGs.of (pgs_cons h1 h2 hs) fun vs σ H Q ⟨w, F, ρ, n, ds, c, r, q⟩ => by
  cases r with
  | nil => exact q.elim
  | cons r rr =>
    refine ⟨_, _, rfl, w, F, ρ, n, _, c, r, T.wp_mono (fun ρ1 m1 q1 σ1 c1 o1 z1 => ?_) (fun _ _ h => h) (T.wp_bind _ _ |>.mp q)⟩
    refine ⟨w, F, ρ1, m1, _, c1, rr, T.wp_mono (fun ρ2 m2 q2 σ2 c2 o2 z2 => ?_) (fun _ _ h => h) q1⟩
    refine q2 σ2 c2 (fun a h => o1 a (o2 a h)) ⟨z2.1.trans z1.1, fun j hj => ?_⟩
    rw [List.mem_append, not_or] at hj
    exact (z2.2 j hj.2).trans (z1.2 j hj.1)
def bTup (n : Nat) (g : List D → DEnv → T DEnv) : D → DEnv → T DEnv := fun d ρ => match d with
  | .tup ds => if ds.length = n then g ds ρ else .fail
  | _ => .fail
theorem dg_tup {es : List Expr} {k : Nat} {is : List Nat} {g : List D → DEnv → T DEnv} {pos : Pos} {n : Nat} (hc : X.calm = true) (h : PGs X es (tGs X.K is g)) (hn : (assignEach es X.env).length = n := by rfl) (hst : (assignEach es X.env).findIdx? (·.1) = none := by rfl) :
    PG X (.Tuple es k pos) (tG X.K is (bTup n g)) := PG.of (pg_tup hc h hn hst) fun v σ H Q ⟨w, F, ρ, m, d, c, r, q⟩ => by
  cases r with
  | tup ht hr =>
    unfold bTup at q
    dsimp only at q
    split at q
    · rename_i hl
      exact ⟨_, _, rfl, ht.seq, by rw [hr.length]; exact hl, w, F, ρ, m, _, c, hr, q⟩
    · exact q.elim
  | _ => exact q.elim
end
/-! ## comprehensions -/
namespace T
/-- no error -/
def nox {α : Type} : T α → T α
  | .ok a => .ok a
  | .exc _ => .fail
  | .draw m k => .draw m fun r => (k r).nox
  | .fail => .fail
theorem wp_nox {α : Type} {t : T α} {Q : α → Nat → Prop} {E E' : Exc → Nat → Prop} : ∀ {n : Nat}, t.nox.wp Q E n → t.wp Q E' n := by
  induction t with
  | ok a => exact fun {n} h => h
  | exc e => exact fun {n} h => h.elim
  | draw m f ih => exact fun {n} h => ⟨h.1, h.2.1, fun r h0 h1 => ih r (h.2.2 r h0 h1)⟩
  | fail => exact fun {n} h => h
@[simp] theorem nox_ok {α : Type} (a : α) : (T.ok a).nox = .ok a := rfl
@[simp] theorem nox_fail {α : Type} : (T.fail : T α).nox = .fail := rfl
@[simp] theorem nox_draw {α : Type} (m : Int) (k : Int → T α) : (T.draw m k).nox = .draw m fun r => (k r).nox := rfl
@[simp] theorem nox_bind {α β : Type} (t : T α) (k : α → T β) : (t.bind k).nox = t.nox.bind fun a => (k a).nox := by
  induction t with
  | ok a => rfl
  | exc e => rfl
  | draw m f ih => simp only [bind_draw, nox_draw]; exact congrArg _ (funext ih)
  | fail => rfl
end T
def dWipe (ρ : DEnv) : List Nat → DEnv
  | [] => ρ
  | v :: vs => (dWipe ρ vs).set v .no
def lcGo (fb : D → DEnv → T DEnv) (ft : DEnv → T Bool) (fe : DEnv → T D) (ρ : DEnv) : List D → T (List D)
  | [] => .ok []
  | x :: r => (fb x ρ).nox.bind fun ρ1 => (ft ρ1).nox.bind fun b => if b then (fe ρ1).nox.bind fun y => (lcGo fb ft fe ρ r).bind fun ys => .ok (y :: ys) else lcGo fb ft fe ρ r
def dLc (fi : DEnv → T (List D)) (fb : D → DEnv → T DEnv) (ft : DEnv → T Bool) (fe : DEnv → T D) (vs : List Nat) : DEnv → T (List D) := fun ρ => (fi ρ).bind fun xs => if xs.length ≤ sizeLine then lcGo fb ft fe (dWipe ρ vs) xs else .fail
abbrev W0 : WX := fun _ _ _ _ => False
section
variable {K : PySem.W.Frag} {mg : Str → Option Value} {w : Addr} {F : Addr → Prop} {H : Hp} {n : Nat} {σ : St} {ρ : DEnv}
theorem dWipe_len : ∀ (vs : List Nat), (dWipe ρ vs).length = ρ.length
  | [] => rfl
  | v :: vs => by unfold dWipe; rw [List.length_set, dWipe_len vs]
theorem setNo (e : REnv K w F H σ ρ) (i : Nat) : REnv K w F H (σ.set i none) (ρ.set i .no) where
  len := by rw [List.length_set, List.length_set, e.len]
  sh := fun j d' h => by
    rw [set_get] at h ⊢
    split at h
    · split at h <;> cases h
    · rename_i h1
      rw [if_neg h1]
      exact e.sh j d' h
  own := fun j xs h ho => by
    rw [set_get] at h ⊢
    split at h
    · split at h
      · cases h; cases ho
      · cases h
    · rename_i h1
      rw [if_neg h1]
      exact e.own j xs h ho
  apart := fun j k xs ys a ne h1 o1 h2 o2 h3 => by
    rw [set_get] at h1 h2 h3 ⊢
    split at h1
    · split at h1
      · cases h1; cases o1
      · cases h1
    · split at h2
      · split at h2
        · cases h2; cases o2
        · cases h2
      · rename_i q1 q2
        rw [if_neg q1] at h3
        rw [if_neg q2]
        exact e.apart j k xs ys a ne h1 o1 h2 o2 h3
theorem REnv.wipe (e : REnv K w F H σ ρ) : ∀ vs : List Nat, REnv K w F H (L2.wipe σ vs) (dWipe ρ vs)
  | [] => e
  | v :: vs => setNo (REnv.wipe e vs) v
theorem wipe_in : ∀ {vs : List Nat} {i : Nat}, i ∈ vs → i < σ.length → (L2.wipe σ vs)[i]? = some none
  | [], _, h, _ => by cases h
  | v :: vs, i, h, hl => by
    show ((L2.wipe σ vs).set v none)[i]? = some none
    rw [set_get]
    split
    · rename_i e
      rw [wipe_length, if_pos hl]
    · rename_i ne
      rcases List.mem_cons.mp h with e | h
      · exact absurd e.symm ne
      · exact wipe_in h hl
theorem wipe_eq {vs : List Nat} {σ' : St} (hl : σ'.length = σ.length) (h : ∀ j, j ∉ vs → σ'[j]? = (L2.wipe σ vs)[j]?) : L2.wipe σ' vs = L2.wipe σ vs := by
  apply List.ext_getElem?
  intro j
  by_cases hj : j ∈ vs
  · by_cases hz : j < σ.length
    · rw [wipe_in hj hz, wipe_in hj (by rw [hl]; exact hz)]
    · rw [List.getElem?_eq_none (by rw [wipe_length, hl]; omega), List.getElem?_eq_none (by rw [wipe_length]; omega)]
  · rw [wipe_out hj, h j hj]
end
section
variable {X : Cx} {W : WX}
theorem lc_read {fi : DEnv → T (List D)} {is : List Nat} {fb : D → DEnv → T DEnv} {ft : DEnv → T Bool} {fe : DEnv → T D} {vs : List Nat} (his : ∀ i ∈ is, i ∈ vs) {σ : St} {H : Hp} {Q : VK} (h : tN X.K X.mg W (dLc fi fb ft fe vs) σ H Q) :
    tLc (tI X.K X.mg gAll W fi) (tG X.K is fb) (tDT X.K X.mg W0 ft) (tD X.K X.mg W0 fe) vs σ H Q := by
  obtain ⟨w, F, ρ, n, c, q⟩ := h
  refine ⟨w, F, ρ, n, c, T.wp_mono (fun xs m q1 F1 H1 J s1 b1 it L hL => ?_) (fun _ _ h => h) (T.wp_bind _ _ |>.mp q)⟩
  split at q1
  rotate_left
  · exact q1.elim
  rename_i hz
  have c1 := c.step s1 b1
  have hHD : H L = none := s1.dom L hL
  have Lw : L ≠ w := c1.toBase.pne hL
  refine ⟨fun i k H2 => ∃ (F2 : Addr → Prop) (n2 : Nat) (acc : List V) (ds : List D), i + k = xs.length ∧ StepE w F H F2 H2 ∧ Base w F2 H2 n2 ∧ (∀ b, F1 b → F2 b) ∧ (∀ b o, b ≠ w → NT o → H1 b = some o → H2 b = some o) ∧ ¬ F2 L ∧ H2 L = some (.lst acc) ∧ Reps X.K w F2 H2 acc ds ∧
    REnv X.K w F2 H2 (L2.wipe σ vs) (dWipe ρ vs) ∧ acc.length ≤ i ∧
    (lcGo fb ft fe (dWipe ρ vs) (xs.drop i)).wp (fun ys m => ∀ F' H' p us, StepE w F H F' H' → Base w F' H' m → H p = none → ¬ F' p → H' p = some (.lst us) → Reps X.K w F' H' us (ds ++ ys) → Q (.ref p) H') (PostX X.K X.mg w F H fun c dd H' => W c dd σ H') n2, ⟨xs.length, F1, m, [], [], Nat.zero_add _, ?_, b1.layOwn hL, fun _ z => z, fun b o _ _ z => ?_, b1.pnf hL, upd_same, .nil, ?_, Nat.le_refl _, ?_⟩, fun i k H2 hW => ?_⟩
  · exact s1.trans (.layOwn hL)
  · rw [upd_ne (ne_of_none z hL)]
    exact z
  · exact (c1.env.wipe vs).step (.layOwn hL) b1
  · rw [List.drop_zero]
    exact q1
  obtain ⟨F2, n2, acc, ds, hik, s2, b2, f12, k12, nfL, hLa, ra, env, hal, q2⟩ := hW
  have kpF1 : ∀ b o, F1 b → H1 b = some o → H2 b = some o := fun b o f z => k12 b o (fun e => b1.nw (e ▸ f)) (b1.nt f z) z
  have IT := it F2 H2 n2 f12 kpF1 (fun b o g t z => k12 b o g t z) b2
  by_cases hi : i < xs.length
  · have hx : xs[i]? = some xs[i] := List.getElem?_eq_getElem hi
    obtain ⟨go, yl⟩ := IT.1 i _ hx
    have dr : xs.drop i = xs[i] :: xs.drop (i + 1) := List.drop_eq_getElem_cons hi
    rw [dr] at q2
    simp only [lcGo] at q2
    refine .inr ⟨go, fun H' => ∃ (F2 : Addr → Prop) (n2 : Nat) (acc : List V) (ds : List D), StepE w F H F2 H' ∧ Base w F2 H' n2 ∧ (∀ b, F1 b → F2 b) ∧ (∀ b o, b ≠ w → NT o → H1 b = some o → H' b = some o) ∧ ¬ F2 L ∧ H' L = some (.lst acc) ∧ Reps X.K w F2 H' acc ds ∧
      REnv X.K w F2 H' (L2.wipe σ vs) (dWipe ρ vs) ∧ acc.length ≤ i + 1 ∧
      (lcGo fb ft fe (dWipe ρ vs) (xs.drop (i + 1))).wp (fun ys m => ∀ F' H' p us, StepE w F H F' H' → Base w F' H' m → H p = none → ¬ F' p → H' p = some (.lst us) → Reps X.K w F' H' us (ds ++ ys) → Q (.ref p) H') (PostX X.K X.mg w F H fun c dd H' => W c dd σ H') n2,
      fun H' hN => ?_, fun v H3 y => ?_⟩
    · obtain ⟨F2, n2, acc, ds, r⟩ := hN
      exact ⟨k - 1, by omega, F2, n2, acc, ds, by omega, r⟩
    · obtain ⟨F3, s3, b3, rx⟩ := yl v H3 y
      have hL3 : H3 L = some (.lst acc) := s3.keep L _ Lw hLa
      have env3 := env.step s3 b2
      refine ⟨w, F3, dWipe ρ vs, n2, _, ⟨b3, env3⟩, rx, T.wp_mono (fun ρ4 m4 q4 σ4 c4 o4 z4 => ?_) (fun _ _ h => h.elim) (T.wp_nox (E' := fun _ _ => False) (T.wp_bind _ _ |>.mp q2))⟩
      refine ⟨wipe_eq (z4.1.trans (wipe_length σ vs)) fun j hj => z4.2 j fun hm => hj (his j hm), ?_⟩
      refine ⟨w, F3, ρ4, m4, c4, T.wp_mono (fun b m5 q5 F5 H5 s5 b5 => ?_) (fun _ _ h => h.elim) (T.wp_nox (E' := fun _ _ => False) (T.wp_bind _ _ |>.mp q4))⟩
      have s25 := s3.trans s5
      have nf5 : ¬ F5 L := fun f => (s25.new L f).elim nfL fun z => by rw [hLa] at z; cases z
      have hL5 : H5 L = some (.lst acc) := s5.keep L _ Lw hL3
      cases b with
      | false =>
        rw [if_neg Bool.false_ne_true] at q5
        refine iteF ?_
        exact ⟨F5, m5, acc, ds, s2.trans s25, b5, fun b z => s25.sub b (f12 b z), fun b o nb t z => s25.keep b o nb (k12 b o nb t z), nf5, hL5, ra.step s25 b2, env.step s25 b2, Nat.le_succ_of_le hal, q5⟩
      | true =>
        rw [if_pos rfl] at q5
        refine iteT ?_
        refine ⟨w, F5, ρ4, m5, c4.step s5 b5, T.wp_mono (fun dy m6 q6 F6 H6 vy s6 b6 ry => ?_) (fun _ _ h => h.elim) (T.wp_nox (E' := fun _ _ => False) (T.wp_bind _ _ |>.mp q5))⟩
        have s26 := s25.trans s6
        have nf6 : ¬ F6 L := fun f => (s26.new L f).elim nfL fun z => by rw [hLa] at z; cases z
        have hL6 : H6 L = some (.lst acc) := s6.keep L _ Lw hL5
        have sub : ∀ b, F6 b → F6 b := fun _ z => z
        have kp6 : ∀ b o, F6 b → H6 b = some o → (upd H6 L (.lst (acc ++ [vy]))) b = some o := fun b o f z => by
          have nb : b ≠ L := fun e => nf6 (by rw [← e]; exact f)
          rw [upd_ne nb]
          exact z
        refine ⟨acc, hL6, by omega, F6, m6, acc ++ [vy], ds ++ [dy], ?_, ?_, fun b z => s26.sub b (f12 b z), fun b o nb t z => ?_, nf6, upd_same, ?_, ?_, ?_, ?_⟩
        · have sA := s2.trans s26
          refine ⟨fun a o na z t => ?_, sA.sub, sA.new, fun a z => ?_⟩
          · rw [upd_ne (ne_of_none z hHD)]
            exact sA.keep a o na z
          · by_cases e : a = L
            · rw [e]; exact hHD
            · rw [upd_ne e] at z
              exact sA.dom a z
        · exact b6.put nf6 Lw hL6
        · rw [upd_ne (ne_of_none z hL)]
          exact s26.keep b o nb (k12 b o nb t z)
        · exact ((ra.step s26 b2).fz sub kp6).append (.cons (ry.fz sub kp6) .nil)
        · have e6 := env.step s26 b2
          refine ⟨e6.len, fun j d hj => ?_, fun j zs hj hz => ?_, e6.apart⟩
          · obtain ⟨v', h1, h2⟩ := e6.sh j d hj
            exact ⟨v', h1, h2.fz sub kp6⟩
          · obtain ⟨a, h1, h2, h3, h4⟩ := e6.own j zs hj hz
            have na : a ≠ L := by
              intro e
              obtain ⟨a', p1, p2, p3, p4⟩ := (c1.env.wipe vs).at_ow hj hz
              rw [p1] at h1
              have ee : a' = a := by
                have := Option.some.inj h1
                exact V.ref.inj this
              obtain ⟨o4, p5⟩ := p4.some_
              rw [ee, e, hL] at p5
              cases p5
            exact ⟨a, h1, h2, h3, h4.fz sub kp6 (upd_ne na)⟩
        · rw [List.length_append]
          exact Nat.succ_le_succ hal
        · refine T.wp_mono (fun ys m7 q7 F' H' p us t1 t2 t3 t4 t5 t6 => ?_) (fun _ _ h => h) (T.wp_bind _ _ |>.mp q6)
          refine q7 F' H' p us t1 t2 t3 t4 t5 ?_
          rw [List.append_assoc] at t6
          exact t6
  · have e : i = xs.length := by omega
    subst e
    refine .inl ⟨IT.2, ?_⟩
    rw [List.drop_length] at q2
    have q3 := q2 F2 H2 L acc s2 b2 hHD nfL hLa
    rw [List.append_nil] at q3
    exact q3 ra
end
end
end AL
namespace AL
open PySem PySem.Spec PyProof.Rows L2
noncomputable section
variable [Tb]
section
variable {X : Cx} {W : WX}
theorem PTs.of {X : Cx} {e : List Expr} {t t' : TT} (h : PTs X e t) (k : ∀ σ H Q, t' σ H Q → t σ H Q) : PTs X e t' := ⟨fun pins s σ H Q I q => h.run pins s σ H Q I (k σ H Q q)⟩
def dYes : DEnv → T Bool := fun _ => .ok true
theorem dts_nil : PTs X [] (tDT X.K X.mg W dYes) := PTs.of pts_nil fun σ H Q ⟨w, F, ρ, n, c, q⟩ => q F H .refl c.toBase
theorem dts_one {c : Expr} {f : DEnv → T Bool} (h : PT X c (tDT X.K X.mg W f)) : PTs X [c] (tDT X.K X.mg W f) := pts_one h
/-- [elt for target in iter if ..] -/
theorem dn_lc {elt tg iter : Expr} {ifs : List Expr} {scope : Scope} {own : List (Str × Nat)} {pos : Pos} {fi : DEnv → T (List D)} {is : List Nat} {fb : D → DEnv → T DEnv} {ft : DEnv → T Bool} {fe : DEnv → T D} (hc : X.calm = true) (hN : X.N.Nodup) (hi : PI X tg iter (tI X.K X.mg gAll W fi))
    (ok : BlkOk X.N X.env.scope scope own) (his : ∀ i ∈ is, i ∈ own.map (·.2))
    (hg : ∀ (s : Shared) (H : Hp) (C : Addr) (cl : List (Str × Addr)) (fp : List Addr), PG (X.blk s H scope (compEnvC scope cl C X.env) fp) tg (tG X.K is fb))
    (ht : ∀ (s : Shared) (H : Hp) (C : Addr) (cl : List (Str × Addr)) (fp : List Addr), PTs (X.blk s H scope (compEnvC scope cl C X.env) fp) ifs (tDT X.K X.mg W0 ft))
    (he : ∀ (s : Shared) (H : Hp) (C : Addr) (cl : List (Str × Addr)) (fp : List Addr), PE (X.blk s H scope (compEnvC scope cl C X.env) fp) elt (tD X.K X.mg W0 fe)) (hs : ∀ x, foldedSetIterable iter X.env x = pure x := by intro _; rfl) :
    PE X (.ListComp elt [⟨tg, iter, ifs, 0⟩] scope pos) (tN X.K X.mg W (dLc fi fb ft fe (own.map (·.2)))) := PE.of (pe_lc hc hN hi ok hg ht he hs) fun σ H Q h => lc_read his h
end
/-! ## defs -/
/-- a def keeps its promise where no repr runs -/
structure FnG (P : Program) (w : World) (K : PySem.W.Frag) (mg : Str → Option Value) (base : Heap) (k : Nat) (f : Addr) (fd : FuncData) (ps : List Str) (sp : Sp) : Prop where
  len : ∀ vs H Q E, sp vs H Q E → vs.length = ps.length
  run : ∀ (A : Around) (outer : List Env) (s : Shared) (H : Hp) (args : Args) (us : List Value) (vs : List V) (Q : VK) (E : XK), Room k A → A.guards = some [] → Env0 P w K mg base A outer s H → BindsTo s fd args (ps.zip us) → Vals vs us → sp vs H Q E →
    codeAny (model P w) A (.call (.ref f) args) (CR (L2.CX P w) outer P w H s Q E) s
theorem FnG.mono {P : Program} {w : World} {K : PySem.W.Frag} {mg : Str → Option Value} {base : Heap} {j k : Nat} {f : Addr} {fd : FuncData} {ps : List Str} {sp : Sp} (F : FnG P w K mg base j f fd ps sp) (h : j ≤ k) : FnG P w K mg base k f fd ps sp :=
  ⟨F.len, fun A outer s H args us vs Q E hr => F.run A outer s H args us vs Q E (hr.mono h)⟩
/-- the promise of a def whose run over data is fn -/
def spD (K : PySem.W.Frag) (mg : Str → Option Value) (ar : Nat) (fn : List D → T D) : Sp := fun vs H Q E => vs.length = ar ∧ ∃ w F n ds, Base w F H n ∧ Reps K w F H vs ds ∧ (fn ds).wp (PostE K w F H Q) (PostX K mg w F H E) n
section
variable {X : Cx} {W : WX} {k : Nat} {f : Addr} {fd : FuncData} {ps : List Str} {sp : Sp} {x : Str} {p pos : Pos} {e : Expr} {es : List Expr} {t : TA}
theorem run_G {pins : List (Addr × Obj)} {s : Shared} {σ : St} {H : Hp} {Q : VK} {us : List Value} {vs : List V} {args : Args} {E : XK} (F : FnG X.prog X.w X.K X.mg X.base k f fd ps sp) (hr : Room k X.A) (hG : X.A.guards = some []) (hb : BindsTo s fd args (ps.zip us)) (hx : PassesAt (L2.CX X.prog X.w) X σ E)
    (I : Inv X pins σ H s) (r : Vals vs us) (h : sp vs H Q E) : wpAny (model X.prog X.w) X.A (call (.ref f) args.pos args.kw) (EP X pins σ Q) X.xe s := by
  refine wpAny_call (codeAny_mono (F.run X.A X.stack s H args us vs Q E hr hG I.env0 hb r h) ?_)
  intro r s' hq
  match r, hq with
  | .error e, hq => exact hx pins H s e s' I hq
  | .ok (.ret u), hq => exact I.after hq
  | .ok .next, hq => exact hq.elim
  | .ok .brk, hq => exact hq.elim
  | .ok .cont, hq => exact hq.elim
def dCall (ar : Nat) (fn : List D → T D) (a : DEnv → T (List D)) : DEnv → T D := fun ρ => (a ρ).bind fun ds => if ds.length = ar then fn ds else .fail
theorem de_call {ar : Nat} {fn : List D → T D} {fa : DEnv → T (List D)} (F : FnG X.prog X.w X.K X.mg X.base k f fd ps (spD X.K X.mg ar fn)) (hr : Room k X.A) (hG : X.A.guards = some []) (tk : Takes X W) (hg : Gl X x) (hm : X.mg x = some (.ref f)) (hk : PySem.W.keepIn X.K (.ref f) = true) (hb : Binds X.K fd ps [])
    (ha : PA X (e :: es) (tDA X.K X.mg W fa)) (hdb : (x == ("__debug__" : Str)) = false := by decide) (he : starEach (e :: es) X.env = (false, eval e X.env) :: starEach es X.env := by rfl) (hpl : (backTo pos (starEach es X.env)).any (·.1) = false := by rfl) :
    PE X (.Call (.Name x p) (e :: es) [] pos) (tD X.K X.mg W (dCall ar fn fa)) := by
  constructor
  rintro pins s σ H Q I ⟨w, F0, ρ, n, c, q⟩
  refine wpAny_Call_Name_kw (ld_glob I hg hm ?_ hdb)
  have q' := T.wp_bind _ _ |>.mp q
  have h : tDA X.K X.mg W fa σ H fun vs H1 => spD X.K X.mg ar fn vs H1 Q (WE W σ) := tDA.go c q' (fun _ _ h => h) fun ds m q1 F1 H1 vs s1 c1 r => by
    split at q1
    · rename_i hl
      exact ⟨by rw [r.length]; exact hl, w, F1, m, ds, c1.toBase, r, T.wp_mono (fun _ _ h => h.back s1) (fun _ _ h => h.back s1) q1⟩
    · exact q1.elim
  refine PySem.W.callWith_K (h₀ := X.base) I.ok.mod.kin hk (thn (ha.run pos pins s σ H _ I h) ?_) he hpl
  rintro us s1 ⟨vs, H1, I1, r, q1⟩
  refine ⟨I1.kIn, ?_⟩
  have hl : us.length = ps.length := by rw [← r.length]; exact F.len _ _ _ _ q1
  have b := hb s1 us I1.kIn (by rw [List.append_nil]; exact hl)
  rw [List.append_nil] at b
  exact run_G (args := ⟨us, []⟩) F hr hG b (passAt tk σ) I1 r q1
end
/-- keywords -/
def dArgs (π : List Nat) (a b : DEnv → T (List D)) : DEnv → T (List D) := fun ρ => (a ρ).bind fun xs => (b ρ).bind fun ys => .ok (π.map fun i => (xs ++ ys).getD i .non)
/-- how positional values and keywords' values come to the parameters: π tells each parameter's place among them -/
def KwOk (fd : FuncData) (ps ks : List Str) (n : Nat) (π : List Nat) : Prop := ∀ us ws : List Value, us.length = n → ws.length = ks.length → bindArgs fd ⟨us, ks.zip ws⟩ = pure (ps.zip (π.map fun i => (us ++ ws).getD i .none))
theorem Reps.getD {K : PySem.W.Frag} {w : Addr} {F : Addr → Prop} {H : Hp} {vs : List V} {ds : List D} (r : Reps K w F H vs ds) (i : Nat) : Rep K w F H (vs.getD i .non) (ds.getD i .non) := by
  rw [List.getD_eq_getElem?_getD, List.getD_eq_getElem?_getD]
  cases e : ds[i]? with
  | some d =>
    obtain ⟨v, h1, h2⟩ := r.get e
    rw [h1]
    exact h2
  | none =>
    have : vs[i]? = none := by
      rw [List.getElem?_eq_none_iff] at e ⊢
      rw [r.length]
      exact e
    rw [this]
    exact .non
theorem Reps.perm {K : PySem.W.Frag} {w : Addr} {F : Addr → Prop} {H : Hp} {vs : List V} {ds : List D} (r : Reps K w F H vs ds) : ∀ π : List Nat, Reps K w F H (π.map fun i => vs.getD i .non) (π.map fun i => ds.getD i .non)
  | [] => .nil
  | i :: π => .cons (r.getD i) (Reps.perm r π)
theorem Vals.getDV {vs : List V} {us : List Value} (r : Vals vs us) (i : Nat) : RelV (vs.getD i .non) (us.getD i .none) := by
  rw [List.getD_eq_getElem?_getD, List.getD_eq_getElem?_getD]
  cases e : vs[i]? with
  | some d =>
    obtain ⟨v, h1, h2⟩ := r.get e
    rw [h1]
    exact h2
  | none =>
    rw [r.none_of e]
    rfl
theorem Vals.perm {vs : List V} {us : List Value} (r : Vals vs us) : ∀ π : List Nat, Vals (π.map fun i => vs.getD i .non) (π.map fun i => us.getD i .none)
  | [] => .nil
  | i :: π => .cons (Vals.getDV r i) (Vals.perm r π)
section
variable {X : Cx} {W : WX} {k : Nat} {f : Addr} {fd : FuncData} {ps ks : List Str} {x : Str} {p pos : Pos} {es : List Expr} {kws : List Keyword} {π : List Nat}
def tDK (K : PySem.W.Frag) (mg : Str → Option Value) (W : WX) (f : DEnv → T (List D)) : TA := tDA K mg W f
theorem PK.of {X : Cx} {es : List Keyword} {t t' : TA} (h : PK X es t) (k : ∀ σ H Q, t' σ H Q → t σ H Q) : PK X es t' := ⟨fun pos pins s σ H Q I q => h.run pos pins s σ H Q I (k σ H Q q)⟩
theorem dk_nil : PK X [] (tDA X.K X.mg W dNil) := PK.of pk_nil fun σ H Q ⟨w, F, ρ, n, c, q⟩ => q F H [] .refl c.toBase .nil
theorem dk_cons {e : Expr} {nm : Option Str} {kpos : Pos} {f : DEnv → T D} {g : DEnv → T (List D)} (h : PE X e (tD X.K X.mg W f)) (hr : PK X kws (tDA X.K X.mg W g)) : PK X (⟨nm, e, kpos⟩ :: kws) (tDA X.K X.mg W (dCons f g)) := PK.of (pk_cons h hr) fun σ H Q ⟨w, F, ρ, n, c, q⟩ =>
  tD.go c (T.wp_bind _ _ |>.mp q) (fun _ _ h => h) fun d m q1 F1 H1 v s1 c1 r => tDA.go c1 (T.wp_bind _ _ |>.mp q1) (fun _ _ h => h.back s1) fun ds m2 q2 F2 H2 vs s2 c2 r2 =>
    q2 F2 H2 (v :: vs) (s1.trans s2) c2.toBase (.cons (r.step s2 c1.toBase) r2)
/-- f(e, .., k = v, ..): n positional values -/
def dCallK (ar n kn : Nat) (π : List Nat) (fn : List D → T D) (a b : DEnv → T (List D)) : DEnv → T D := fun ρ => (a ρ).bind fun xs => (b ρ).bind fun ys => if π.length = ar ∧ xs.length = n ∧ ys.length = kn then fn (π.map fun i => (xs ++ ys).getD i .non) else .fail
theorem kw_read {ar : Nat} {fn : List D → T D} {fa fb : DEnv → T (List D)} {n kn : Nat} {σ : St} {H : Hp} {Q : VK} (h : tD X.K X.mg W (dCallK ar n kn π fn fa fb) σ H Q) :
    tDA X.K X.mg W fa σ H fun vs H1 => tDA X.K X.mg W fb σ H1 fun zs H2 => vs.length = n ∧ zs.length = kn ∧ spD X.K X.mg ar fn (π.map fun i => (vs ++ zs).getD i .non) H2 Q (WE W σ) := by
  obtain ⟨w, F, ρ, n', c, q⟩ := h
  refine tDA.go c (T.wp_bind _ _ |>.mp q) (fun _ _ h => h) fun ds m q1 F1 H1 vs s1 c1 r => tDA.go c1 (T.wp_bind _ _ |>.mp q1) (fun _ _ h => h.back s1) fun es m2 q2 F2 H2 zs s2 c2 r2 => ?_
  split at q2
  · rename_i hl
    refine ⟨by rw [r.length]; exact hl.2.1, by rw [r2.length]; exact hl.2.2, by rw [List.length_map]; exact hl.1, w, F2, m2, _, c2.toBase, ((r.step s2 c1.toBase).append r2).perm π, ?_⟩
    exact T.wp_mono (fun _ _ h => h.back (s1.trans s2)) (fun _ _ h => h.back (s1.trans s2)) q2
  · exact q2.elim
theorem de_callK0 {ar kn : Nat} {fn : List D → T D} {fb : DEnv → T (List D)} (F : FnG X.prog X.w X.K X.mg X.base k f fd ps (spD X.K X.mg ar fn)) (hr : Room k X.A) (hG : X.A.guards = some []) (tk : Takes X W) (hg : Gl X x) (hm : X.mg x = some (.ref f)) (hk : PySem.W.keepIn X.K (.ref f) = true)
    (hb : KwOk fd ps ks 0 π) (hkn : ks.length = kn) (hkw : PK X kws (tDA X.K X.mg W fb)) (hall : (backToKw pos (keywordEach kws X.env)).all (·.1.isSome) = true := by rfl) (hks : (backToKw pos (keywordEach kws X.env)).filterMap (·.1) = ks := by rfl)
    (hdb : (x == ("__debug__" : Str)) = false := by decide) (hpl : ((backTo pos (starEach [] X.env)).any (·.1) || (backToKw pos (keywordEach kws X.env)).any (·.1.isNone)) = false := by rfl) :
    PE X (.Call (.Name x p) [] kws pos) (tD X.K X.mg W (dCallK ar 0 kn π fn dNil fb)) := by
  constructor
  rintro pins s σ H Q I h
  have h := kw_read h
  refine wpAny_Call_Name_kw (ld_glob I hg hm ?_ hdb)
  have h0 := (da_nil (X := X) (W := W)).run pos pins s σ H _ I h
  refine PySem.W.callWith_KW0 (h₀ := X.base) I.ok.mod.kin hk hall ?_ hpl
  obtain ⟨w, F0, ρ, n, c, q⟩ := h
  have q := q F0 H [] .refl c.toBase .nil
  refine thn (hkw.run pos pins s σ H _ I q) ?_
  rintro ws s1 ⟨zs, H1, I1, r, l1, l2, q1⟩
  refine ⟨I1.kIn, ?_⟩
  rw [hks]
  have b : BindsTo s1 fd ⟨[], ks.zip ws⟩ (ps.zip (π.map fun i => ([] ++ ws).getD i .none)) := .of_eq (hb [] ws rfl (by rw [← r.length, l2, hkn]))
  exact run_G (args := ⟨[], ks.zip ws⟩) F hr hG b (passAt tk σ) I1 (Vals.perm r π) q1
theorem de_callK {ar n kn : Nat} {fn : List D → T D} {e : Expr} {fa fb : DEnv → T (List D)} (F : FnG X.prog X.w X.K X.mg X.base k f fd ps (spD X.K X.mg ar fn)) (hr : Room k X.A) (hG : X.A.guards = some []) (tk : Takes X W) (hg : Gl X x) (hm : X.mg x = some (.ref f)) (hk : PySem.W.keepIn X.K (.ref f) = true)
    (hb : KwOk fd ps ks n π) (hkn : ks.length = kn) (ha : PA X (e :: es) (tDA X.K X.mg W fa)) (hkw : PK X kws (tDA X.K X.mg W fb)) (hall : (backToKw pos (keywordEach kws X.env)).all (·.1.isSome) = true := by rfl) (hks : (backToKw pos (keywordEach kws X.env)).filterMap (·.1) = ks := by rfl)
    (hdb : (x == ("__debug__" : Str)) = false := by decide) (he : starEach (e :: es) X.env = (false, eval e X.env) :: starEach es X.env := by rfl) (hpl : ((backTo pos (starEach (e :: es) X.env)).any (·.1) || (backToKw pos (keywordEach kws X.env)).any (·.1.isNone)) = false := by rfl) :
    PE X (.Call (.Name x p) (e :: es) kws pos) (tD X.K X.mg W (dCallK ar n kn π fn fa fb)) := by
  constructor
  rintro pins s σ H Q I h
  have h := kw_read h
  refine wpAny_Call_Name_kw (ld_glob I hg hm ?_ hdb)
  refine PySem.W.callWith_KW (h₀ := X.base) I.ok.mod.kin hk hall (thn (ha.run pos pins s σ H _ I h) ?_) hpl he
  rintro us s1 ⟨vs, H1, I1, r1, q⟩
  refine thn (hkw.run pos pins s1 σ H1 _ I1 q) ?_
  rintro ws s2 ⟨zs, H2, I2, r, l1, l2, q1⟩
  refine ⟨I2.kIn, ?_⟩
  rw [hks]
  have b : BindsTo s2 fd ⟨us, ks.zip ws⟩ (ps.zip (π.map fun i => (us ++ ws).getD i .none)) := .of_eq (hb us ws (by rw [← r1.length, l1]) (by rw [← r.length, l2, hkn]))
  exact run_G (args := ⟨us, ks.zip ws⟩) F hr hG b (passAt tk σ) I2 (Vals.perm (r1.append r) π) q1
end
end
end AL
namespace AL
open PySem PySem.Spec PyProof.Rows L2
noncomputable section
variable [Tb]
/-! ## statements -/
/-- what is wanted of a statement's end -/
def PostS (K : PySem.W.Frag) (mg : Str → Option Value) (W : WX) (w : Addr) (F : Addr → Prop) (H : Hp) (O : Addr → Prop) (D : Ends) : Fl → Nat → Prop := fun fl m => match fl with
  | .nx ρ' => ∀ F' H' σ', StepS w F H O F' H' (Own σ' ρ') → Cur K w F' H' σ' ρ' m → D.nx σ' H'
  | .bk ρ' => ∀ F' H' σ', StepS w F H O F' H' (Own σ' ρ') → Cur K w F' H' σ' ρ' m → D.bk σ' H'
  | .ct ρ' => ∀ F' H' σ', StepS w F H O F' H' (Own σ' ρ') → Cur K w F' H' σ' ρ' m → D.ct σ' H'
  | .rt d => ∀ F' H' v, StepS w F H O F' H' (fun _ => False) → Base w F' H' m → Rep K w F' H' v d → D.rt v H'
  | .rs e ρ' => ∀ F' H' σ' c dd, StepS w F H O F' H' (Own σ' ρ') → Cur K w F' H' σ' ρ' m → RExc K mg w F' H' e c dd → W c dd σ' H'
theorem sD_iff {K : PySem.W.Frag} {mg : Str → Option Value} {W : WX} {g : DEnv → T Fl} {D : Ends} {σ : St} {H : Hp} : sD K mg W g D σ H ↔ ∃ w F ρ n, Cur K w F H σ ρ n ∧ (g ρ).wp (PostS K mg W w F H (Own σ ρ) D) (fun _ _ => False) n := Iff.rfl
section
variable {K : PySem.W.Frag} {mg : Str → Option Value} {W : WX} {w : Addr} {F F' : Addr → Prop} {H H' : Hp} {O O' : Addr → Prop} {D : Ends} {fl : Fl} {m : Nat}
theorem PostS.back (s : StepS w F H O F' H' O') (p : PostS K mg W w F H O D fl m) : PostS K mg W w F' H' O' D fl m := by
  cases fl with
  | nx ρ => exact fun F2 H2 σ2 s2 c => p F2 H2 σ2 (s.trans s2) c
  | bk ρ => exact fun F2 H2 σ2 s2 c => p F2 H2 σ2 (s.trans s2) c
  | ct ρ => exact fun F2 H2 σ2 s2 c => p F2 H2 σ2 (s.trans s2) c
  | rt d => exact fun F2 H2 v s2 b r => p F2 H2 v (s.trans s2) b r
  | rs e ρ => exact fun F2 H2 σ2 c dd s2 cu r => p F2 H2 σ2 c dd (s.trans s2) cu r
end
/-- an expression's errors become the statement's -/
def T.ex {α : Type} (ρ : DEnv) (t : T α) (k : α → T Fl) : T Fl := match t with
  | .ok a => k a
  | .exc e => .ok (.rs e ρ)
  | .draw m f => .draw m fun r => (f r).ex ρ k
  | .fail => .fail
@[simp] theorem T.ex_ok {α : Type} (ρ : DEnv) (a : α) (k : α → T Fl) : (T.ok a).ex ρ k = k a := by simp [T.ex]
@[simp] theorem T.ex_exc {α : Type} (ρ : DEnv) (e : Exc) (k : α → T Fl) : (T.exc e : T α).ex ρ k = .ok (.rs e ρ) := by simp [T.ex]
@[simp] theorem T.ex_fail {α : Type} (ρ : DEnv) (k : α → T Fl) : (T.fail : T α).ex ρ k = .fail := by simp [T.ex]
@[simp] theorem T.ex_draw {α : Type} (ρ : DEnv) (m : Int) (f : Int → T α) (k : α → T Fl) : (T.draw m f).ex ρ k = .draw m fun r => (f r).ex ρ k := by simp [T.ex]
theorem T.ex_bind {α β : Type} (ρ : DEnv) (t : T α) (k : α → T β) (l : β → T Fl) : (t.bind k).ex ρ l = t.ex ρ fun a => (k a).ex ρ l := by
  induction t with
  | ok a => simp
  | exc e => simp
  | draw m f ih => simp only [T.bind_draw, T.ex_draw]; exact congrArg _ (funext ih)
  | fail => simp
theorem T.wp_ex {α : Type} {ρ : DEnv} {t : T α} {k : α → T Fl} {Q : Fl → Nat → Prop} : ∀ {n : Nat}, (t.ex ρ k).wp Q (fun _ _ => False) n → t.wp (fun a m => (k a).wp Q (fun _ _ => False) m) (fun e m => Q (.rs e ρ) m) n := by
  induction t with
  | ok a => intro n h; rw [T.ex_ok] at h; exact h
  | exc e => intro n h; rw [T.ex_exc] at h; exact h
  | draw m f ih => intro n h; rw [T.ex_draw] at h; exact ⟨h.1, h.2.1, fun r h0 h1 => ih r (h.2.2 r h0 h1)⟩
  | fail => intro n h; simp [T.wp] at h
section
variable {X : Cx} {W : WX}
theorem PostS.exc {K : PySem.W.Frag} {mg : Str → Option Value} {w : Addr} {F : Addr → Prop} {H : Hp} {σ : St} {ρ : DEnv} {n : Nat} {e : Exc} {m : Nat} (c : Cur K w F H σ ρ n) (h : ∀ F' H' σ' cl dd, StepS w F H (Own σ ρ) F' H' (Own σ' ρ) → Cur K w F' H' σ' ρ m → RExc K mg w F' H' e cl dd → W cl dd σ' H') : PostX K mg w F H (fun c dd H' => W c dd σ H') e m :=
  fun F' H' cl dd s b r => h F' H' σ cl dd s.s (c.step s b) r
def gNil : DEnv → T Fl := fun ρ => .ok (.nx ρ)
def gSeq (g g' : DEnv → T Fl) : DEnv → T Fl := fun ρ => (g ρ).bind fun fl => match fl with
  | .nx ρ' => g' ρ'
  | fl => .ok fl
theorem dss_nil : PSs X [] (sD X.K X.mg W gNil) := PSs.of pss_nil fun D σ H ⟨w, F, ρ, n, c, q⟩ => q F H σ .refl c
theorem dss_cons {st : Stmt} {rest : List Stmt} {g g' : DEnv → T Fl} (h1 : PS X st (sD X.K X.mg W g)) (h2 : PSs X rest (sD X.K X.mg W g')) : PSs X (st :: rest) (sD X.K X.mg W (gSeq g g')) := PSs.of (pss_cons h1 h2) fun D σ H ⟨w, F, ρ, n, c, q⟩ => by
  refine ⟨w, F, ρ, n, c, T.wp_mono (fun fl m q1 => ?_) (fun _ _ h => h) (T.wp_bind _ _ |>.mp q)⟩
  cases fl with
  | nx ρ' => exact fun F' H' σ' s c' => ⟨w, F', ρ', m, c', T.wp_mono (fun _ _ h => PostS.back s h) (fun _ _ h => h) q1⟩
  | bk ρ' => exact q1
  | ct ρ' => exact q1
  | rt d => exact q1
  | rs e ρ' => exact q1
theorem dss_one {st : Stmt} {g : DEnv → T Fl} (h1 : PS X st (sD X.K X.mg W g)) : PSs X [st] (sD X.K X.mg W g) := pss_one h1
def gPass : DEnv → T Fl := fun ρ => .ok (.nx ρ)
theorem ds_pass {pos : Pos} : PS X (.Pass pos) (sD X.K X.mg W gPass) := PS.of ps_pass fun D σ H ⟨w, F, ρ, n, c, q⟩ => q F H σ .refl c
def gBreak : DEnv → T Fl := fun ρ => .ok (.bk ρ)
theorem ds_break {pos : Pos} : PS X (.Break pos) (sD X.K X.mg W gBreak) := PS.of ps_break fun D σ H ⟨w, F, ρ, n, c, q⟩ => q F H σ .refl c
def gContinue : DEnv → T Fl := fun ρ => .ok (.ct ρ)
theorem ds_continue {pos : Pos} : PS X (.Continue pos) (sD X.K X.mg W gContinue) := PS.of ps_continue fun D σ H ⟨w, F, ρ, n, c, q⟩ => q F H σ .refl c
/-- an own list is frozen ahead of a statement -/
def gFreeze (i : Nat) (g : DEnv → T Fl) : DEnv → T Fl := fun ρ => g (dFreeze i ρ)
theorem freeze_read {i : Nat} {g : DEnv → T Fl} {D : Ends} {σ : St} {H : Hp} (h : sD X.K X.mg W (gFreeze i g) D σ H) : sD X.K X.mg W g D σ H := by
  obtain ⟨w, F, ρ, n, c, q⟩ := h
  obtain ⟨F', s, c'⟩ := c.freeze i
  exact ⟨w, F', _, n, c', T.wp_mono (fun _ _ h => PostS.back s h) (fun _ _ h => h) q⟩
theorem ds_freeze (i : Nat) {st : Stmt} {g : DEnv → T Fl} (h : PS X st (sD X.K X.mg W g)) : PS X st (sD X.K X.mg W (gFreeze i g)) := PS.of h fun _ _ _ q => freeze_read q
def gExpr (f : DEnv → T D) : DEnv → T Fl := fun ρ => (f ρ).ex ρ fun _ => .ok (.nx ρ)
theorem ds_expr {e : Expr} {f : DEnv → T D} {pos : Pos} (h : PE X e (tD X.K X.mg W f)) (hs : swapsWith e none pos.line X.env = pure false := by rfl) : PS X (.Expr e pos) (sD X.K X.mg W (gExpr f)) := PS.of (ps_expr h hs) fun D σ H ⟨w, F, ρ, n, c, q⟩ =>
  tD.go c (T.wp_ex q) (fun e m h => PostS.exc c h) fun d m q1 F1 H1 v s1 c1 r => q1 F1 H1 σ s1.s c1
theorem ds_doc {x j pos pos'} : PS X (.Expr (.Constant (.str x) j pos) pos') (sD X.K X.mg W gPass) := PS.of ps_doc fun D σ H ⟨w, F, ρ, n, c, q⟩ => q F H σ .refl c
def gRet (f : DEnv → T D) : DEnv → T Fl := fun ρ => (f ρ).ex ρ fun d => .ok (.rt d)
theorem StepS.noOwn {w : Addr} {F : Addr → Prop} {H : Hp} {O F' O' : Addr → Prop} {H' : Hp} (s : StepS w F H O F' H' O') : StepS w F H O F' H' (fun _ => False) := ⟨s.keep', s.sub, s.new, fun _ h => h.elim, s.dom⟩
theorem ds_ret {e : Expr} {f : DEnv → T D} {pos : Pos} (h : PE X e (tD X.K X.mg W f)) : PS X (.Return (some e) pos) (sD X.K X.mg W (gRet f)) := PS.of (ps_ret h) fun D σ H ⟨w, F, ρ, n, c, q⟩ =>
  tD.go c (T.wp_ex q) (fun e m h => PostS.exc c h) fun d m q1 F1 H1 v s1 c1 r => q1 F1 H1 v (s1.s (O := Own σ ρ)).noOwn c1.toBase r
def gRetN : DEnv → T Fl := fun ρ => .ok (.rt .non)
theorem ds_retN {pos : Pos} : PS X (.Return none pos) (sD X.K X.mg W gRetN) := PS.of ps_retN fun D σ H ⟨w, F, ρ, n, c, q⟩ => q F H .non (StepS.refl (O := Own σ ρ)).noOwn c.toBase .non
def gIf (t : DEnv → T Bool) (a b : DEnv → T Fl) : DEnv → T Fl := fun ρ => (t ρ).ex ρ fun x => if x then a ρ else b ρ
theorem ds_if {t : Expr} {b1 b2 : List Stmt} {ft : DEnv → T Bool} {g1 g2 : DEnv → T Fl} {pos : Pos} (ht : PT X t (tDT X.K X.mg W ft)) (h1 : PSs X b1 (sD X.K X.mg W g1)) (h2 : PSs X b2 (sD X.K X.mg W g2)) : PS X (.If t b1 b2 pos) (sD X.K X.mg W (gIf ft g1 g2)) := PS.of (ps_if ht h1 h2) fun D σ H ⟨w, F, ρ, n, c, q⟩ =>
  tDT.go c (T.wp_ex q) (fun e m h => PostS.exc c h) fun x m q1 F1 H1 s1 c1 => by
    cases x with
    | true => exact iteT ⟨w, F1, ρ, m, c1, T.wp_mono (fun _ _ h => PostS.back s1.s h) (fun _ _ h => h) q1⟩
    | false => exact iteF ⟨w, F1, ρ, m, c1, T.wp_mono (fun _ _ h => PostS.back s1.s h) (fun _ _ h => h) q1⟩
/-- a name gets a value -/
def gSet (i : Nat) (f : DEnv → T D) : DEnv → T Fl := fun ρ => (f ρ).ex ρ fun d => .ok (.nx (ρ.set i (.sh d)))
theorem StepE.setSh {w : Addr} {F F' : Addr → Prop} {H H' : Hp} {σ : St} {ρ : DEnv} {i : Nat} {v : Option V} {d : D} (s : StepE w F H F' H') : StepS w F H (Own σ ρ) F' H' (Own (σ.set i v) (ρ.set i (.sh d))) :=
  ⟨fun a o n _ h nt => s.keep a o n h, s.sub, fun a h => (s.new a h).elim .inl fun z => .inr (.inl z), fun a h => .inl h.setSh, s.dom⟩
theorem ds_set {i : Nat} {x : Str} {e : Expr} {f : DEnv → T D} {pos pos' : Pos} (hN : X.N.Nodup) (hi : X.N[i]? = some x) (hx : Loc X.env.scope x) (h : PE X e (tD X.K X.mg W f)) (hs : swapsWith e (some (.Name x pos')) pos.line X.env = pure false := by rfl)
    (hf : X.fn x = true ∨ X.env.scope.names.lookup x = some .local := by first | exact .inl rfl | exact .inr rfl | assumption) : PS X (.Assign [.Name x pos'] e pos) (sD X.K X.mg W (gSet i f)) := PS.of (ps_set hN hi hx h hs hf) fun D σ H ⟨w, F, ρ, n, c, q⟩ =>
  tD.go c (T.wp_ex q) (fun e m h => PostS.exc c h) fun d m q1 F1 H1 v s1 c1 r => q1 F1 H1 _ s1.setSh ⟨c1.toBase, c1.env.setSh i r⟩
/-- a name gets a new list -/
def gSetN (i : Nat) (f : DEnv → T (List D)) : DEnv → T Fl := fun ρ => (f ρ).ex ρ fun xs => .ok (.nx (ρ.set i (.own xs)))
theorem setN_read {i : Nat} {f : DEnv → T (List D)} {D : Ends} {σ : St} {H : Hp} (h : sD X.K X.mg W (gSetN i f) D σ H) : tN X.K X.mg W f σ H fun x H1 => D.nx (σ.set i (some x)) H1 := by
  obtain ⟨w, F, ρ, n, c, q⟩ := h
  refine ⟨w, F, ρ, n, c, T.wp_mono (fun ds m q1 F1 H1 p vs s1 b1 hp nf h1 r => ?_) (fun e m h => PostS.exc c h) (T.wp_ex q)⟩
  have no : ¬ Own σ ρ p := fun h => by
    obtain ⟨_, _, us, hu⟩ := c.env.own_fz h
    rw [hp] at hu
    cases hu
  refine q1 F1 H1 _ ⟨fun a o n _ h nt => s1.keep a o n h, s1.sub, fun a h => (s1.new a h).elim .inl fun z => .inr (.inl z), fun a h => h.setOwn.imp id (fun z => by rw [z]; exact hp), s1.dom⟩ ⟨b1, ?_⟩
  exact (c.env.step s1 c.toBase).setOwn i nf (c.toBase.pne hp) h1 r no
theorem ds_setN {i : Nat} {x : Str} {e : Expr} {f : DEnv → T (List D)} {pos pos' : Pos} (hN : X.N.Nodup) (hi : X.N[i]? = some x) (hx : Loc X.env.scope x) (h : PE X e (tN X.K X.mg W f)) (hs : swapsWith e (some (.Name x pos')) pos.line X.env = pure false := by rfl)
    (hf : X.fn x = true ∨ X.env.scope.names.lookup x = some .local := by first | exact .inl rfl | exact .inr rfl | assumption) : PS X (.Assign [.Name x pos'] e pos) (sD X.K X.mg W (gSetN i f)) := PS.of (ps_set hN hi hx h hs hf) fun D σ H q => setN_read q
/-- y = [..] on one line -/
theorem ds_setLc {i : Nat} {y : Str} {py : Pos} {elt tg iter : Expr} {ifs : List Expr} {scope : Scope} {own : List (Str × Nat)} {pos spos : Pos} {fi : DEnv → T (List D)} {is : List Nat} {fb : D → DEnv → T DEnv} {ft : DEnv → T Bool} {fe : DEnv → T D} (hc : X.calm = true) (hN : X.N.Nodup) (hy : X.N[i]? = some y) (hyl : X.env.scope.names.lookup y = some .local)
    (hsw : swapsWith (.ListComp elt [⟨tg, iter, ifs, 0⟩] scope pos) (some (.Name y py)) spos.line X.env = pure true) (hi : PI X tg iter (tI X.K X.mg gAll W fi)) (ok : BlkOk X.N X.env.scope scope own) (his : ∀ i ∈ is, i ∈ own.map (·.2))
    (hg : ∀ (s : Shared) (H : Hp) (C : Addr) (cl : List (Str × Addr)) (fp : List Addr), PG (X.blk s H scope (compEnvC scope cl C X.env) fp) tg (tG X.K is fb))
    (ht : ∀ (s : Shared) (H : Hp) (C : Addr) (cl : List (Str × Addr)) (fp : List Addr), PTs (X.blk s H scope (compEnvC scope cl C X.env) fp) ifs (tDT X.K X.mg W0 ft))
    (he : ∀ (s : Shared) (H : Hp) (C : Addr) (cl : List (Str × Addr)) (fp : List Addr), PE (X.blk s H scope (compEnvC scope cl C X.env) fp) elt (tD X.K X.mg W0 fe)) (hs : ∀ x, foldedSetIterable iter X.env x = pure x := by intro _; rfl) :
    PS X (.Assign [.Name y py] (.ListComp elt [⟨tg, iter, ifs, 0⟩] scope pos) spos) (sD X.K X.mg W (gSetN i (dLc fi fb ft fe (own.map (·.2))))) := PS.of (ps_setLc hc hN hy hyl hsw hi ok hg ht he hs) fun D σ H q => lc_read his (setN_read q)
/-- a, b = e -/
def gAsg (f : DEnv → T D) (fb : D → DEnv → T DEnv) : DEnv → T Fl := fun ρ => (f ρ).ex ρ fun d => (fb d ρ).nox.bind fun ρ' => .ok (.nx ρ')
theorem ds_asg {tg e : Expr} {f : DEnv → T D} {is : List Nat} {fb : D → DEnv → T DEnv} {pos : Pos} (h : PE X e (tD X.K X.mg W f)) (hg : PG X tg (tG X.K is fb)) (hs : swapsWithSole [tg] e pos.line X.env = pure false := by rfl) (hw : swappedStores [tg] e X.env = pure none := by rfl)
    (h1 : (assignEach [tg] X.env).map (·.2) = [assign tg X.env] := by rfl) : PS X (.Assign [tg] e pos) (sD X.K X.mg W (gAsg f fb)) := PS.of (ps_asg h hg hs hw h1) fun D σ H ⟨w, F, ρ, n, c, q⟩ =>
  tD.go c (T.wp_ex q) (fun e m h => PostS.exc c h) fun d m q1 F1 H1 v s1 c1 r => ⟨w, F1, ρ, m, d, c1, r, T.wp_mono (fun ρ2 m2 q2 σ2 c2 o2 _ => q2 F1 H1 σ2 ⟨fun a o n _ h nt => s1.keep a o n h, s1.sub, fun a h => (s1.new a h).elim .inl fun z => .inr (.inl z), fun a h => .inl (o2 a h), s1.dom⟩ c2) (fun _ _ h => h.elim) (T.wp_nox (E' := fun _ _ => False) (T.wp_bind _ _ |>.mp q1))⟩
/-! ### the own list of a slot changes -/
theorem Cur.put {K : PySem.W.Frag} {w : Addr} {F : Addr → Prop} {H : Hp} {σ : St} {ρ : DEnv} {n : Nat} {i : Nat} {a : Addr} {xs ys : List D} {us : List V} (c : Cur K w F H σ ρ n) (hi : ρ[i]? = some (.own xs)) (ha : σ[i]? = some (some (.ref a))) (r : Reps K w F H us ys) :
    StepS w F H (Own σ ρ) F (upd H a (.lst us)) (Own σ (ρ.set i (.own ys))) ∧ Cur K w F (upd H a (.lst us)) σ (ρ.set i (.own ys)) n := by
  obtain ⟨b, vs, q1, q2, q3, q4, q5⟩ := c.env.at_own hi
  rw [ha] at q1
  cases q1
  have oa : Own σ ρ a := ⟨i, _, hi, rfl, ha⟩
  refine ⟨⟨fun b o nb no h _ => ?_, fun _ h => h, fun _ h => .inl h, fun b h => .inl (h.put hi), fun b h => ?_⟩, c.toBase.put q2 q3 q4, c.env.put hi ha r⟩
  · have ne : b ≠ a := fun e => no (e ▸ oa)
    rw [upd_ne ne]
    exact h
  · by_cases e : b = a
    · rw [e, upd_same] at h; cases h
    · rw [upd_ne e] at h; exact h
def gAppend (i : Nat) (f : DEnv → T D) : DEnv → T Fl := fun ρ => match ρ[i]? with
  | some (.own xs) => (f ρ).ex ρ fun d => if xs.length < sizeLine then .ok (.nx (ρ.set i (.own (xs ++ [d])))) else .fail
  | _ => .fail
theorem ds_append {o e : Expr} {apos pos pos' : Pos} (i : Nat) {f : DEnv → T D} (ho : PE X o (tVar i)) (h : PE X e (tD X.K X.mg W f)) (pe : ∀ t, PE X e t → PE X (.Call (.Attribute o "append" apos) [e] [] pos) (tBM X.K "list" rAppend (tVar i) (tCons t tNil))) (hs : swapsWith (.Call (.Attribute o "append" apos) [e] [] pos) none pos'.line X.env = pure false := by rfl) :
    PS X (.Expr (.Call (.Attribute o "append" apos) [e] [] pos) pos') (sD X.K X.mg W (gAppend i f)) := PS.of (ps_expr (pe _ h) hs) fun D σ H ⟨w, F, ρ, n, c, q⟩ => by
  unfold gAppend at q
  split at q
  rotate_left
  · exact q.elim
  rename_i xs hi
  obtain ⟨a, vs, q1, q2, q3, q4, q5⟩ := c.env.at_own hi
  refine ⟨.ref a, q1, .inl ⟨rfl, vs, SqL.of q4⟩, ?_⟩
  refine tD.go c (T.wp_ex q) (fun e m h => PostS.exc c h) fun d m q6 F1 H1 v s1 c1 r => ?_
  split at q6
  · rename_i hz
    have hs := q5.step s1 c.toBase
    have h1 := s1.keep a _ q3 q4
    refine ⟨a, vs, v, rfl, rfl, h1, by rw [q5.length]; exact hz, ?_⟩
    obtain ⟨s2, c2⟩ := c1.put hi q1 (hs.append (.cons r .nil))
    exact q6 F1 _ σ (s1.s.trans s2) c2
  · exact q6.elim
def gExtend (i : Nat) (f : DEnv → T Sq) : DEnv → T Fl := fun ρ => match ρ[i]? with
  | some (.own xs) => (f ρ).ex ρ fun s => match s with
    | .l ys => if xs.length + ys.length ≤ sizeLine then .ok (.nx (ρ.set i (.own (xs ++ ys)))) else .fail
    | .t _ => .fail
  | _ => .fail
theorem ds_extend {o e : Expr} {apos pos pos' : Pos} (i : Nat) {f : DEnv → T Sq} (ho : PE X o (tVar i)) (h : PE X e (tS X.K X.mg W f)) (pe : ∀ t, PE X e t → PE X (.Call (.Attribute o "extend" apos) [e] [] pos) (tBM X.K "list" rExtend (tVar i) (tCons t tNil))) (hs : swapsWith (.Call (.Attribute o "extend" apos) [e] [] pos) none pos'.line X.env = pure false := by rfl) :
    PS X (.Expr (.Call (.Attribute o "extend" apos) [e] [] pos) pos') (sD X.K X.mg W (gExtend i f)) := PS.of (ps_expr (pe _ h) hs) fun D σ H ⟨w, F, ρ, n, c, q⟩ => by
  unfold gExtend at q
  split at q
  rotate_left
  · exact q.elim
  rename_i xs hi
  obtain ⟨a, vs, q1, q2, q3, q4, q5⟩ := c.env.at_own hi
  refine ⟨.ref a, q1, .inl ⟨rfl, vs, SqL.of q4⟩, ?_⟩
  refine tS.go c (T.wp_ex q) (fun e m h => PostS.exc c h) fun s m q6 F1 H1 b us s1 c1 hq r => ?_
  cases s with
  | t ys => exact q6.elim
  | l ys =>
    dsimp only at q6
    split at q6
    · rename_i hz
      have hs := q5.step s1 c.toBase
      have h1 := s1.keep a _ q3 q4
      refine ⟨a, b, vs, us, rfl, rfl, h1, hq.2, by rw [q5.length, r.length]; exact hz, ?_⟩
      obtain ⟨s2, c2⟩ := c1.put hi q1 (hs.append r)
      exact q6 F1 _ σ (s1.s.trans s2) c2
    · exact q6.elim
/-! ### for, while -/
def forGo (fb : D → DEnv → T DEnv) (g : DEnv → T Fl) : List D → DEnv → T Fl
  | [], ρ => .ok (.nx ρ)
  | x :: r, ρ => (fb x ρ).nox.bind fun ρ1 => (g ρ1).bind fun fl => match fl with
    | .nx ρ2 => forGo fb g r ρ2
    | .ct ρ2 => forGo fb g r ρ2
    | .bk ρ2 => .ok (.nx ρ2)
    | .rt d => .ok (.rt d)
    | .rs e ρ2 => .ok (.rs e ρ2)
def gFor (fi : DEnv → T (List D)) (fb : D → DEnv → T DEnv) (g : DEnv → T Fl) : DEnv → T Fl := fun ρ => (fi ρ).ex ρ fun xs => forGo fb g xs ρ
theorem ds_for {tg iter : Expr} {body : List Stmt} {fi : DEnv → T (List D)} {is : List Nat} {fb : D → DEnv → T DEnv} {g : DEnv → T Fl} {pos : Pos} (hp : PassesOwn (model X.prog X.w) X.A X.env X.xe) (hc : X.calm = true) (hi : PI X tg iter (tI X.K X.mg gFz W fi)) (hg : PG X tg (tG X.K is fb)) (hb : PSs X body (sD X.K X.mg W g))
    (hs : ∀ x, foldedSetIterable iter X.env x = pure x := by intro _; rfl) : PS X (.For tg iter body [] pos) (sD X.K X.mg W (gFor fi fb g)) := PS.of (ps_for hp hc hi hg hb hs) fun D σ H ⟨w, F, ρ, n, c, q⟩ => by
  refine ⟨w, F, ρ, n, c, T.wp_mono (fun xs m q1 F1 H1 J s1 b1 it => ?_) (fun e m h => PostS.exc c h) (T.wp_ex q)⟩
  refine ⟨fun i k σ' H' => ∃ (F' : Addr → Prop) (ρ' : DEnv) (n' : Nat), i + k = xs.length ∧ StepS w F H (Own σ ρ) F' H' (Own σ' ρ') ∧ Cur X.K w F' H' σ' ρ' n' ∧ (∀ b, F1 b → F' b) ∧ (∀ b o, F1 b → H1 b = some o → H' b = some o) ∧ (forGo fb g (xs.drop i) ρ').wp (PostS X.K X.mg W w F H (Own σ ρ) D) (fun _ _ => False) n',
    ⟨xs.length, F1, ρ, m, Nat.zero_add _, s1.s, c.step s1 b1, fun _ z => z, fun _ _ _ z => z, by rw [List.drop_zero]; exact q1⟩, fun i k σ' H' hW => ?_⟩
  obtain ⟨F', ρ', n', hik, s', c', f1, k1, q'⟩ := hW
  have IT := it F' H' n' f1 k1 (fun _ _ z => z.elim) c'.toBase
  by_cases hlt : i < xs.length
  · have hx : xs[i]? = some xs[i] := List.getElem?_eq_getElem hlt
    obtain ⟨go, yl⟩ := IT.1 i _ hx
    rw [List.drop_eq_getElem_cons hlt] at q'
    simp only [forGo] at q'
    refine .inr ⟨go, fun σ2 H2 => ∃ (F2 : Addr → Prop) (ρ2 : DEnv) (n2 : Nat), StepS w F H (Own σ ρ) F2 H2 (Own σ2 ρ2) ∧ Cur X.K w F2 H2 σ2 ρ2 n2 ∧ (∀ b, F1 b → F2 b) ∧ (∀ b o, F1 b → H1 b = some o → H2 b = some o) ∧ (forGo fb g (xs.drop (i + 1)) ρ2).wp (PostS X.K X.mg W w F H (Own σ ρ) D) (fun _ _ => False) n2,
      fun σ2 H2 ⟨F2, ρ2, n2, r⟩ => ⟨k - 1, by omega, F2, ρ2, n2, by omega, r⟩, fun v H3 y => ?_⟩
    obtain ⟨F3, s3, b3, rx⟩ := yl v H3 y
    have c3 := c'.step s3 b3
    refine ⟨w, F3, ρ', n', _, c3, rx, T.wp_mono (fun ρ4 m4 q4 σ4 c4 o4 _ => ?_) (fun _ _ h => h.elim) (T.wp_nox (E' := fun _ _ => False) (T.wp_bind _ _ |>.mp q'))⟩
    have s4 : StepS w F' H' (Own σ' ρ') F3 H3 (Own σ4 ρ4) := ⟨fun a o n _ h nt => s3.keep a o n h, s3.sub, fun a h => (s3.new a h).elim .inl fun z => .inr (.inl z), fun a h => .inl (o4 a h), s3.dom⟩
    have s04 := s'.trans s4
    have kp : ∀ {F5 : Addr → Prop} {H5 : Hp} {O5 : Addr → Prop}, StepS w F3 H3 (Own σ4 ρ4) F5 H5 O5 → (∀ b, F1 b → F5 b) ∧ (∀ b o, F1 b → H1 b = some o → H5 b = some o) := fun {F5 H5 O5} s5 =>
      ⟨fun b z => s5.sub b (s3.sub b (f1 b z)), fun b o f z => s5.fz c4 b o (s3.sub b (f1 b f)) (s3.fz c'.toBase (f1 b f) (k1 b o f z))⟩
    refine ⟨w, F3, ρ4, m4, c4, T.wp_mono (fun fl m5 q5 => ?_) (fun _ _ h => h) (T.wp_bind _ _ |>.mp q4)⟩
    cases fl with
    | nx ρ5 => exact fun F5 H5 σ5 s5 c5 => ⟨F5, ρ5, m5, s04.trans s5, c5, (kp s5).1, (kp s5).2, q5⟩
    | ct ρ5 => exact fun F5 H5 σ5 s5 c5 => ⟨F5, ρ5, m5, s04.trans s5, c5, (kp s5).1, (kp s5).2, q5⟩
    | bk ρ5 => exact fun F5 H5 σ5 s5 c5 => q5 F5 H5 σ5 (s04.trans s5) c5
    | rt d => exact fun F5 H5 v5 s5 b5 r5 => q5 F5 H5 v5 (s04.trans s5) b5 r5
    | rs e ρ5 => exact fun F5 H5 σ5 cl dd s5 c5 r5 => q5 F5 H5 σ5 cl dd (s04.trans s5) c5 r5
  · have e : i = xs.length := by omega
    subst e
    rw [List.drop_length] at q'
    exact .inl ⟨IT.2, q' F' H' σ' s' c'⟩
end
end
end AL
namespace AL
open PySem PySem.Spec PyProof.Rows L2
noncomputable section
variable [Tb]
/-! ## a def's body -/
def env0 (n : Nat) (ds : List D) : DEnv := ds.map Slot.sh ++ List.replicate (n - ds.length) Slot.no
/-- the run of a body with n slots -/
def bodyT (n : Nat) (g : DEnv → T Fl) (ds : List D) : T D := (g (env0 n ds)).nox.bind fun fl => match fl with
  | .nx _ => .ok .non
  | .rt d => .ok d
  | .rs e _ => .exc e
  | .bk _ => .fail
  | .ct _ => .fail
theorem env0_get {n : Nat} {ds : List D} {i : Nat} {s : Slot} (h : (env0 n ds)[i]? = some s) : (∃ d, ds[i]? = some d ∧ s = .sh d) ∨ s = .no := by
  unfold env0 at h
  by_cases hi : i < ds.length
  · rw [List.getElem?_append_left (by rw [List.length_map]; exact hi), List.getElem?_map] at h
    cases e : ds[i]? with
    | none => rw [e] at h; cases h
    | some d =>
      rw [e] at h
      exact .inl ⟨d, rfl, (Option.some.inj h).symm⟩
  · rw [List.getElem?_append_right (by rw [List.length_map]; omega), List.getElem?_replicate] at h
    split at h
    · exact .inr (Option.some.inj h).symm
    · cases h
theorem start_env {K : PySem.W.Frag} {w : Addr} {F : Addr → Prop} {H : Hp} {N : List Str} {vs : List V} {ds : List D} (r : Reps K w F H vs ds) : REnv K w F H (L2.start N vs) (env0 N.length ds) := by
  have hl := r.length
  refine ⟨?_, fun i d h => ?_, fun i xs h ho => ?_, fun i j xs ys a _ h ho => ?_⟩
  · unfold L2.start env0
    rw [List.length_append, List.length_append, List.length_map, List.length_map, List.length_replicate, List.length_replicate, hl]
  · rcases env0_get h with ⟨d', h1, h2⟩ | h1
    · cases h2
      obtain ⟨v, h3, h4⟩ := r.get h1
      refine ⟨v, ?_, h4⟩
      have hi : i < vs.length := (List.getElem?_eq_some_iff.mp h3).1
      unfold L2.start
      rw [List.getElem?_append_left (by rw [List.length_map]; exact hi), List.getElem?_map, h3]
      rfl
    · cases h1
  · rcases env0_get h with ⟨d', h1, h2⟩ | h1
    · cases h2; cases ho
    · cases h1; cases ho
  · rcases env0_get h with ⟨d', h1, h2⟩ | h1
    · cases h2; cases ho
    · cases h1; cases ho
theorem start_own {N : List Str} {vs : List V} {ds : List D} {a : Addr} : ¬ Own (L2.start N vs) (env0 N.length ds) a := fun ⟨i, xs, h, ho, _⟩ => by
  rcases env0_get h with ⟨d', h1, h2⟩ | h1
  · cases h2; cases ho
  · cases h1; cases ho
theorem StepS.toE {w : Addr} {F F' O O' : Addr → Prop} {H H' : Hp} (s : StepS w F H O F' H' O') (no : ∀ a, ¬ O a) : StepE w F H F' H' := ⟨fun a o n h t => s.keep a o n (no a) h, s.sub, fun a h => by
  rcases s.new a h with q | q | q
  · exact .inl q
  · exact .inr q
  · exact (no a q).elim, s.dom⟩
/-- what a body's proof stands in -/
structure Ctx (X : Cx) (K : PySem.W.Frag) (mg : Str → Option Value) (k : Nat) : Prop where
  room : Room k X.A
  guards : X.A.guards = some []
section
variable {P : Program} {w : World} {K : PySem.W.Frag} {mg : Str → Option Value} {base : Heap}
/-- a def keeps a promise, by its body -/
theorem FnG.of {x qual : Str} {st : Stmt} {f : Addr} {fd : FuncData} {N ps : List Str} {k : Nat} {sp : Sp} (F : Fun K x qual st f fd) (S : FnScope N ps (defScope st)) (len : ∀ vs H Q E, sp vs H Q E → vs.length = ps.length)
    (hb : ∀ (cdv : Value) (A : Around) (outer : List Env) (s : Shared) (H : Hp) (vs : List V) (Q : VK) (E : XK), Room k (A.deeper (envOfC qual (defScope st) s.heap.objs.size f cdv)) → (A.deeper (envOfC qual (defScope st) s.heap.objs.size f cdv)).guards = some [] →
      (cxOf (L2.CX P w) P w K mg base N qual (defScope st) f cdv A outer s H E).A.units + 100 < cLine → Takes (cxOf (L2.CX P w) P w K mg base N qual (defScope st) f cdv A outer s H E) (fun c dd _ H => E c dd H) → sp vs H Q E →
      ∃ t, PSs (cxOf (L2.CX P w) P w K mg base N qual (defScope st) f cdv A outer s H E) (defBody st) t ∧ t { nx := fun _ H' => Q .non H', rt := Q } (L2.start N vs) H) : FnG P w K mg base (k + 1) f fd ps sp := by
  obtain ⟨oc, od, kV, doc, pm, an, cdv, ct, osl, rfl, lk, hcd⟩ := F.ex
  refine ⟨len, ?_⟩
  intro A outer s H args us vs Q E hr hG e0 hbt r hsp
  have hl := len _ _ _ _ hsp
  have KX : K.In s.heap := e0.mod.kin.keeps fun b o e => (e0.bs b o e).1
  have lim : s.heap.NoLimit := e0.mod.nolimit.keeps fun b o e => (e0.bs b o e).1
  have kinds : ∀ y ∈ ps.zip us, (defScope st).names.lookup y.1 = some .local ∨ ((defScope st).names.lookup y.1 = some .cell ∧ ((cellsFrom (s.heap.objs.size + 1) (defScope st).names []).lookup y.1).isSome = true) := by
    rintro ⟨nm, v⟩ hy
    refine (S.par nm (List.of_mem_zip hy).1).imp id fun q => ⟨q, ?_⟩
    exact PySem.W.cellsFrom_some _ _ _ (.inl q)
  refine codeAny_call_function hr.depth (KX _ _ lk) rfl S.co S.gen rfl (PySem.W.codeRec_of KX hcd) (hbt _ _ _ _ ?_)
  refine wpAny_newFunctionEnv_cells S.kind kinds ?_
  intro env he s1 x
  subst he
  refine ⟨lim.keeps x.toInCall.keep, codeAny_func ?_⟩
  obtain ⟨t, ht, hq⟩ := hb cdv A outer s H vs Q E (hr.deeper _) hG (by have := (hr.deeper (envOfC qual (defScope st) s.heap.objs.size f cdv)).un; show (A.deeper (envOfC qual (defScope st) s.heap.objs.size f cdv)).units + 100 < cLine; omega) (takes_of rfl rfl rfl rfl) hsp
  have I : Inv (cxOf (L2.CX P w) P w K mg base N qual (defScope st) f cdv A outer s H E) [] (L2.start N vs) H s1 := inv_start S hr.hd e0 hl r x
  refine wpAny_mono (ht.run [] s1 (L2.start N vs) H _ I hq) ?_ fun e s' hs => hs
  intro fl s' hs
  have fin : ∀ {σ' : St} {H' : Hp} {v : V} {u : Value}, Inv (cxOf (L2.CX P w) P w K mg base N qual (defScope st) f cdv A outer s H E) [] σ' H' s' → RelV v u → Q v H' → CE outer P w H s Q u s' :=
    fun {σ' H' v u} J rv q => ⟨v, H', J.os, J.bare, J.base, J.hok, rv, q⟩
  match fl, hs with
  | .ret u, ⟨v, σ', H', J, rv, q⟩ => exact fin J rv q
  | .next, ⟨σ', H', J, q⟩ => exact fin (v := V.non) (u := Value.none) J rfl q
  | .brk, ⟨_, _, _, q⟩ => exact q.elim
  | .cont, ⟨_, _, _, q⟩ => exact q.elim
theorem FnG.of_body {x qual : Str} {st : Stmt} {f : Addr} {fd : FuncData} {N ps : List Str} {k : Nat} (F : Fun K x qual st f fd) (S : FnScope N ps (defScope st)) (g : DEnv → T Fl) (n ar : Nat) (hn : N.length = n) (har : ps.length = ar)
    (hb : ∀ (cdv : Value) (A : Around) (outer : List Env) (s : Shared) (H : Hp) (E : XK), Room k (A.deeper (envOfC qual (defScope st) s.heap.objs.size f cdv)) → (A.deeper (envOfC qual (defScope st) s.heap.objs.size f cdv)).guards = some [] →
      (cxOf (L2.CX P w) P w K mg base N qual (defScope st) f cdv A outer s H E).A.units + 100 < cLine → Takes (cxOf (L2.CX P w) P w K mg base N qual (defScope st) f cdv A outer s H E) (fun c dd _ H => E c dd H) →
      PSs (cxOf (L2.CX P w) P w K mg base N qual (defScope st) f cdv A outer s H E) (defBody st) (sD K mg (fun c dd _ H => E c dd H) g)) : FnG P w K mg base (k + 1) f fd ps (spD K mg ar (bodyT n g)) := by
  subst hn har
  refine FnG.of F S (fun vs H Q E h => h.1) fun cdv A outer s H vs Q E hr hG hu tk hsp => ⟨_, hb cdv A outer s H E hr hG hu tk, ?_⟩
  obtain ⟨w', F0, n, ds, b, rr, q⟩ := hsp.2
  refine ⟨w', F0, _, n, ⟨b, start_env rr⟩, T.wp_mono (fun fl m q1 => ?_) (fun _ _ h => h) (T.wp_nox (E' := fun _ _ => False) (T.wp_bind _ _ |>.mp q))⟩
  cases fl with
  | nx ρ' => exact fun F' H' σ' s c => q1 F' H' .non (s.toE fun _ => start_own) c.toBase .non
  | bk ρ' => exact q1.elim
  | ct ρ' => exact q1.elim
  | rt d => exact fun F' H' v s b r => q1 F' H' v (s.toE fun _ => start_own) b r
  | rs e ρ' => exact fun F' H' σ' c dd s cu r => q1 F' H' c dd (s.toE fun _ => start_own) cu.toBase r
end
end
end AL
namespace AL
open PySem PySem.Spec PyProof.Rows L2
noncomputable section
variable [Tb]
/-! ## repr -/
def rRepr (K : PySem.W.Frag) : List V → Hp → VK → Prop := fun xs H Q => ∃ x d, xs = [x] ∧ Dp K H x d ∧ d.canLay0 = true ∧ d.showable = true ∧ d.shown.length ≤ sizeLine ∧ d.depth ≤ 64 ∧ Q (.str d.shown) H
theorem cr_repr {X : Cx} (hG : X.A.guards = some []) (hu : X.A.units + 100 < cLine) : CallR X (.builtin "repr") (rRepr X.K) := by
  intro pins s σ H xs us Q I r h
  obtain ⟨x, d, rfl, hd, hl, hsh, hz, hdp, q⟩ := h
  obtain ⟨u, rfl, ru⟩ := vals1 r
  cases hd with
  | non =>
    cases ru
    refine P.repr_of_none ⟨.str _, H, I.tok _, ⟨_, rfl⟩, ?_⟩
    simpa only [PyData.shown] using q
  | bl b =>
    cases ru
    refine P.repr_of_bool ⟨.str _, H, I.tok _, ⟨_, rfl⟩, ?_⟩
    simpa only [PyData.shown] using q
  | int i =>
    obtain ⟨t, rfl⟩ := ru
    refine P.repr_of_int (by simpa [PyData.showable] using hsh) ⟨.str _, H, I.tok _, ⟨_, rfl⟩, ?_⟩
    simpa only [PyData.shown] using q
  | str z =>
    obtain ⟨t, rfl⟩ := ru
    refine P.repr_of_str ⟨.str _, H, I.tok _, ⟨_, rfl⟩, ?_⟩ (by simpa only [PyData.shown] using hz)
    simpa only [PyData.shown] using q
  | lst hs ha =>
    cases ru
    obtain ⟨as, rd⟩ := Dp.reads I _ _ _ (.lst hs ha) (show RelV (.ref _) (Value.ref _) from rfl)
    exact repr_of_reads' rd hsh (PyData.noDict_hsm (PyData.hasDict_of_canLay _ hl)) hG (by omega) (fun _ _ e => e) (fun h' u tk hk => ⟨.str _, H, I.kept (t' := tk) hk, ⟨u, rfl⟩, q⟩) hz
  | tup hs ha =>
    cases ru
    obtain ⟨as, rd⟩ := Dp.reads I _ _ _ (.tup hs ha) (show RelV (.ref _) (Value.ref _) from rfl)
    exact repr_of_reads' rd hsh (PyData.noDict_hsm (PyData.hasDict_of_canLay _ hl)) hG (by omega) (fun _ _ e => e) (fun h' u tk hk => ⟨.str _, H, I.kept (t' := tk) hk, ⟨u, rfl⟩, q⟩) hz
def D.canShow (d : D) : Prop := d.plain = true ∧ d.py.showable = true ∧ d.py.shown.length ≤ sizeLine ∧ d.py.depth ≤ 64
instance (d : D) : Decidable d.canShow := Classical.propDecidable _
def dRepr (f : DEnv → T D) : DEnv → T D := fun ρ => (f ρ).bind fun d => if d.canShow then .ok (.str d.py.shown) else .fail
section
variable {X : Cx} {W : WX}
theorem de_repr {a : Expr} {f : DEnv → T D} {p pos : Pos} (hG : X.A.guards = some []) (hu : X.A.units + 100 < cLine) (hg : Gl X "repr") (hm : X.mg "repr" = none) (h : PE X a (tD X.K X.mg W f)) (he : starEach (a :: []) X.env = (false, eval a X.env) :: starEach [] X.env := by rfl) (hpl : (backTo pos (starEach [] X.env)).any (·.1) = false := by rfl) :
    PE X (.Call (.Name "repr" p) [a] [] pos) (tD X.K X.mg W (dRepr f)) :=
  PE.of (pe_callB (cr_repr hG hu) hg hm (by decide +kernel) (pa_cons h pa_nil he) (he := he) (hpl := hpl)) fun σ H Q ⟨w, F, ρ, n, c, q⟩ => arg1 <|
    tD.go c (T.wp_bind _ _ |>.mp q) (fun _ _ h => h) fun d m q1 F1 H1 v s1 c1 r => by
      split at q1
      · rename_i hc
        exact ⟨v, d.py, rfl, r.dp hc.1, D.canLay d hc.1, hc.2.1, hc.2.2.1, hc.2.2.2, q1 F1 H1 _ s1 c1.toBase (.str _)⟩
      · exact q1.elim
end
/-! ## several names at once -/
def RepM (K : PySem.W.Frag) (w : Addr) (H0 : Hp) (F : Addr → Prop) (H : Hp) (v : V) : Slot → Prop
  | .no => False
  | .sh d => Rep K w F H v d
  | s => ∃ p, v = .ref p ∧ H0 p = none ∧ ¬ F p ∧ OwnAt K w F H p s
/-- a value or a new list -/
def tM (K : PySem.W.Frag) (mg : Str → Option Value) (W : WX) (f : DEnv → T Slot) : TE := fun σ H Q => ∃ w F ρ n, Cur K w F H σ ρ n ∧ (f ρ).wp (fun s m => ∀ F' H' v, StepE w F H F' H' → Base w F' H' m → RepM K w H F' H' v s → Q v H') (PostX K mg w F H fun c dd H' => W c dd σ H') n
def dSh (f : DEnv → T D) : DEnv → T Slot := fun ρ => (f ρ).bind fun d => .ok (.sh d)
def dOwn (f : DEnv → T (List D)) : DEnv → T Slot := fun ρ => (f ρ).bind fun d => .ok (.own d)
section
variable {K : PySem.W.Frag} {w : Addr} {F F' : Addr → Prop} {H0 H H' : Hp} {n m : Nat} {σ : St} {ρ : DEnv}
theorem RepM.step {v : V} {s : Slot} (st : StepE w F H F' H') (b : Base w F H n) (h0 : ∀ p, H p = none → H0 p = none) (nw : ∀ p, H0 p = none → p ≠ w) (r : RepM K w H0 F H v s) : RepM K w H0 F' H' v s := by
  cases s with
  | no => exact r
  | sh d => exact Rep.step st b r
  | own xs =>
    obtain ⟨p, rfl, h1, h2, h3⟩ := r
    obtain ⟨o, h4⟩ := h3.some_
    exact ⟨p, rfl, h1, fun f => (st.new p f).elim h2 (fun z => by rw [h4] at z; cases z), h3.step st b (nw p h1)⟩
  | dic kvs =>
    obtain ⟨p, rfl, h1, h2, h3⟩ := r
    obtain ⟨o, h4⟩ := h3.some_
    exact ⟨p, rfl, h1, fun f => (st.new p f).elim h2 (fun z => by rw [h4] at z; cases z), h3.step st b (nw p h1)⟩
/-- a slot takes a value or a new list -/
theorem Cur.setM {v : V} {s : Slot} (c : Cur K w F H σ ρ n) (i : Nat) (nw : ∀ p, H0 p = none → p ≠ w) (no : ∀ p, H0 p = none → ¬ Own σ ρ p) (r : RepM K w H0 F H v s) : Cur K w F H (σ.set i (some v)) (ρ.set i s) n ∧ ∀ a, Own (σ.set i (some v)) (ρ.set i s) a → Own σ ρ a ∨ (H0 a = none ∧ v = .ref a) := by
  cases s with
  | no => exact r.elim
  | sh d => exact ⟨⟨c.toBase, c.env.setSh i r⟩, fun a h => .inl h.setSh⟩
  | own xs =>
    obtain ⟨p, rfl, h1, h2, h3⟩ := r
    exact ⟨⟨c.toBase, c.env.setOw i h2 (nw p h1) rfl h3 (no p h1)⟩, fun a h => h.setOw.imp id fun e => ⟨by rw [e]; exact h1, by rw [e]⟩⟩
  | dic kvs =>
    obtain ⟨p, rfl, h1, h2, h3⟩ := r
    exact ⟨⟨c.toBase, c.env.setOw i h2 (nw p h1) rfl h3 (no p h1)⟩, fun a h => h.setOw.imp id fun e => ⟨by rw [e]; exact h1, by rw [e]⟩⟩
end
section
variable {X : Cx} {W : WX}
theorem dm_sh {e : Expr} {f : DEnv → T D} (h : PE X e (tD X.K X.mg W f)) : PE X e (tM X.K X.mg W (dSh f)) := PE.of h fun σ H Q ⟨w, F, ρ, n, c, q⟩ =>
  ⟨w, F, ρ, n, c, T.wp_mono (fun d m q1 F1 H1 v s1 b1 r => q1 F1 H1 v s1 b1 r) (fun _ _ h => h) (T.wp_bind _ _ |>.mp q)⟩
theorem dm_own {e : Expr} {f : DEnv → T (List D)} (h : PE X e (tN X.K X.mg W f)) : PE X e (tM X.K X.mg W (dOwn f)) := PE.of h fun σ H Q ⟨w, F, ρ, n, c, q⟩ =>
  ⟨w, F, ρ, n, c, T.wp_mono (fun d m q1 F1 H1 p vs s1 b1 hp nf h1 r => q1 F1 H1 (.ref p) s1 b1 ⟨p, rfl, hp, nf, vs, h1, r⟩) (fun _ _ h => h) (T.wp_bind _ _ |>.mp q)⟩
theorem tM.go {f : DEnv → T Slot} {σ : St} {H : Hp} {Q : VK} {w : Addr} {F : Addr → Prop} {ρ : DEnv} {n : Nat} {E : Exc → Nat → Prop} {R : Slot → Nat → Prop} (c : Cur X.K w F H σ ρ n) (h : (f ρ).wp R E n)
    (hE : ∀ e m, E e m → PostX X.K X.mg w F H (fun c dd H' => W c dd σ H') e m)
    (hR : ∀ d m, R d m → ∀ F' H' v, StepE w F H F' H' → Cur X.K w F' H' σ ρ m → RepM X.K w H F' H' v d → Q v H') : tM X.K X.mg W f σ H Q :=
  ⟨w, F, ρ, n, c, T.wp_mono (fun d m r F' H' v s b p => hR d m r F' H' v s (c.step s b) p) hE h⟩
def gPar (i j : Nat) (f g : DEnv → T Slot) : DEnv → T Fl := fun ρ => (f ρ).ex ρ fun s => (g ρ).ex ρ fun t => .ok (.nx ((ρ.set i s).set j t))
/-- two slots are stored -/
theorem par_end {K : PySem.W.Frag} {w : Addr} {F F1 F2 : Addr → Prop} {H H1 H2 : Hp} {σ : St} {ρ : DEnv} {n m1 m2 : Nat} {x y : V} {s t : Slot} {i j : Nat} (c : Cur K w F H σ ρ n) (s1 : StepE w F H F1 H1) (c1 : Cur K w F1 H1 σ ρ m1) (r1 : RepM K w H F1 H1 x s) (s2 : StepE w F1 H1 F2 H2) (c2 : Cur K w F2 H2 σ ρ m2) (r2 : RepM K w H1 F2 H2 y t) :
    StepS w F H (Own σ ρ) F2 H2 (Own ((σ.set i (some x)).set j (some y)) ((ρ.set i s).set j t)) ∧ Cur K w F2 H2 ((σ.set i (some x)).set j (some y)) ((ρ.set i s).set j t) m2 := by
  have nw : ∀ p, H p = none → p ≠ w := fun p hp => c.toBase.pne hp
  have nw1 : ∀ p, H1 p = none → p ≠ w := fun p hp => c1.toBase.pne hp
  have no : ∀ p, H p = none → ¬ Own σ ρ p := fun p hp ho => by
    obtain ⟨_, _, us, hu⟩ := c.env.own_fz ho
    rw [hp] at hu
    cases hu
  have no1 : ∀ p, H1 p = none → ¬ Own σ ρ p := fun p hp => no p (s1.dom p hp)
  have r1' := r1.step s2 c1.toBase s1.dom nw
  obtain ⟨c3, o3⟩ := c2.setM i nw no r1'
  have no3 : ∀ p, H1 p = none → ¬ Own (σ.set i (some x)) (ρ.set i s) p := fun p hp ho => by
    rcases o3 p ho with q | ⟨q1, q2⟩
    · exact no1 p hp q
    · cases s with
      | no => exact r1
      | sh d => exact no p q1 ho.setSh
      | own xs =>
        obtain ⟨p', e, _, _, h3⟩ := r1
        rw [q2] at e
        cases e
        obtain ⟨o, h4⟩ := h3.some_
        rw [hp] at h4
        cases h4
      | dic kvs =>
        obtain ⟨p', e, _, _, h3⟩ := r1
        rw [q2] at e
        cases e
        obtain ⟨o, h4⟩ := h3.some_
        rw [hp] at h4
        cases h4
  obtain ⟨c4, o4⟩ := c3.setM j nw1 no3 r2
  have st := s1.trans s2
  refine ⟨⟨fun a o n _ h nt => st.keep a o n h, st.sub, fun a h => (st.new a h).elim .inl fun z => .inr (.inl z), fun a h => ?_, st.dom⟩, c4⟩
  rcases o4 a h with q | ⟨q, _⟩
  · exact (o3 a q).imp id fun z => z.1
  · exact .inr (s1.dom a q)
theorem ds_par {i j : Nat} {x y : Str} {a b : Expr} {f g : DEnv → T Slot} {px py pt pos : Pos} {kt k2 pt2} (hc : X.calm = true) (hN : X.N.Nodup) (hi : X.N[i]? = some x) (hj : X.N[j]? = some y) (hij : i ≠ j)
    (hx : X.env.scope.names.lookup x = some .local) (hy : X.env.scope.names.lookup y = some .local) (ha : PE X a (tM X.K X.mg W f)) (hb : PE X b (tM X.K X.mg W g)) (hw : swappedStores [.Tuple [.Name x px, .Name y py] kt pt] (.Tuple [a, b] k2 pt2) X.env = pure (some [x, y]))
    (he : starEach (a :: [b]) X.env = (false, eval a X.env) :: starEach [b] X.env := by rfl) (he2 : starEach (b :: []) X.env = (false, eval b X.env) :: starEach [] X.env := by rfl) (hs : swapsWithSole [.Tuple [.Name x px, .Name y py] kt pt] (.Tuple [a, b] k2 pt2) pos.line X.env = pure false := by rfl) :
    PS X (.Assign [.Tuple [.Name x px, .Name y py] kt pt] (.Tuple [a, b] k2 pt2) pos) (sD X.K X.mg W (gPar i j f g)) := PS.of (ps_par hc hN hi hj hij hx hy (pa_cons ha (pa_cons hb pa_nil he2) he) hw hs) fun D σ H ⟨w, F, ρ, n, c, q⟩ => by
  refine tM.go c (T.wp_ex q) (fun e m h => PostS.exc c h) fun s m q1 F1 H1 v s1 c1 r1 => ?_
  refine tM.go c1 (T.wp_ex q1) (fun e m h => PostX.back s1 (PostS.exc c h)) fun t m2 q2 F2 H2 u s2 c2 r2 => ⟨v, u, rfl, ?_⟩
  obtain ⟨h1, h2⟩ := par_end c s1 c1 r1 s2 c2 r2
  exact q2 F2 H2 _ h1 h2
/-- the same through a tuple -/
theorem ds_parU {i j : Nat} {x y : Str} {a b : Expr} {f g : DEnv → T Slot} {px py pt pos : Pos} {kt k2 pt2} (hc : X.calm = true) (hN : X.N.Nodup) (hi : X.N[i]? = some x) (hj : X.N[j]? = some y) (hx : Loc X.env.scope x) (hy : Loc X.env.scope y) (ha : PE X a (tM X.K X.mg W f)) (hb : PE X b (tM X.K X.mg W g))
    (hw : swappedStores [.Tuple [.Name x px, .Name y py] kt pt] (.Tuple [a, b] k2 pt2) X.env = pure none := by rfl)
    (he : starEach (a :: [b]) X.env = (false, eval a X.env) :: starEach [b] X.env := by rfl) (he2 : starEach (b :: []) X.env = (false, eval b X.env) :: starEach [] X.env := by rfl) (hs : swapsWithSole [.Tuple [.Name x px, .Name y py] kt pt] (.Tuple [a, b] k2 pt2) pos.line X.env = pure false := by rfl)
    (h1 : (assignEach [.Tuple [.Name x px, .Name y py] kt pt] X.env).map (·.2) = [assign (.Tuple [.Name x px, .Name y py] kt pt) X.env] := by rfl)
    (hf : X.fn x = true ∨ X.env.scope.names.lookup x = some .local := by first | exact .inl rfl | exact .inr rfl | assumption) (hf2 : X.fn y = true ∨ X.env.scope.names.lookup y = some .local := by first | exact .inl rfl | exact .inr rfl | assumption) :
    PS X (.Assign [.Tuple [.Name x px, .Name y py] kt pt] (.Tuple [a, b] k2 pt2) pos) (sD X.K X.mg W (gPar i j f g)) :=
  PS.of (ps_asg (pe_tup (pa_cons ha (pa_cons hb pa_nil he2) he)) (pg_tup (n := 2) hc (pgs_cons (pg_name hN hi hx hf) (pgs_cons (pg_name hN hj hy hf2) pgs_nil (by rfl)) (by rfl)) (by rfl) (by rfl)) hs hw h1) fun D σ H ⟨w, F, ρ, n, c, q⟩ => by
  refine tM.go c (T.wp_ex q) (fun e m h => PostS.exc c h) fun s m q1 F1 H1 v s1 c1 r1 => ?_
  refine tM.go c1 (T.wp_ex q1) (fun e m h => PostX.back s1 (PostS.exc c h)) fun t m2 q2 F2 H2 u s2 c2 r2 => ⟨by show 2 ≤ sizeLine; decide, fun p hp => ?_⟩
  have s3 := StepE.layOwn (w := w) (F := F2) (o := .tup [v, u]) hp
  refine ⟨p, [v, u], rfl, .inl (.inl upd_same), rfl, v, [u], rfl, u, [], rfl, rfl, ?_⟩
  have nw1 : ∀ p, H1 p = none → p ≠ w := fun p hp => c1.toBase.pne hp
  have r2' := r2.step s3 c2.toBase s2.dom nw1
  have c3 := c2.step s3 (c2.toBase.layOwn hp)
  obtain ⟨h1, h2⟩ := par_end (i := i) (j := j) c s1 c1 r1 (s2.trans s3) c3 r2'
  exact q2 F2 _ _ h1 h2
end
end
end AL
namespace AL
open PySem PySem.Spec PyProof.Rows L2
noncomputable section
variable [Tb]
/-! ## keywords' places, what is never reached -/
theorem kw_of {K : PySem.W.Frag} {x qual : Str} {st : Stmt} {f : Addr} {fd : FuncData} {ps ks : List Str} {n : Nat} {π : List Nat} (F : Fun K x qual st f fd)
    (h : ∀ (kV doc pm : Value) (an : Option Addr) (cdv ct : Value) (us ws : List Value), us.length = n → ws.length = ks.length → bindArgs (PySem.W.fnOf x qual (defArgs st) (defBody st) (defScope st) .none kV doc pm an cdv ct) ⟨us, ks.zip ws⟩ = pure (ps.zip (π.map fun i => (us ++ ws).getD i .none))) : KwOk fd ps ks n π := by
  obtain ⟨oc, od, kV, doc, pm, an, cdv, ct, osl, rfl, lk, hcd⟩ := F.ex
  exact h kV doc pm an cdv ct
section
variable {X : Cx} {W : WX}
def gNever : DEnv → T Fl := fun _ => .fail
theorem ds_never {st : Stmt} : PS X st (sD X.K X.mg W gNever) := PS.of ps_never fun D σ H ⟨w, F, ρ, n, c, q⟩ => q.elim
def dNeg (f : DEnv → T D) : DEnv → T D := fun ρ => (f ρ).bind fun d => match d with
  | .int i => .ok (.int (-i))
  | _ => .fail
theorem de_neg {a : Expr} {f : DEnv → T D} {pos : Pos} (h : PE X a (tD X.K X.mg W f)) : PE X (.UnaryOp .USub a pos) (tD X.K X.mg W (dNeg f)) :=
  PE.of (pe_un un_neg h) fun σ H Q ⟨w, F, ρ, n, c, q⟩ => tD.go c (T.wp_bind _ _ |>.mp q) (fun _ _ h => h) fun x m q1 F1 H1 v s1 c1 r => by
    cases x with
    | int i => cases r; exact ⟨i, rfl, q1 F1 H1 _ s1 c1.toBase (.int _)⟩
    | _ => exact q1.elim
/-! ## calls read by hand -/
def tCl (W : WX) (sp : Sp) (ta : TA) : TE := fun σ H Q => ta σ H fun vs H1 => sp vs H1 Q (WE W σ)
theorem pe_callG {k : Nat} {f : Addr} {fd : FuncData} {ps : List Str} {sp : Sp} {x : Str} {p pos : Pos} {e : Expr} {es : List Expr} {t : TA} (F : FnG X.prog X.w X.K X.mg X.base k f fd ps sp) (hr : Room k X.A) (hG : X.A.guards = some []) (tk : Takes X W) (hg : Gl X x) (hm : X.mg x = some (.ref f)) (hk : PySem.W.keepIn X.K (.ref f) = true) (hb : Binds X.K fd ps [])
    (ha : PA X (e :: es) t) (hdb : (x == ("__debug__" : Str)) = false := by decide) (he : starEach (e :: es) X.env = (false, eval e X.env) :: starEach es X.env := by rfl) (hpl : (backTo pos (starEach es X.env)).any (·.1) = false := by rfl) :
    PE X (.Call (.Name x p) (e :: es) [] pos) (tCl W sp t) := by
  constructor
  intro pins s σ H Q I h
  refine wpAny_Call_Name_kw (ld_glob I hg hm ?_ hdb)
  refine PySem.W.callWith_K (h₀ := X.base) I.ok.mod.kin hk (thn (ha.run pos pins s σ H _ I h) ?_) he hpl
  rintro us s1 ⟨vs, H1, I1, r, q1⟩
  refine ⟨I1.kIn, ?_⟩
  have hl : us.length = ps.length := by rw [← r.length]; exact F.len _ _ _ _ q1
  have b := hb s1 us I1.kIn (by rw [List.append_nil]; exact hl)
  rw [List.append_nil] at b
  exact run_G (args := ⟨us, []⟩) F hr hG b (passAt tk σ) I1 r q1
def PowOk (i j : Int) : Prop := 0 ≤ j ∧ (Builtin.Int.intBits i : Int) * j ≤ 2 ^ 27
theorem op_powI : OpR X (binaryOp .Pow) (rI PowOk fun i j => .int (i ^ j.toNat)) := L2.opI fun i j _ _ _ _ _ hc q => pow_int hc.1 hc.2 q
theorem FnG.of_ok {P : Program} {w : World} {K : PySem.W.Frag} {mg : Str → Option Value} {base : Heap} {k : Nat} {f : Addr} {fd : FuncData} {ps : List Str} {sp : Sp} (F : FnOk P w K mg base (L2.CX P w) k f fd ps sp) : FnG P w K mg base k f fd ps sp :=
  ⟨F.len, fun A outer s H args us vs Q E hr _ => F.run A outer s H args us vs Q E hr⟩
end
end
end AL
namespace AL
open PySem PySem.Spec PyProof.Rows L2
noncomputable section
variable [Tb]
/-! ## the end of a law: the promise of law is held against any script -/
/-- the script as the only thing that is tracked -/
def onlyH (a : Addr) (own : Bool) (vs : List Value) (ns : List Int) : Hp := fun b => if b = a ∧ own = true then some (.frz { cls := .type "list", data := .seq vs.toArray } (.lst (ns.map V.int))) else none
theorem onlyH_or (a : Addr) (own : Bool) (vs : List Value) (ns : List Int) (b : Addr) : onlyH a own vs ns b = none ∨ (b = a ∧ own = true ∧ onlyH a own vs ns b = some (.frz { cls := .type "list", data := .seq vs.toArray } (.lst (ns.map V.int)))) := by
  by_cases h : b = a ∧ own = true
  · exact .inr ⟨h.1, h.2, if_pos h⟩
  · exact .inl (if_neg h)
theorem callG {P : Program} {w : World} {K : PySem.W.Frag} {mg mb : Str → Option Value} {k : Nat} {fa a : Addr} {fd : FuncData} {x : Str} {sp : Sp} {s₁ : Shared} {vs : List Value} {ns : List Int}
    (KX : K.In s₁.heap) (hns : s₁.heap.Ns mainGlobals mg) (hb : s₁.heap.Ns builtinsNs mb) (hbb : ∀ x : Str, x ≠ "__name__" → mb x = bootBuiltins x) (hlim : s₁.heap.NoLimit) (hg : s₁.gens = #[])
    (ha : s₁.heap.get? a = some { cls := .type "list", data := .seq vs.toArray }) (hi : IntsAre vs ns) (hl : ns.length ≤ sizeLine) (hr : Room k callerA)
    (F : ∀ base : Heap, K.In base → base.Ns mainGlobals mg → FnG P w K mg base k fa fd [x] sp) (hbind : ∀ (s : Shared) (u : Value), BindsTo s fd ⟨[u], []⟩ [(x, u)])
    (hsp : ∀ H : Hp, Only H → SqL K H a (ns.map V.int) → sp [.ref a] H (fun v _ => v = .bl true) fun _ _ _ => False) :
    codeAny (model P w) callerA (.call (.ref fa) ⟨[.ref a], []⟩) (fun r s' => r = .ok (.ret (.bool true)) ∧ OldK s₁.heap s'.heap ∧ s'.os = s₁.os ∧ AllBare s'.gens) s₁ := by
  let own : Bool := (K.lookup a).isNone
  have ownK : own = true → K.lookup a = none := fun z => Option.isNone_iff_eq_none.mp z
  let T := onlyH a own vs ns
  have rel := vals_ints hi
  have cases2 := onlyH_or a own vs ns
  have tOnly : Only T := fun b => (cases2 b).imp id fun z => ⟨_, _, z.2.2⟩
  have tSq : SqL K T a (ns.map V.int) := by
    cases e : K.lookup a with
    | none => exact .inl (.inr ⟨_, if_pos ⟨rfl, by show (K.lookup a).isNone = true; rw [e]; rfl⟩⟩)
    | some o =>
      have g := KX a o e
      rw [ha] at g
      cases g
      exact .inr ⟨_, vs.toArray, _, e, rfl, rfl, rfl, by rw [List.size_toArray, hi.length]; exact hl, by simpa using rel⟩
  have tOk : HOk P w T s₁.heap := fun b u z => by
    rcases cases2 b with y | ⟨y, _, y2⟩
    · rw [show T b = none from y] at z; cases z
    · rw [show T b = _ from y2] at z
      cases z
      subst y
      exact ⟨ha, by rw [List.length_map]; exact hl, vs, _, rel, ha⟩
  have keepB : ∀ {b : Addr} {o : Obj}, s₁.heap.get? b = some o → T b = none → (hidT s₁.heap T).get? b = some o := fun y z => hidT_get y z
  have notD : ∀ {b : Addr} {o : Obj} {es : Array DictEntry} {ep : Nat}, s₁.heap.get? b = some o → o.data = .dict es ep → T b = none := fun {b o es ep} y d => by
    rcases cases2 b with z | ⟨z, _, _⟩
    · exact z
    · subst z
      rw [ha] at y
      cases y
      cases (show Data.seq vs.toArray _ = Data.dict es ep from d)
  have nsB : ∀ {b : Addr} {m : Str → Option Value}, s₁.heap.Ns b m → (hidT s₁.heap T).Ns b m := fun {b m} ⟨o, es, ep, y, d, r⟩ => ⟨o, es, ep, keepB y (notD y d), d, r⟩
  have inB : K.In (hidT s₁.heap T) := fun b o y => keepB (KX b o y) (by
    rcases cases2 b with z | ⟨z, z2, _⟩
    · exact z
    · subst z
      rw [ownK z2] at y
      cases y)
  have mod : Mod K mg (hidT s₁.heap T) := ⟨inB, nsB hns, ⟨mb, nsB hb, hbb⟩, let ⟨mc, h1, h2⟩ := hlim; ⟨mc, nsB h1, h2⟩⟩
  have env : Env0 P w K mg (hidT s₁.heap T) callerA [] s₁ T := ⟨rfl, mod, fun b o y => of_hidT y, Nat.le_of_eq (hidT_size _ _), trivial, fun b z => absurd (show b ∈ ([] : List Addr) from z) (by simp), tOk, .of_eq hg⟩
  have run := (F _ inB (nsB hns)).run callerA [] s₁ T ⟨[.ref a], []⟩ [.ref a] [.ref a] _ _ hr rfl env (hbind s₁ (.ref a)) (.cons rfl .nil) (hsp T tOnly tSq)
  refine codeAny_mono run fun r s' h => ?_
  match r, h with
  | .error e, h =>
    obtain ⟨_, _, _, _, _, _, _, _, _, _, _, _, z⟩ := h
    exact z.elim
  | .ok .next, h => exact False.elim h
  | .ok .brk, h => exact False.elim h
  | .ok .cont, h => exact False.elim h
  | .ok (.ret u), ⟨v, H2, os, bare, un, hok, rv, (q : v = .bl true)⟩ =>
    subst q
    obtain rfl : u = Value.bool true := rv
    refine ⟨rfl, OldK.of_keep fun b o y => ?_, os, bare⟩
    rcases cases2 b with z | ⟨_, _, z⟩
    · exact un.keep b o y z (fun z => absurd (show b ∈ ([] : List Addr) from z) (by simp)) (by simp)
    · have e1 := (tOk b _ z).1
      have e2 := (hok b _ (un.frzs b _ _ z)).1
      rw [y] at e1
      cases e1
      exact e2
theorem walkG {l : PySem.W.OpenLaw} {n k : Nat} {q : Program} {loose : List Str} {XP : (Str → Option Value) → Heap → Prop} {YP : World → Heap → Prop} {d : DefRec} {K : Params → PySem.W.Frag} {sp : World → Sp} {x : Str}
    (hn : l.most = some n) (hn2 : n ≤ sizeLine) (hdf : d.params.defaults = []) (hr : Room k callerA) (hY : ∀ (w : World) (h : Heap), YP w h → (K w.params).In h)
    (F : ∀ (w : World) (mg : Str → Option Value) (fa : Addr) (h : Heap), (K w.params).In h → h.Ns mainGlobals mg → mg d.name = some (.ref fa) →
      ∃ fd : FuncData, (∀ (s : Shared) (u : Value), BindsTo s fd ⟨[u], []⟩ [(x, u)]) ∧ ∀ base : Heap, (K w.params).In base → base.Ns mainGlobals mg → FnG l.prog w (K w.params) mg base k fa fd [x] (sp w))
    (hsp : ∀ (w : World) (H : Hp) (a : Addr) (ns : List Int), ns.length ≤ n → (∀ z ∈ ns, Builtin.Int.intBits z ≤ 1048576) → Only H → SqL (K w.params) H a (ns.map V.int) → sp w [.ref a] H (fun v _ => v = .bl true) fun _ _ _ => False) :
    PySem.W.WalkO q loose XP YP l.row.toRowW d [] (fun f vs => PySem.call f vs) := by
  refine Att.attach_callB hn hdf fun w s0 s1 mg mb fa o pm cd doc a vs ns G Y ho hd hcd hmg hobj hints hlen hbits hg => ?_
  have KX := hY w _ Y
  obtain ⟨fd, hb, hF⟩ := F w mg fa _ KX G.T.g hmg
  exact callG KX G.T.g G.T.b G.T.builtins G.T.nolimit hg hobj hints (Nat.le_trans hlen hn2) hr hF hb fun H hO hS => hsp w H a ns hlen hbits hO hS
/-- a def as the top has written it -/
structure DefAt (K : PySem.W.Frag) (x : Str) (st : Stmt) (f : Addr) (oc : Value) (od an : Option Addr) (sl : Array (Option Value)) (kV dc pm cd ct : Value) : Prop where
  a : PySem.W.nsIn K mainGlobals x = some (some (.ref f))
  l : K.lookup f = some ⟨oc, od, .func (PySem.W.fnOf x x (defArgs st) (defBody st) (defScope st) .none kV dc pm an cd ct), sl⟩
  c : PySem.W.codeIn K cd x = true
  k : PySem.W.keepIn K (.ref f) = true
theorem DefAt.F {K : PySem.W.Frag} {x : Str} {st : Stmt} {f : Addr} {oc : Value} {od an : Option Addr} {sl : Array (Option Value)} {kV dc pm cd ct : Value} (d : DefAt K x st f oc od an sl kV dc pm cd ct) : Fun K x x st f (PySem.W.fnOf x x (defArgs st) (defBody st) (defScope st) .none kV dc pm an cd ct) := fun_mk d.l d.c d.k
end
end AL
namespace AL
open PySem PySem.Spec PyProof.Rows L2
noncomputable section
variable [Tb]
/-! ## draws -/
/-- a draw below m: any number there -/
def TkOk (m : Int) : Prop := 0 < m ∧ m.natAbs < 2 ^ 64
instance (m : Int) : Decidable (TkOk m) := Classical.propDecidable _
def fTake : List D → T D
  | [.well, .int m] => if TkOk m then .draw m fun r => .ok (.int r) else .fail
  | _ => .fail
section
variable {K : PySem.W.Frag} {mg : Str → Option Value} {w : Addr} {F : Addr → Prop} {H : Hp} {n : Nat} {vs : List V} {ds : List D} {Q : VK} {E : XK}
theorem take_pre (b : Base w F H n) (r : Reps K w F H vs ds) (q : (fTake ds).wp (PostE K w F H Q) (PostX K mg w F H E) n) :
    ∃ m x y z : Int, vs = [.ref w, .int m] ∧ 0 < m ∧ m.natAbs < 2 ^ 64 ∧ n < T.line ∧ H w = some (.lst [.int x, .int y, .int z]) ∧ 0 ≤ x ∧ x.natAbs < 2 ^ 2000000 ∧ y.natAbs < 2 ^ 200 ∧ 0 ≤ z ∧ z ≤ n ∧ (w ≠ w → False) ∧
      ∀ (i x' z' : Int), 0 ≤ i → i < m → 0 ≤ x' → x' ≤ x → 0 ≤ z' → z' ≤ z + 1 → Q (.int i) (upd H w (.lst [.int x', .int y, .int z'])) := by
  unfold fTake at q
  split at q
  rotate_left
  · exact q.elim
  rename_i m
  split at q
  rotate_left
  · exact q.elim
  rename_i hm
  obtain ⟨x, y, z, h1, h2, h3, h4, h5, h6⟩ := b.well
  cases r with
  | cons r1 r =>
    cases r with
    | cons r2 r =>
      cases r
      cases r1
      cases r2
      refine ⟨m, x, y, z, rfl, hm.1, hm.2, q.2.1, h1, h2, h3, h4, h5, h6, fun z => z rfl, fun i x' z' i0 i1 x0 x1 z0 z1 => ?_⟩
      refine q.2.2 i i0 i1 F _ _ ⟨fun a o na h _ => by rw [upd_ne na]; exact h, fun _ h => h, fun _ h => .inl h, fun a h => ?_⟩ ⟨⟨x', y, z', upd_same, x0, ?_, h4, z0, ?_⟩, b.nw, fun a f => ?_, fun p hp => (b.tabs p hp).of (fun _ => id) (fun c ps hz => ?_) fun c u f hz => ?_⟩ (.int _)
      · by_cases e : a = w
        · rw [e, upd_same] at h; cases h
        · rw [upd_ne e] at h; exact h
      · have : x'.natAbs ≤ x.natAbs := by omega
        exact Nat.lt_of_le_of_lt this h3
      · have : ((n + 1 : Nat) : Int) = (n : Int) + 1 := by omega
        rw [this]; omega
      · have ne : a ≠ w := fun e => b.nw (e ▸ f)
        rw [upd_ne ne]
        exact b.dom' a f
      · rw [upd_ne fun e => by rw [e, h1] at hz; cases hz]
        exact hz
      · rw [upd_ne fun (e : c = w) => b.nw (by rw [← e]; exact f)]
        exact hz
end
/-! ### sizes -/
theorem bits_lt {i : Int} {a : Nat} (h : i.natAbs < 2 ^ a) (h0 : 0 < a) : Builtin.Int.intBits i ≤ a := by
  have l := PySem.Flt.log2_lt_of h0 h
  unfold Builtin.Int.intBits
  split <;> omega
theorem pow_ok {i : Int} {a e : Nat} (h : i.natAbs < 2 ^ a) (h0 : 0 < a) (hz : a * e ≤ 134217728) : PowOk i e := by
  refine ⟨Int.natCast_nonneg e, ?_⟩
  have b := bits_lt h h0
  have m : Builtin.Int.intBits i * e ≤ a * e := Nat.mul_le_mul_right e b
  have e2 : ((2 : Int) ^ 27) = ((134217728 : Nat) : Int) := by decide
  rw [e2]
  exact_mod_cast Nat.le_trans m hz
theorem abs_lt_of {i : Int} {a : Nat} (h1 : -(2 ^ a : Nat) < i) (h2 : i < (2 ^ a : Nat)) : i.natAbs < 2 ^ a := by omega
theorem add_lt {i j : Int} {a b : Nat} (hi : i.natAbs < 2 ^ a) (hj : j.natAbs < 2 ^ b) (h : b ≤ a) : (i + j).natAbs < 2 ^ (a + 1) := by
  have h2 : 2 ^ b ≤ 2 ^ a := Nat.pow_le_pow_right (by decide) h
  rw [Nat.pow_succ]
  omega
theorem lt_mono {i : Int} {a b : Nat} (h : i.natAbs < 2 ^ a) (k : a ≤ b) : i.natAbs < 2 ^ b := Nat.lt_of_lt_of_le h (Nat.pow_le_pow_right (by decide) k)
theorem mod_lt {i j : Int} {a : Nat} (h0 : 0 < j) (hj : j.natAbs < 2 ^ a) : (i % j).natAbs < 2 ^ a := by
  have h1 := Int.emod_nonneg i (by omega : j ≠ 0)
  have h2 := Int.emod_lt_of_pos i h0
  omega
section
variable {X : Cx}
/-- * of ints of any size that a script may have -/
theorem op_mulX : OpR X (binaryOp .Mult) (rI IntMulOk fun i j => .int (i * j)) := L2.opI fun _ _ _ _ _ _ _ hc q => mul_int q hc
end
theorem mul_ok {i j : Int} {a b : Nat} (ha : i.natAbs < 2 ^ a) (hb : j.natAbs < 2 ^ b) (h0 : 0 < a) (h1 : 0 < b) (h : a + b ≤ 134217728) : IntMulOk i j := by
  have x := bits_lt ha h0
  have y := bits_lt hb h1
  intro z
  have z2 := (Bool.and_eq_true_iff.mp z).2
  unfold Builtin.Int.intTooBig at z2
  have z3 := of_decide_eq_true z2
  have e : bitsLine = 134217728 := by decide
  rw [e] at z3
  omega
theorem lt_bits {i : Int} {a : Nat} (h : Builtin.Int.intBits i ≤ a) : i.natAbs < 2 ^ a := by
  unfold Builtin.Int.intBits at h
  split at h
  · rename_i z
    have e : i = 0 := by simpa using z
    subst e
    exact Nat.pow_pos (by decide)
  · exact Nat.lt_of_lt_of_le Nat.lt_log2_self (Nat.pow_le_pow_right (by decide) h)
theorem cut63 {xs : List V} (h : xs.length ≤ 63) : cutV xs none (some 63) = xs := by
  unfold cutV
  have e := HT.sIx_nat xs.length xs.length 63
  rw [show ((63 : Nat) : Int) = 63 from rfl] at e
  rw [e, HT.sIx_none, List.drop_zero, Nat.sub_zero, Nat.min_eq_right h, List.take_length]
/-- what the maker of a well promises -/
def spWell (K : PySem.W.Frag) : Sp := fun vs H Q _ => ∃ (a : Addr) (ns : List Int) (i : Int), vs = [.ref a, .int i] ∧ SqL K H a (ns.map V.int) ∧ ns.length ≤ 63 ∧ (∀ z ∈ ns, Builtin.Int.intBits z ≤ 1048576) ∧ 0 ≤ i ∧ i < 64 ∧
  ∀ H' p x y, (∀ b o, H b = some o → H' b = some o) → H p = none → H' p = some (.lst [.int x, .int y, .int 0]) → 0 ≤ x → x.natAbs < 2 ^ 2000000 → y.natAbs < 2 ^ 200 → Q (.ref p) H'
theorem keep_upd {H : Hp} {p : Addr} {o : HO} (h : H p = none) : ∀ b u, H b = some u → upd H p o b = some u := fun b u e => by
  rw [upd_ne (fun z => by rw [z, h] at e; cases e)]
  exact e
theorem SqL.keep {K : PySem.W.Frag} {H H' : Hp} {a : Addr} {xs : List V} (k : ∀ b o, H b = some o → H' b = some o) (h : SqL K H a xs) : SqL K H' a xs := by
  rcases h with (h | ⟨o, h⟩) | h
  · exact .inl (.inl (k _ _ h))
  · exact .inl (.inr ⟨o, k _ _ h⟩)
  · exact .inr h
/-! ### the turns behind a new well -/
theorem TabF.s {F : Addr → Prop} {H : Hp} {P : Addr} {q : Nat → Nat → Str} (t : TabF F H P q) : NdefX.TabN H P q := by
  obtain ⟨ps, h1, h2, h3⟩ := t
  refine ⟨ps, h1, h2, fun pos cv h => ?_⟩
  obtain ⟨c, e1, _, e3⟩ := h3 pos cv h
  exact ⟨c, e1, e3⟩
theorem SqL.stepS {K : PySem.W.Frag} {w : Addr} {F F' O O' : Addr → Prop} {H H' : Hp} {a : Addr} {xs : List V} (s : StepS w F H O F' H' O') (na : ∀ o, H a = some o → a ≠ w) (no : ¬ O a) (h : SqL K H a xs) : SqL K H' a xs := by
  rcases h with (h | ⟨o, h⟩) | h
  · exact .inl (.inl (s.keep _ _ (na _ h) no h))
  · exact .inl (.inr ⟨o, s.keep _ _ (na _ h) no h⟩)
  · exact .inr h
/-- the code objects that tables tell -/
def codesOf (H : Hp) (c : Addr) : Prop := ∃ q ∈ Tb.T, ∃ (ps : Array Value) (pos : Pos), H q.1 = some (.tbl ps) ∧ codeAmong pos ps.toList = some (.ref c)
theorem codes_at {H : Hp} (t : NdefX.TabsN Tb.T H) {c : Addr} (h : codesOf H c) : ∃ q, H c = some (LamX.CodeO c q) := by
  obtain ⟨q, hq, ps, pos, h1, h2⟩ := h
  obtain ⟨ps', h3, _, h4⟩ := t q hq
  rw [h1] at h3
  cases h3
  obtain ⟨c', e1, e2⟩ := h4 pos _ h2
  cases e1
  exact ⟨_, e2⟩
theorem tabs_codes {H : Hp} (t : NdefX.TabsN Tb.T H) : ∀ p ∈ Tb.T, TabF (codesOf H) H p.1 p.2 := fun p hp => by
  obtain ⟨ps, h1, h2, h3⟩ := t p hp
  refine ⟨ps, h1, h2, fun pos cv h => ?_⟩
  obtain ⟨c, e1, e2⟩ := h3 pos cv h
  subst e1
  exact ⟨c, rfl, ⟨p, hp, ps, pos, h1, h⟩, e2⟩
def envW (a : Addr) (i : Int) : DEnv := [.sh (.raw a), .sh (.int i), .sh .well, .no]
theorem envW_ow {a : Addr} {i : Int} {j : Nat} {s : Slot} (h : (envW a i)[j]? = some s) (ho : s.ow = true) : False := by
  match j, h with
  | 0, h => cases h; cases ho
  | 1, h => cases h; cases ho
  | 2, h => cases h; cases ho
  | 3, h => cases h; cases ho
  | j + 4, h => cases h
theorem envW_own {σ : St} {a p : Addr} {i : Int} : ¬ Own σ (envW a i) p := fun ⟨j, xs, h, ho, _⟩ => envW_ow h ho
theorem main_inner {K : PySem.W.Frag} {mg : Str → Option Value} {W : WX} {g : DEnv → T Fl} {D : Ends} {a p : Addr} {i x y : Int} {H3 H' : Hp} {v3 : Option V} {xs : List V} (hS : SqL K H3 a xs) (hT : NdefX.TabsN Tb.T H3) (k : ∀ b o, H3 b = some o → H' b = some o) (np : H3 p = none) (hp : H' p = some (.lst [.int x, .int y, .int 0]))
    (hx0 : 0 ≤ x) (hx1 : x.natAbs < 2 ^ 2000000) (hy : y.natAbs < 2 ^ 200) (hg : (g (envW a i)).wp (fun fl _ => ∃ s1 s2 s3, fl = .nx [.sh (.raw a), s1, s2, s3]) (fun _ _ => False) 0)
    (hD : ∀ σ2 H2, (∃ v1 v2 v3, σ2 = [some (.ref a), v1, v2, v3]) → SqL K H2 a xs → NdefX.TabsN Tb.T H2 → D.nx σ2 H2) : sD K mg W g D [some (.ref a), some (.int i), some (.ref p), v3] H' := by
  have hS' : SqL K H' a xs := SqL.keep k hS
  have hT' : NdefX.TabsN Tb.T H' := hT.ext k
  have nap : ∀ o, H' a = some o → SqL K H3 a xs → a ≠ p ∨ ∀ q, H3 a ≠ some q := fun o _ _ => by
    by_cases e : a = p
    · exact .inr fun q hq => by rw [e, np] at hq; cases hq
    · exact .inl e
  refine ⟨p, codesOf H', envW a i, 0, ⟨⟨⟨x, y, 0, hp, hx0, hx1, hy, by omega, by omega⟩, fun z => ?_, fun b z => ?_, tabs_codes hT'⟩, ?_⟩, T.wp_mono (fun fl m q => ?_) (fun _ _ h => h) hg⟩
  · obtain ⟨q, hq⟩ := codes_at hT' z
    rw [hp] at hq
    cases hq
  · obtain ⟨q, hq⟩ := codes_at hT' z
    exact ⟨_, hq, fun _ h => by cases h⟩
  · refine ⟨rfl, fun j d h => ?_, fun j xs h ho => (envW_ow h ho).elim, fun j j2 xs ys b _ h ho => (envW_ow h ho).elim⟩
    · match j, h with
      | 0, h => cases h; exact ⟨_, rfl, .raw a⟩
      | 1, h => cases h; exact ⟨_, rfl, .int i⟩
      | 2, h => cases h; exact ⟨_, rfl, .well⟩
      | 3, h => cases h
      | j + 4, h => cases h
  · obtain ⟨s1, s2, s3, rfl⟩ := q
    refine fun F2 H2 σ2 st c => hD σ2 H2 ?_ ?_ fun q hq => (c.tabs q hq).s
    · have hl := c.env.len
      obtain ⟨v, h1, h2⟩ := c.env.sh 0 (.raw a) rfl
      cases h2
      match σ2, hl, h1 with
      | [u0, u1, u2, u3], _, h1 =>
        have e : u0 = some (.ref a) := Option.some.inj h1
        exact ⟨u1, u2, u3, by rw [e]⟩
    · rcases hS with (h | ⟨o, h⟩) | h
      · exact .inl (.inl (st.keep _ _ (fun e => by rw [e, np] at h; cases h) envW_own (k _ _ h)))
      · exact .inl (.inr ⟨o, st.keep _ _ (fun e => by rw [e, np] at h; cases h) envW_own (k _ _ h)⟩)
      · exact .inr h
/-- what law promises -/
def spLaw (K : PySem.W.Frag) : Sp := fun vs H Q _ => ∃ (a : Addr) (ns : List Int), vs = [.ref a] ∧ NdefX.TabsN Tb.T H ∧ SqL K H a (ns.map V.int) ∧ ns.length ≤ 63 ∧ (∀ z ∈ ns, Builtin.Int.intBits z ≤ 1048576) ∧ ∀ H', Q (.bl true) H'
end
/-- a law without tables -/
instance (priority := 10) tb0 : Tb := ⟨[], fun _ => ⟨"", "", default, default, default, []⟩⟩
end AL
namespace AL
open PySem PySem.Spec PyProof.Rows L2
noncomputable section
/-! ## the size of a repr -/
mutual
/-- numbers below 10 ^ 18, None, bools, tuples, lists -/
def D.num : D → Bool
  | .non | .bl _ => true
  | .int i => decide (i.natAbs < 10 ^ 18)
  | .tup xs | .lst xs => D.nums xs
  | .str s => PyData.strOk s && decide ((PyData.shown (.str s)).length ≤ 24)
  | _ => false
def D.nums : List D → Bool
  | [] => true
  | x :: r => D.num x && D.nums r
end
mutual
def D.sz : D → Nat
  | .tup xs | .lst xs => D.szs xs + 3
  | _ => 24
def D.szs : List D → Nat
  | [] => 0
  | x :: r => D.sz x + 2 + D.szs r
end
mutual
def D.dep : D → Nat
  | .tup xs | .lst xs => D.deps xs + 1
  | _ => 0
def D.deps : List D → Nat
  | [] => 0
  | x :: r => max (D.dep x) (D.deps r)
end
theorem len_ofString (s : String) : (Str.ofString s).length = s.toList.length := by
  rw [Str.ofString_eq_toList]
  show (s.toList.map Char.toNat).toArray.size = _
  rw [List.size_toArray, List.length_map]
theorem len_nat {n : Nat} (h : n < 10 ^ 18) : n.repr.toList.length ≤ 18 := by
  rw [Nat.toList_repr]
  exact (Nat.length_toDigits_le_iff (by decide) (by decide)).mpr h
theorem len_int {i : Int} (h : i.natAbs < 10 ^ 18) : (Str.ofString (toString i)).length ≤ 24 := by
  rw [len_ofString]
  cases i with
  | ofNat n =>
    have := len_nat (n := n) (by simpa using h)
    show n.repr.toList.length ≤ 24
    omega
  | negSucc n =>
    have := len_nat (n := n + 1) (by simpa using h)
    show ("-" ++ (n + 1).repr).toList.length ≤ 24
    rw [String.toList_append, List.length_append]
    have e : "-".toList.length = 1 := rfl
    omega
theorem textFrom_le : ∀ (ts : List Str) (k : Nat) (acc : Str), (textFrom k acc ts).length ≤ acc.length + piled ts
  | [], k, acc => by simp [textFrom, piled]
  | t :: r, k, acc => by
    have ih := textFrom_le r (k + 1) (acc ++ (if k > 0 then ", " else "" : String) ++ t)
    rw [piled_cons]
    unfold textFrom
    rw [strLen_append, strLen_append] at ih
    have e : ((if k > 0 then ", " else "" : String) : Str).length ≤ 2 := by split <;> decide
    omega
theorem listText_le (ts : List Str) : (listText ts).length ≤ piled ts + 2 := by
  unfold listText
  rw [strLen_append]
  have h := textFrom_le ts 0 "["
  have e1 : (("[" : String) : Str).length = 1 := by decide
  have e2 : (("]" : String) : Str).length = 1 := by decide
  omega
theorem tupleText_le (ts : List Str) : (tupleText ts).length ≤ piled ts + 3 := by
  unfold tupleText
  rw [strLen_append, strLen_append]
  have e1 : ((("(" : String) : Str)).length = 1 := by decide
  have e3 : (((if ts.length == 1 then ",)" else ")" : String) : Str)).length ≤ 2 := by split <;> decide
  by_cases h : ts = []
  · subst h
    have e4 : (Str.join ", " []).length = 0 := by decide
    omega
  · have := join_length_add ts h
    omega
mutual
theorem num_len : ∀ d : D, d.num = true → d.py.shown.length ≤ d.sz
  | .non, _ => by simp only [D.py, PyData.shown, D.sz]; decide
  | .bl b, _ => by cases b <;> simp only [D.py, PyData.shown, D.sz] <;> decide
  | .int i, h => by
    simp only [D.num, decide_eq_true_eq] at h
    simp only [D.py, PyData.shown, D.sz]
    exact len_int h
  | .tup xs, h => by
    simp only [D.py, PyData.shown, D.sz]
    have := nums_len xs (by simpa only [D.num] using h)
    have := tupleText_le (PyData.shownAll (D.pys xs))
    omega
  | .lst xs, h => by
    simp only [D.py, PyData.shown, D.sz]
    have := nums_len xs (by simpa only [D.num] using h)
    have := listText_le (PyData.shownAll (D.pys xs))
    omega
  | .str s, h => by
    simp only [D.num, Bool.and_eq_true, decide_eq_true_eq] at h
    simp only [D.py, D.sz]
    exact h.2
  | .well, h => by simp [D.num] at h
  | .raw _, h => by simp [D.num] at h
  | .exc _ _ _ _ _, h => by simp [D.num] at h
  | .err _ _ _, h => by simp [D.num] at h
  | .dic _ _, h => by simp [D.num] at h
  | .fn _ _, h => by simp [D.num] at h
  | .pf _ _, h => by simp [D.num] at h
theorem nums_len : ∀ ds : List D, D.nums ds = true → piled (PyData.shownAll (D.pys ds)) ≤ D.szs ds
  | [], _ => by simp [D.pys, PyData.shownAll, piled, D.szs]
  | d :: r, h => by
    simp only [D.nums, Bool.and_eq_true] at h
    have h1 := num_len d h.1
    have h2 := nums_len r h.2
    simp only [D.pys, PyData.shownAll, D.szs]
    rw [piled_cons]
    omega
end
mutual
theorem num_show : ∀ d : D, d.num = true → d.py.showable = true
  | .non, _ => by simp only [D.py, PyData.showable]
  | .bl b, _ => by simp only [D.py, PyData.showable]
  | .int i, h => by
    simp only [D.num, decide_eq_true_eq] at h
    simp only [D.py, PyData.showable, decide_eq_true_eq]
    have h2 : i.natAbs < 2 ^ 60 := Nat.lt_trans h (by decide)
    by_cases h0 : i.natAbs = 0
    · rw [h0]; decide
    · exact Nat.lt_trans ((Nat.log2_lt h0).mpr h2) (by decide)
  | .tup xs, h => by simp only [D.py, PyData.showable]; exact nums_show xs (by simpa only [D.num] using h)
  | .lst xs, h => by simp only [D.py, PyData.showable]; exact nums_show xs (by simpa only [D.num] using h)
  | .str _, h => by simp only [D.py, PyData.showable]
  | .well, h => by simp [D.num] at h
  | .raw _, h => by simp [D.num] at h
  | .exc _ _ _ _ _, h => by simp [D.num] at h
  | .err _ _ _, h => by simp [D.num] at h
  | .dic _ _, h => by simp [D.num] at h
  | .fn _ _, h => by simp [D.num] at h
  | .pf _ _, h => by simp [D.num] at h
theorem nums_show : ∀ ds : List D, D.nums ds = true → PyData.showableAll (D.pys ds) = true
  | [], _ => by simp [D.pys, PyData.showableAll]
  | d :: r, h => by
    simp only [D.nums, Bool.and_eq_true] at h
    simp only [D.pys, PyData.showableAll, num_show d h.1, nums_show r h.2, Bool.and_self]
end
mutual
theorem num_plain : ∀ d : D, d.num = true → d.plain = true
  | .non, _ => by simp only [D.plain]
  | .bl b, _ => by simp only [D.plain]
  | .int i, h => by simp only [D.plain]
  | .tup xs, h => by simp only [D.plain]; exact nums_plain xs (by simpa only [D.num] using h)
  | .lst xs, h => by simp only [D.plain]; exact nums_plain xs (by simpa only [D.num] using h)
  | .str _, h => by
    simp only [D.num, Bool.and_eq_true] at h
    simp only [D.plain, h.1]
  | .well, h => by simp [D.num] at h
  | .raw _, h => by simp [D.num] at h
  | .exc _ _ _ _ _, h => by simp [D.num] at h
  | .err _ _ _, h => by simp [D.num] at h
  | .dic _ _, h => by simp [D.num] at h
  | .fn _ _, h => by simp [D.num] at h
  | .pf _ _, h => by simp [D.num] at h
theorem nums_plain : ∀ ds : List D, D.nums ds = true → D.plains ds = true
  | [], _ => by simp [D.plains]
  | d :: r, h => by
    simp only [D.nums, Bool.and_eq_true] at h
    simp only [D.plains, num_plain d h.1, nums_plain r h.2, Bool.and_self]
end
mutual
theorem dep_py : ∀ d : D, d.py.depth = d.dep
  | .non => by simp only [D.py, PyData.depth, D.dep]
  | .bl b => by simp only [D.py, PyData.depth, D.dep]
  | .int i => by simp only [D.py, PyData.depth, D.dep]
  | .tup xs => by simp only [D.py, PyData.depth, D.dep, deps_py xs]
  | .lst xs => by simp only [D.py, PyData.depth, D.dep, deps_py xs]
  | .str _ => by simp only [D.py, PyData.depth, D.dep]
  | .well => by simp only [D.py, PyData.depth, D.dep]
  | .raw _ => by simp only [D.py, PyData.depth, D.dep]
  | .exc _ _ _ _ _ => by simp only [D.py, PyData.depth, D.dep]
  | .err _ _ _ => by simp only [D.py, PyData.depth, D.dep]
  | .dic _ _ => by simp only [D.py, PyData.depth, D.dep]
  | .fn _ _ => by simp only [D.py, PyData.depth, D.dep]
  | .pf _ _ => by simp only [D.py, PyData.depth, D.dep]
theorem deps_py : ∀ ds : List D, PyData.depthAll (D.pys ds) = D.deps ds
  | [] => by simp only [D.pys, PyData.depthAll, D.deps]
  | d :: r => by simp only [D.pys, PyData.depthAll, D.deps, dep_py d, deps_py r]
end
theorem canShow_of {d : D} (h : d.num = true) (hs : d.sz ≤ sizeLine) (hd : d.dep ≤ 64) : d.canShow :=
  ⟨num_plain d h, num_show d h, Nat.le_trans (num_len d h) hs, by rw [dep_py]; exact hd⟩
theorem nums_iff : ∀ {ds : List D}, D.nums ds = true ↔ ∀ d ∈ ds, d.num = true
  | [] => by simp [D.nums]
  | d :: r => by simp [D.nums, nums_iff (ds := r)]
theorem szs_le {ds : List D} {k : Nat} (h : ∀ d ∈ ds, d.sz ≤ k) : D.szs ds ≤ (k + 2) * ds.length := by
  induction ds with
  | nil => simp [D.szs]
  | cons d r ih =>
    have h1 := h d (by simp)
    have h2 := ih fun x hx => h x (by simp [hx])
    simp only [D.szs, List.length_cons]
    rw [Nat.mul_succ]
    omega
theorem deps_le {ds : List D} {k : Nat} (h : ∀ d ∈ ds, d.dep ≤ k) : D.deps ds ≤ k := by
  induction ds with
  | nil => simp [D.deps]
  | cons d r ih =>
    have h1 := h d (by simp)
    have h2 := ih fun x hx => h x (by simp [hx])
    simp only [D.deps]
    omega
end
end AL
namespace AL
open PySem PySem.Spec PyProof.Rows L2
noncomputable section
/-! ## the plain side: what the data functions are -/
@[simp] theorem s_dC (d : D) (ρ : DEnv) : dC d ρ = (.ok d) := rfl
@[simp] theorem s_dV (i : Nat) (ρ : DEnv) : dV i ρ = (match ρ[i]? with
  | some (.sh d) => .ok d
  | _ => .fail) := rfl
@[simp] theorem s_dB (op : D → D → T D) (a b : DEnv → T D) (ρ : DEnv) : dB op a b ρ = ((a ρ).bind fun x => (b ρ).bind fun y => op x y) := rfl
@[simp] theorem s_dT (f : DEnv → T D) (ρ : DEnv) : dT f ρ = ((f ρ).bind fun d => match d with
  | .bl b => .ok b
  | _ => .fail) := rfl
@[simp] theorem s_dTAnd (a b : DEnv → T Bool) (ρ : DEnv) : dTAnd a b ρ = ((a ρ).bind fun x => if x then b ρ else .ok false) := rfl
@[simp] theorem s_dTOr (a b : DEnv → T Bool) (ρ : DEnv) : dTOr a b ρ = ((a ρ).bind fun x => if x then .ok true else b ρ) := rfl
@[simp] theorem s_dTNot (a : DEnv → T Bool) (ρ : DEnv) : dTNot a ρ = ((a ρ).bind fun x => .ok (!x)) := rfl
@[simp] theorem s_dAnd (a b : DEnv → T D) (ρ : DEnv) : dAnd a b ρ = ((a ρ).bind fun x => match x with
  | .bl true => b ρ
  | .bl false => .ok (.bl false)
  | _ => .fail) := rfl
@[simp] theorem s_dOr (a b : DEnv → T D) (ρ : DEnv) : dOr a b ρ = ((a ρ).bind fun x => match x with
  | .bl false => b ρ
  | .bl true => .ok (.bl true)
  | _ => .fail) := rfl
@[simp] theorem s_dNot (a : DEnv → T D) (ρ : DEnv) : dNot a ρ = ((a ρ).bind fun x => match x with
  | .bl b => .ok (.bl (!b))
  | _ => .fail) := rfl
@[simp] theorem s_dIf (t : DEnv → T Bool) (a b : DEnv → T D) (ρ : DEnv) : dIf t a b ρ = ((t ρ).bind fun x => if x then a ρ else b ρ) := rfl
@[simp] theorem s_dNil (ρ : DEnv) : dNil ρ = (.ok []) := rfl
@[simp] theorem s_dCons (a : DEnv → T D) (b : DEnv → T (List D)) (ρ : DEnv) : dCons a b ρ = ((a ρ).bind fun x => (b ρ).bind fun r => .ok (x :: r)) := rfl
@[simp] theorem s_dTup (a : DEnv → T (List D)) (ρ : DEnv) : dTup a ρ = ((a ρ).bind fun xs => if xs.length ≤ sizeLine then .ok (.tup xs) else .fail) := rfl
@[simp] theorem s_dLst (a : DEnv → T (List D)) (ρ : DEnv) : dLst a ρ = ((a ρ).bind fun xs => if xs.length ≤ sizeLine then .ok xs else .fail) := rfl
@[simp] theorem s_dFz (f : DEnv → T (List D)) (ρ : DEnv) : dFz f ρ = ((f ρ).bind fun xs => .ok (.lst xs)) := rfl
@[simp] theorem s_dSqV (i : Nat) (ρ : DEnv) : dSqV i ρ = (match ρ[i]? with
  | some (.sh (.tup xs)) => .ok (.t xs)
  | some (.sh (.lst xs)) => .ok (.l xs)
  | some (.own xs) => .ok (.l xs)
  | _ => .fail) := rfl
@[simp] theorem s_dSq (f : DEnv → T D) (ρ : DEnv) : dSq f ρ = ((f ρ).bind fun d => match d with
  | .tup xs => .ok (.t xs)
  | .lst xs => .ok (.l xs)
  | _ => .fail) := rfl
@[simp] theorem s_dSqN (f : DEnv → T (List D)) (ρ : DEnv) : dSqN f ρ = ((f ρ).bind fun xs => .ok (.l xs)) := rfl
@[simp] theorem s_dLen (f : DEnv → T Sq) (ρ : DEnv) : dLen f ρ = ((f ρ).bind fun s => .ok (.int s.xs.length)) := rfl
@[simp] theorem s_dIx (f : DEnv → T Sq) (g : DEnv → T D) (ρ : DEnv) : dIx f g ρ = ((f ρ).bind fun s => (g ρ).bind fun i => opIx s i) := rfl
@[simp] theorem s_dTupOf (f : DEnv → T Sq) (ρ : DEnv) : dTupOf f ρ = ((f ρ).bind fun s => if s.xs.length ≤ sizeLine then .ok (.tup s.xs) else .fail) := rfl
@[simp] theorem s_dListOf (f : DEnv → T Sq) (ρ : DEnv) : dListOf f ρ = ((f ρ).bind fun s => .ok s.xs) := rfl
@[simp] theorem s_dCat (f g : DEnv → T Sq) (ρ : DEnv) : dCat f g ρ = ((f ρ).bind fun s => (g ρ).bind fun t => match s, t with
  | .l xs, .l ys => if xs.length + ys.length ≤ sizeLine then .ok (xs ++ ys) else .fail
  | _, _ => .fail) := rfl
@[simp] theorem s_dNoP (ρ : DEnv) : dNoP ρ = (.ok none) := rfl
@[simp] theorem s_dP (f : DEnv → T D) (ρ : DEnv) : dP f ρ = ((f ρ).bind fun d => match d with
  | .int i => .ok (some i)
  | _ => .fail) := rfl
@[simp] theorem s_dSlT (f : DEnv → T Sq) (lo hi : DEnv → T (Option Int)) (ρ : DEnv) : dSlT f lo hi ρ = ((f ρ).bind fun s => (lo ρ).bind fun l => (hi ρ).bind fun h => match s with
  | .t xs => .ok (.tup (cutD xs l h))
  | .l _ => .fail) := rfl
@[simp] theorem s_dSlL (f : DEnv → T Sq) (lo hi : DEnv → T (Option Int)) (ρ : DEnv) : dSlL f lo hi ρ = ((f ρ).bind fun s => (lo ρ).bind fun l => (hi ρ).bind fun h => match s with
  | .l xs => .ok (cutD xs l h)
  | .t _ => .fail) := rfl
@[simp] theorem s_dQuant (g : List Bool → Bool) (f : DEnv → T Sq) (ρ : DEnv) : dQuant g f ρ = ((f ρ).bind fun s => match s with
  | .l xs => match asBools xs with
    | some bs => .ok (.bl (g bs))
    | none => .fail
  | .t _ => .fail) := rfl
@[simp] theorem s_dIsi (Ty : String) (f : DEnv → T D) (ρ : DEnv) : dIsi Ty f ρ = ((f ρ).bind fun d => if d.known then .ok (.bl (d.isA Ty)) else .fail) := rfl
@[simp] theorem s_dItems (f : DEnv → T Sq) (ρ : DEnv) : dItems f ρ = ((f ρ).bind fun s => .ok s.xs) := rfl
@[simp] theorem s_dEnum (f : DEnv → T Sq) (ρ : DEnv) : dEnum f ρ = ((f ρ).bind fun s => .ok (numbered 0 s.xs)) := rfl
def rangeT (d : D) : T (List D) := match d with
  | .int j => if RngOk j then .ok (upFrom 0 j.toNat) else .fail
  | _ => .fail
def rangeT2 (d e : D) : T (List D) := match d, e with
  | .int i, .int j => if RngOk i ∧ RngOk j then .ok (upFrom i (j - i).toNat) else .fail
  | _, _ => .fail
@[simp] theorem s_dRange1 (f : DEnv → T D) (ρ : DEnv) : dRange1 f ρ = (f ρ).bind rangeT := rfl
@[simp] theorem s_dRange2 (f g : DEnv → T D) (ρ : DEnv) : dRange2 f g ρ = ((f ρ).bind fun d => (g ρ).bind fun e => rangeT2 d e) := rfl
theorem upFrom_eq : ∀ (n : Nat) (lo : Int), upFrom lo n = (List.range n).map fun k : Nat => D.int (lo + k)
  | 0, _ => rfl
  | n + 1, lo => by
    rw [List.range_succ_eq_map, List.map_cons, List.map_map]
    simp only [upFrom, upFrom_eq n (lo + 1)]
    congr 1
    · simp
    · refine List.map_congr_left fun k _ => ?_
      show D.int _ = D.int _
      congr 1
      have : ((k + 1 : Nat) : Int) = (k : Int) + 1 := by omega
      show lo + 1 + (k : Int) = lo + ((k + 1 : Nat) : Int)
      omega
theorem rangeT_nat {n : Nat} (h : n ≤ 1000000000) : rangeT (.int (n : Nat)) = .ok ((List.range n).map fun k : Nat => D.int k) := by
  unfold rangeT
  show (if RngOk _ then _ else _) = _
  rw [if_pos ⟨by omega, by omega⟩, Int.toNat_natCast, upFrom_eq]
  congr 1
  exact List.map_congr_left fun k _ => by simp
@[simp] theorem s_bName (i : Nat) (d : D) (ρ : DEnv) : bName i d ρ = (.ok (ρ.set i (.sh d))) := rfl
@[simp] theorem s_dLc (fi : DEnv → T (List D)) (fb : D → DEnv → T DEnv) (ft : DEnv → T Bool) (fe : DEnv → T D) (vs : List Nat) (ρ : DEnv) : dLc fi fb ft fe vs ρ = ((fi ρ).bind fun xs => if xs.length ≤ sizeLine then lcGo fb ft fe (dWipe ρ vs) xs else .fail) := rfl
@[simp] theorem s_dYes (ρ : DEnv) : dYes ρ = (.ok true) := rfl
@[simp] theorem s_dCall (ar : Nat) (fn : List D → T D) (a : DEnv → T (List D)) (ρ : DEnv) : dCall ar fn a ρ = ((a ρ).bind fun ds => if ds.length = ar then fn ds else .fail) := rfl
@[simp] theorem s_dCallK (ar n kn : Nat) (π : List Nat) (fn : List D → T D) (a b : DEnv → T (List D)) (ρ : DEnv) : dCallK ar n kn π fn a b ρ = ((a ρ).bind fun xs => (b ρ).bind fun ys => if π.length = ar ∧ xs.length = n ∧ ys.length = kn then fn (π.map fun i => (xs ++ ys).getD i .non) else .fail) := rfl
@[simp] theorem s_gNil (ρ : DEnv) : gNil ρ = (.ok (.nx ρ)) := rfl
@[simp] theorem s_gSeq (g g' : DEnv → T Fl) (ρ : DEnv) : gSeq g g' ρ = ((g ρ).bind fun fl => match fl with
  | .nx ρ' => g' ρ'
  | fl => .ok fl) := rfl
@[simp] theorem s_gPass (ρ : DEnv) : gPass ρ = (.ok (.nx ρ)) := rfl
@[simp] theorem s_gBreak (ρ : DEnv) : gBreak ρ = (.ok (.bk ρ)) := rfl
@[simp] theorem s_gContinue (ρ : DEnv) : gContinue ρ = (.ok (.ct ρ)) := rfl
@[simp] theorem s_gFreeze (i : Nat) (g : DEnv → T Fl) (ρ : DEnv) : gFreeze i g ρ = (g (dFreeze i ρ)) := rfl
@[simp] theorem s_gExpr (f : DEnv → T D) (ρ : DEnv) : gExpr f ρ = ((f ρ).ex ρ fun _ => .ok (.nx ρ)) := rfl
@[simp] theorem s_gRet (f : DEnv → T D) (ρ : DEnv) : gRet f ρ = ((f ρ).ex ρ fun d => .ok (.rt d)) := rfl
@[simp] theorem s_gRetN (ρ : DEnv) : gRetN ρ = (.ok (.rt .non)) := rfl
@[simp] theorem s_gIf (t : DEnv → T Bool) (a b : DEnv → T Fl) (ρ : DEnv) : gIf t a b ρ = ((t ρ).ex ρ fun x => if x then a ρ else b ρ) := rfl
@[simp] theorem s_gSet (i : Nat) (f : DEnv → T D) (ρ : DEnv) : gSet i f ρ = ((f ρ).ex ρ fun d => .ok (.nx (ρ.set i (.sh d)))) := rfl
@[simp] theorem s_gSetN (i : Nat) (f : DEnv → T (List D)) (ρ : DEnv) : gSetN i f ρ = ((f ρ).ex ρ fun xs => .ok (.nx (ρ.set i (.own xs)))) := rfl
@[simp] theorem s_gAsg (f : DEnv → T D) (fb : D → DEnv → T DEnv) (ρ : DEnv) : gAsg f fb ρ = ((f ρ).ex ρ fun d => (fb d ρ).nox.bind fun ρ' => .ok (.nx ρ')) := rfl
@[simp] theorem s_gAppend (i : Nat) (f : DEnv → T D) (ρ : DEnv) : gAppend i f ρ = (match ρ[i]? with
  | some (.own xs) => (f ρ).ex ρ fun d => if xs.length < sizeLine then .ok (.nx (ρ.set i (.own (xs ++ [d])))) else .fail
  | _ => .fail) := rfl
@[simp] theorem s_gExtend (i : Nat) (f : DEnv → T Sq) (ρ : DEnv) : gExtend i f ρ = (match ρ[i]? with
  | some (.own xs) => (f ρ).ex ρ fun s => match s with
    | .l ys => if xs.length + ys.length ≤ sizeLine then .ok (.nx (ρ.set i (.own (xs ++ ys)))) else .fail
    | .t _ => .fail
  | _ => .fail) := rfl
@[simp] theorem s_gFor (fi : DEnv → T (List D)) (fb : D → DEnv → T DEnv) (g : DEnv → T Fl) (ρ : DEnv) : gFor fi fb g ρ = ((fi ρ).ex ρ fun xs => forGo fb g xs ρ) := rfl
@[simp] theorem s_dRepr (f : DEnv → T D) (ρ : DEnv) : dRepr f ρ = ((f ρ).bind fun d => if d.canShow then .ok (.str d.py.shown) else .fail) := rfl
@[simp] theorem s_dSh (f : DEnv → T D) (ρ : DEnv) : dSh f ρ = ((f ρ).bind fun d => .ok (.sh d)) := rfl
@[simp] theorem s_dOwn (f : DEnv → T (List D)) (ρ : DEnv) : dOwn f ρ = ((f ρ).bind fun d => .ok (.own d)) := rfl
@[simp] theorem s_gPar (i j : Nat) (f g : DEnv → T Slot) (ρ : DEnv) : gPar i j f g ρ = ((f ρ).ex ρ fun s => (g ρ).ex ρ fun t => .ok (.nx ((ρ.set i s).set j t))) := rfl
@[simp] theorem s_gNever (ρ : DEnv) : gNever ρ = (.fail) := rfl
@[simp] theorem s_dNeg (f : DEnv → T D) (ρ : DEnv) : dNeg f ρ = ((f ρ).bind fun d => match d with
  | .int i => .ok (.int (-i))
  | _ => .fail) := rfl

@[simp] theorem bodyT_eq (n : Nat) (g : DEnv → T Fl) (ds : List D) : bodyT n g ds = (g (env0 n ds)).nox.bind fun fl => match fl with
  | .nx _ => .ok .non
  | .rt d => .ok d
  | .rs e _ => .exc e
  | .bk _ => .fail
  | .ct _ => .fail := rfl
/-- m draws at most, every way ends in Q -/
structure run {α : Type} (t : T α) (c : Nat) (Q : α → Prop) : Prop where
  at_ : ∀ n, n + c ≤ T.line → t.wp (fun a m => Q a ∧ m ≤ n + c) (fun _ _ => False) n
section
variable {α β : Type} {t : T α} {c c1 c2 : Nat} {P Q : α → Prop} {R : β → Prop}
theorem run_ok {a : α} (h : Q a) : run (.ok a) c Q := ⟨fun n _ => ⟨h, by omega⟩⟩
theorem run_mono (h : run t c P) (hc : c ≤ c2) (hQ : ∀ a, P a → Q a) : run t c2 Q := ⟨fun n hn => T.wp_mono (fun a m q => ⟨hQ a q.1, by omega⟩) (fun _ _ h => h) (h.at_ n (by omega))⟩
theorem run_imp (h : run t c P) (hQ : ∀ a, P a → Q a) : run t c Q := run_mono h (Nat.le_refl _) hQ
theorem run_eq {a : α} (e : t = .ok a) (h : Q a) : run t c Q := by rw [e]; exact run_ok h
theorem run_draw {m : Int} {k : Int → T α} (h0 : 0 < m) (h : ∀ r, 0 ≤ r → r < m → run (k r) c Q) : run (.draw m k) (c + 1) Q := ⟨fun n hn =>
  ⟨h0, by omega, fun r r0 r1 => T.wp_mono (fun a m q => ⟨q.1, by omega⟩) (fun _ _ h => h) ((h r r0 r1).at_ (n + 1) (by omega))⟩⟩
theorem run_bind {k : α → T β} (h : run t c1 P) (hk : ∀ a, P a → run (k a) c2 R) : run (t.bind k) (c1 + c2) R := ⟨fun n hn =>
  (T.wp_bind t k).mpr (T.wp_mono (fun a m q => T.wp_mono (fun b m2 q2 => ⟨q2.1, by omega⟩) (fun _ _ h => h) ((hk a q.1).at_ m (by omega))) (fun _ _ h => h) (h.at_ n (by omega)))⟩
theorem run_bind0 {k : α → T β} (h : run t c1 P) (hk : ∀ a, P a → run (k a) 0 R) : run (t.bind k) c1 R := run_mono (run_bind h hk) (Nat.le_refl _) fun _ z => z
theorem wp_nox_of {E : Exc → Nat → Prop} {Q : α → Nat → Prop} : ∀ {n : Nat}, t.wp Q (fun _ _ => False) n → t.nox.wp Q E n := by
  induction t with
  | ok a => exact fun {n} h => h
  | exc e => exact fun {n} h => h.elim
  | draw m f ih => exact fun {n} h => ⟨h.1, h.2.1, fun r h0 h1 => ih r (h.2.2 r h0 h1)⟩
  | fail => exact fun {n} h => h.elim
theorem run_nox (h : run t c P) : run t.nox c P := ⟨fun n hn => wp_nox_of (h.at_ n hn)⟩
theorem wp_ex_of {ρ : DEnv} {k : α → T Fl} {Q : Fl → Nat → Prop} : ∀ {n : Nat}, t.wp (fun a m => (k a).wp Q (fun _ _ => False) m) (fun _ _ => False) n → (t.ex ρ k).wp Q (fun _ _ => False) n := by
  induction t with
  | ok a => intro n h; rw [T.ex_ok]; exact h
  | exc e => exact fun {n} h => h.elim
  | draw m f ih => intro n h; rw [T.ex_draw]; exact ⟨h.1, h.2.1, fun r h0 h1 => ih r (h.2.2 r h0 h1)⟩
  | fail => exact fun {n} h => h.elim
theorem run_ex {ρ : DEnv} {k : α → T Fl} {R : Fl → Prop} (h : run t c1 P) (hk : ∀ a, P a → run (k a) c2 R) : run (t.ex ρ k) (c1 + c2) R := ⟨fun n hn =>
  wp_ex_of (T.wp_mono (fun a m q => T.wp_mono (fun b m2 q2 => ⟨q2.1, by omega⟩) (fun _ _ h => h) ((hk a q.1).at_ m (by omega))) (fun _ _ h => h) (h.at_ n (by omega)))⟩
/-- no draw is left: an answer -/
theorem run_is {a : α} (h : run t 0 (fun b => b = a)) : t = .ok a := by
  have q := h.at_ T.line (by omega)
  cases t with
  | ok b => exact congrArg _ q.1
  | exc e => exact q.elim
  | draw m f => exact absurd q.2.1 (Nat.lt_irrefl _)
  | fail => exact q.elim
end
/-! ### loops -/
/-- a loop that goes to its end -/
theorem run_for {fb : D → DEnv → T DEnv} {g : DEnv → T Fl} {c : Nat} (I : Nat → DEnv → Prop) : ∀ (xs : List D) (i0 : Nat) (ρ : DEnv), I i0 ρ →
    (∀ i x ρ, xs[i]? = some x → I (i0 + i) ρ → ∃ ρ1, fb x ρ = .ok ρ1 ∧ run (g ρ1) c fun fl => ∃ ρ2, (fl = .nx ρ2 ∨ fl = .ct ρ2) ∧ I (i0 + i + 1) ρ2) →
    run (forGo fb g xs ρ) (c * xs.length) fun fl => ∃ ρ2, fl = .nx ρ2 ∧ I (i0 + xs.length) ρ2
  | [], i0, ρ, h, _ => run_ok ⟨ρ, rfl, h⟩
  | x :: r, i0, ρ, h, hs => by
    obtain ⟨ρ1, e, h1⟩ := hs 0 x ρ rfl h
    unfold forGo
    rw [e, T.nox_ok, T.bind_ok]
    have ih := fun ρ2 (h2 : I (i0 + 1) ρ2) => run_for I r (i0 + 1) ρ2 h2 fun i x ρ hx hi => by
      have := hs (i + 1) x ρ hx (by rw [show i0 + (i + 1) = i0 + 1 + i by omega]; exact hi)
      rw [show i0 + (i + 1) = i0 + 1 + i by omega] at this
      exact this
    have e2 : c * (x :: r).length = c + c * r.length := by rw [List.length_cons, Nat.mul_succ]; omega
    rw [e2]
    refine run_bind h1 fun fl q => ?_
    obtain ⟨ρ2, q | q, h2⟩ := q
    · subst q
      exact run_imp (ih ρ2 h2) fun fl ⟨ρ3, h3, h4⟩ => ⟨ρ3, h3, by rw [List.length_cons, show i0 + (r.length + 1) = i0 + 1 + r.length by omega]; exact h4⟩
    · subst q
      exact run_imp (ih ρ2 h2) fun fl ⟨ρ3, h3, h4⟩ => ⟨ρ3, h3, by rw [List.length_cons, show i0 + (r.length + 1) = i0 + 1 + r.length by omega]; exact h4⟩
/-- a comprehension without a draw -/
theorem lc_eq {fb : D → DEnv → T DEnv} {ft : DEnv → T Bool} {fe : DEnv → T D} {ρ : DEnv} {p : D → Bool} {g : D → D} : ∀ {xs : List D}, (∀ x ∈ xs, ∃ ρ1, fb x ρ = .ok ρ1 ∧ ft ρ1 = .ok (p x) ∧ (p x = true → fe ρ1 = .ok (g x))) → lcGo fb ft fe ρ xs = .ok ((xs.filter p).map g)
  | [], _ => rfl
  | x :: r, h => by
    obtain ⟨ρ1, e1, e2, e3⟩ := h x (by simp)
    have ih := lc_eq (xs := r) (fun y hy => h y (by simp [hy]))
    unfold lcGo
    rw [e1, T.nox_ok, T.bind_ok, e2, T.nox_ok, T.bind_ok]
    cases hp : p x with
    | true => rw [if_pos rfl, e3 hp, T.nox_ok, T.bind_ok, ih, T.bind_ok, List.filter_cons_of_pos hp, List.map_cons]
    | false => rw [if_neg (by simp), ih, List.filter_cons_of_neg (by simp [hp])]
theorem lc_map {fb : D → DEnv → T DEnv} {fe : DEnv → T D} {ρ : DEnv} {g : D → D} {xs : List D} (h : ∀ x ∈ xs, ∃ ρ1, fb x ρ = .ok ρ1 ∧ fe ρ1 = .ok (g x)) : lcGo fb dYes fe ρ xs = .ok (xs.map g) := by
  have := lc_eq (fb := fb) (ft := dYes) (fe := fe) (ρ := ρ) (p := fun _ => true) (g := g) (xs := xs) fun x hx => let ⟨ρ1, a, b⟩ := h x hx; ⟨ρ1, a, rfl, fun _ => b⟩
  rwa [List.filter_eq_self.mpr fun _ _ => rfl] at this
/-- a comprehension with draws -/
theorem run_lc {fb : D → DEnv → T DEnv} {fe : DEnv → T D} {ρ : DEnv} {c : Nat} {P : D → Prop} : ∀ {xs : List D}, (∀ x ∈ xs, ∃ ρ1, fb x ρ = .ok ρ1 ∧ run (fe ρ1) c P) → run (lcGo fb dYes fe ρ xs) (c * xs.length) fun ys => ys.length = xs.length ∧ ∀ y ∈ ys, P y
  | [], _ => run_ok ⟨rfl, fun _ h => nomatch h⟩
  | x :: r, h => by
    obtain ⟨ρ1, e1, e2⟩ := h x (by simp)
    have ih := run_lc (xs := r) (fun y hy => h y (by simp [hy]))
    unfold lcGo
    rw [e1, T.nox_ok, T.bind_ok, show (dYes ρ1).nox = .ok true from rfl, T.bind_ok, if_pos rfl]
    have e3 : c * (x :: r).length = c + c * r.length := by rw [List.length_cons, Nat.mul_succ]; omega
    rw [e3]
    refine run_bind (run_nox e2) fun y hy => run_bind0 ih fun ys q => run_ok ⟨by rw [List.length_cons, List.length_cons, q.1], fun z hz => ?_⟩
    rcases List.mem_cons.mp hz with e | e
    · rw [e]; exact hy
    · exact q.2 z e
/-! ### draws, indexes, classes -/
theorem run_take {m : Int} (h0 : 0 < m) (h1 : m.natAbs < 2 ^ 64) : run (fTake [.well, .int m]) 1 fun d => ∃ r : Nat, d = .int r ∧ (r : Int) < m := by
  rw [show fTake [.well, .int m] = T.draw m fun r => .ok (.int r) from if_pos ⟨h0, h1⟩]
  refine run_draw (c := 0) h0 fun r r0 r1 => run_ok ⟨r.toNat, by rw [Int.toNat_of_nonneg r0], by omega⟩
theorem opIx_t {xs : List D} {i : Nat} {d : D} (h : xs[i]? = some d) : opIx (.t xs) (.int i) = .ok d := by
  unfold opIx
  show (match L2.atI xs i with | some d => T.ok d | none => .fail) = _
  rw [atI_nat h]
theorem opIx_l {xs : List D} {i : Nat} {d : D} (h : xs[i]? = some d) : opIx (.l xs) (.int i) = .ok d := by
  unfold opIx
  show (match L2.atI xs i with | some d => T.ok d | none => .fail) = _
  rw [atI_nat h]
@[simp] theorem isA_int (d : D) : d.isA "int" = (match d with | .int _ => true | .bl _ => true | _ => false) := by
  have a0 : (kitB "NoneType" "int").getD false = false := by decide +kernel
  have a1 : (kitB "bool" "int").getD false = true := by decide +kernel
  have a2 : (kitB "int" "int").getD false = true := by decide +kernel
  have a3 : (kitB "str" "int").getD false = false := by decide +kernel
  have a4 : (kitB "tuple" "int").getD false = false := by decide +kernel
  have a5 : (kitB "list" "int").getD false = false := by decide +kernel
  cases d <;> first | exact a0 | exact a1 | exact a2 | exact a3 | exact a4 | exact a5
@[simp] theorem isA_bool (d : D) : d.isA "bool" = (match d with | .bl _ => true | _ => false) := by
  have a0 : (kitB "NoneType" "bool").getD false = false := by decide +kernel
  have a1 : (kitB "bool" "bool").getD false = true := by decide +kernel
  have a2 : (kitB "int" "bool").getD false = false := by decide +kernel
  have a3 : (kitB "str" "bool").getD false = false := by decide +kernel
  have a4 : (kitB "tuple" "bool").getD false = false := by decide +kernel
  have a5 : (kitB "list" "bool").getD false = false := by decide +kernel
  cases d <;> first | exact a0 | exact a1 | exact a2 | exact a3 | exact a4 | exact a5
@[simp] theorem isA_str (d : D) : d.isA "str" = (match d with | .str _ => true | _ => false) := by
  have a0 : (kitB "NoneType" "str").getD false = false := by decide +kernel
  have a1 : (kitB "bool" "str").getD false = false := by decide +kernel
  have a2 : (kitB "int" "str").getD false = false := by decide +kernel
  have a3 : (kitB "str" "str").getD false = true := by decide +kernel
  have a4 : (kitB "tuple" "str").getD false = false := by decide +kernel
  have a5 : (kitB "list" "str").getD false = false := by decide +kernel
  cases d <;> first | exact a0 | exact a1 | exact a2 | exact a3 | exact a4 | exact a5
@[simp] theorem isA_tup (d : D) : d.isA "tuple" = (match d with | .tup _ => true | _ => false) := by
  have a0 : (kitB "NoneType" "tuple").getD false = false := by decide +kernel
  have a1 : (kitB "bool" "tuple").getD false = false := by decide +kernel
  have a2 : (kitB "int" "tuple").getD false = false := by decide +kernel
  have a3 : (kitB "str" "tuple").getD false = false := by decide +kernel
  have a4 : (kitB "tuple" "tuple").getD false = true := by decide +kernel
  have a5 : (kitB "list" "tuple").getD false = false := by decide +kernel
  cases d <;> first | exact a0 | exact a1 | exact a2 | exact a3 | exact a4 | exact a5
@[simp] theorem isA_lst (d : D) : d.isA "list" = (match d with | .lst _ => true | .well => true | .raw _ => true | .exc _ _ _ _ _ => true | .err _ _ _ => true | .dic _ _ => true | .fn _ _ => true | .pf _ _ => true | _ => false) := by
  have a0 : (kitB "NoneType" "list").getD false = false := by decide +kernel
  have a1 : (kitB "bool" "list").getD false = false := by decide +kernel
  have a2 : (kitB "int" "list").getD false = false := by decide +kernel
  have a3 : (kitB "str" "list").getD false = false := by decide +kernel
  have a4 : (kitB "tuple" "list").getD false = false := by decide +kernel
  have a5 : (kitB "list" "list").getD false = true := by decide +kernel
  cases d <;> first | exact a0 | exact a1 | exact a2 | exact a3 | exact a4 | exact a5
@[simp] theorem known_non : D.known .non = true := rfl
@[simp] theorem known_bl (b : Bool) : D.known (.bl b) = true := rfl
@[simp] theorem known_int (i : Int) : D.known (.int i) = true := rfl
@[simp] theorem known_str (s : Str) : D.known (.str s) = true := rfl
@[simp] theorem known_tup (xs : List D) : D.known (.tup xs) = true := rfl
@[simp] theorem known_lst (xs : List D) : D.known (.lst xs) = true := rfl
@[simp] theorem known_well : D.known .well = true := rfl
@[simp] theorem known_exc (a : Addr) (d : Option Addr) (cls f : Str) (xs : List D) : D.known (.exc a d cls f xs) = false := rfl
@[simp] theorem known_err (C : Addr) (f : Str) (xs : List D) : D.known (.err C f xs) = false := rfl
@[simp] theorem known_dic (ks vs : List D) : D.known (.dic ks vs) = false := rfl
@[simp] theorem known_fn (i : Nat) (vs : List D) : D.known (.fn i vs) = false := rfl
@[simp] theorem known_pf (i : Nat) (vs : List (Str × Addr)) : D.known (.pf i vs) = false := rfl
@[simp] theorem known_raw (a : Addr) : D.known (.raw a) = false := rfl
@[simp] theorem isNon_non : D.isNon .non = true := rfl
@[simp] theorem isNon_bl (b : Bool) : D.isNon (.bl b) = false := rfl
@[simp] theorem isNon_int (i : Int) : D.isNon (.int i) = false := rfl
@[simp] theorem isNon_str (s : Str) : D.isNon (.str s) = false := rfl
@[simp] theorem isNon_tup (xs : List D) : D.isNon (.tup xs) = false := rfl
@[simp] theorem isNon_lst (xs : List D) : D.isNon (.lst xs) = false := rfl
@[simp] theorem opIs_non (g : Bool → Bool) (d : D) : opIs g d .non = .ok (.bl (g d.isNon)) := rfl
@[simp] theorem opGe_int (i j : Int) : opGe (.int i) (.int j) = .ok (.bl (decide (j ≤ i))) := rfl
@[simp] theorem opGt_int (i j : Int) : opGt (.int i) (.int j) = .ok (.bl (decide (j < i))) := rfl
@[simp] theorem opLe_int (i j : Int) : opLe (.int i) (.int j) = .ok (.bl (decide (i ≤ j))) := rfl
@[simp] theorem opLt_int (i j : Int) : opLt (.int i) (.int j) = .ok (.bl (decide (i < j))) := rfl
@[simp] theorem opAdd_int (i j : Int) : opAdd (.int i) (.int j) = .ok (.int (i + j)) := rfl
@[simp] theorem opSub_int (i j : Int) : opSub (.int i) (.int j) = .ok (.int (i - j)) := rfl
@[simp] theorem opAdd_tup (xs ys : List D) : opAdd (.tup xs) (.tup ys) = if xs.length + ys.length ≤ sizeLine then .ok (.tup (xs ++ ys)) else .fail := rfl
@[simp] theorem opEq_str (s t : Str) : opEq (.str s) (.str t) = .ok (.bl (decide (s = t))) := rfl
@[simp] theorem opNe_str (s t : Str) : opNe (.str s) (.str t) = .ok (.bl (!decide (s = t))) := rfl
@[simp] theorem opEq_int (i j : Int) : opEq (.int i) (.int j) = .ok (.bl (decide (i = j))) := by
  simp only [opEq, opEqG, D.plain, D.py, PyData.depth, PyData.eqv]
  have e : (i == j) = decide (i = j) := by rw [Bool.eq_iff_iff]; simp
  rw [e]
  simp
@[simp] theorem opNe_int (i j : Int) : opNe (.int i) (.int j) = .ok (.bl (!decide (i = j))) := by
  simp only [opNe, opEqG, D.plain, D.py, PyData.depth, PyData.eqv]
  have e : (i == j) = decide (i = j) := by rw [Bool.eq_iff_iff]; simp
  rw [e]
  simp
end
end AL
namespace AL
open PySem
noncomputable section
/-- a loop that looks for the first one -/
theorem for_find {fb : D → DEnv → T DEnv} {g : DEnv → T Fl} {I : DEnv → Prop} {p : D → Bool} {r : D → D} : ∀ {xs : List D} {ρ : DEnv}, I ρ →
    (∀ x ∈ xs, ∀ ρ, I ρ → ∃ ρ1, fb x ρ = .ok ρ1 ∧ ((p x = true ∧ g ρ1 = .ok (.rt (r x))) ∨ (p x = false ∧ ∃ ρ2, (g ρ1 = .ok (.nx ρ2) ∨ g ρ1 = .ok (.ct ρ2)) ∧ I ρ2))) →
    ∃ ρ', forGo fb g xs ρ = (match xs.find? p with | some x => .ok (.rt (r x)) | none => .ok (.nx ρ')) ∧ I ρ'
  | [], ρ, h, _ => ⟨ρ, rfl, h⟩
  | x :: xs, ρ, h, hs => by
    obtain ⟨ρ1, e1, e2⟩ := hs x (by simp) ρ h
    unfold forGo
    rw [e1, T.nox_ok, T.bind_ok]
    rcases e2 with ⟨hp, e2⟩ | ⟨hp, ρ2, e2, h2⟩
    · refine ⟨ρ, ?_, h⟩
      rw [e2, T.bind_ok, List.find?_cons_of_pos hp]
    · obtain ⟨ρ3, e3, h3⟩ := for_find (xs := xs) h2 fun y hy => hs y (by simp [hy])
      refine ⟨ρ3, ?_, h3⟩
      rw [List.find?_cons_of_neg (by simp [hp])]
      rcases e2 with e2 | e2
      · rw [e2, T.bind_ok]; exact e3
      · rw [e2, T.bind_ok]; exact e3
theorem numbered_mem {xs : List D} {k : Nat} {x : D} (h : x ∈ numbered k xs) : ∃ (i : Nat) (y : D), y ∈ xs ∧ x = .tup [.int (i : Nat), y] := by
  obtain ⟨i, hi⟩ := List.mem_iff_getElem?.mp h
  obtain ⟨y, h1, h2⟩ := numbered_get xs k i x hi
  exact ⟨k + i, y, List.mem_of_getElem? h1, h2⟩
/-- the first index of what is looked for -/
theorem numbered_find {q : D → Bool} {p : D → Bool} (hp : ∀ (i : Nat) (y : D), p (.tup [.int (i : Nat), y]) = q y) : ∀ (xs : List D) (k : Nat), (numbered k xs).find? p = (xs.findIdx? q).bind fun i => (xs[i]?).map fun y => .tup [.int ((k + i : Nat) : Int), y]
  | [], k => by simp [numbered]
  | x :: r, k => by
    simp only [numbered]
    cases hx : q x with
    | true => rw [List.find?_cons_of_pos (by rw [hp]; exact hx)]; simp [List.findIdx?_cons, hx]
    | false =>
      rw [List.find?_cons_of_neg (by rw [hp, hx]; simp), numbered_find hp r (k + 1)]
      simp only [List.findIdx?_cons, hx]
      cases e : r.findIdx? q with
      | none => simp
      | some i => simp; congr 1; funext y; congr 3; omega
@[simp] theorem numbered_length' (xs : List D) (k : Nat) : (numbered k xs).length = xs.length := numbered_length xs k
/-- numbers as data -/
def nD (n : Nat) : D := .int (n : Nat)
/-- a row of numbers -/
def rD (r : List Nat) : D := .tup (r.map nD)
@[simp] theorem known_nD (n : Nat) : (nD n).known = true := rfl
@[simp] theorem known_rD (n : List Nat) : (rD n).known = true := rfl
theorem nD_map_get {r : List Nat} {i : Nat} {x : Nat} (h : r[i]? = some x) : (r.map nD)[i]? = some (.int (x : Nat)) := by
  rw [List.getElem?_map, h]; rfl
theorem run0_ok {α : Type} {t : T α} {P : α → Prop} (h : run t 0 P) : ∃ a, t = .ok a ∧ P a := by
  have q := h.at_ T.line (by omega)
  cases t with
  | ok b => exact ⟨b, rfl, q.1⟩
  | exc e => exact q.elim
  | draw m f => exact absurd q.2.1 (Nat.lt_irrefl _)
  | fail => exact q.elim
/-- a loop that goes to its end, without a draw -/
theorem for_steps {fb : D → DEnv → T DEnv} {g : DEnv → T Fl} (I : Nat → DEnv → Prop) {xs : List D} {ρ : DEnv} (h : I 0 ρ)
    (hs : ∀ i x ρ, xs[i]? = some x → I i ρ → ∃ ρ1, fb x ρ = .ok ρ1 ∧ ∃ ρ2, (g ρ1 = .ok (.nx ρ2) ∨ g ρ1 = .ok (.ct ρ2)) ∧ I (i + 1) ρ2) : ∃ ρ', forGo fb g xs ρ = .ok (.nx ρ') ∧ I xs.length ρ' := by
  have r := run_for (fb := fb) (g := g) (c := 0) I xs 0 ρ h fun i x ρ hx hi => by
    rw [Nat.zero_add] at hi
    obtain ⟨ρ1, e1, ρ2, e2, h2⟩ := hs i x ρ hx hi
    refine ⟨ρ1, e1, ?_⟩
    rw [Nat.zero_add]
    rcases e2 with e2 | e2
    · exact run_eq e2 ⟨ρ2, .inl rfl, h2⟩
    · exact run_eq e2 ⟨ρ2, .inr rfl, h2⟩
  rw [Nat.zero_mul] at r
  obtain ⟨fl, e, ρ', e2, h2⟩ := run0_ok r
  rw [Nat.zero_add] at h2
  exact ⟨ρ', by rw [e, e2], h2⟩
theorem for_all {fb : D → DEnv → T DEnv} {g : DEnv → T Fl} (I : DEnv → Prop) {xs : List D} {ρ : DEnv} (h : I ρ)
    (hs : ∀ x ∈ xs, ∀ ρ, I ρ → ∃ ρ1, fb x ρ = .ok ρ1 ∧ ∃ ρ2, (g ρ1 = .ok (.nx ρ2) ∨ g ρ1 = .ok (.ct ρ2)) ∧ I ρ2) : ∃ ρ', forGo fb g xs ρ = .ok (.nx ρ') ∧ I ρ' :=
  for_steps (fun _ => I) h fun i x ρ hx hi => hs x (List.mem_of_getElem? hx) ρ hi
@[simp] theorem opIx_t0 (a : D) (r : List D) : opIx (.t (a :: r)) (.int 0) = .ok a := opIx_t (xs := a :: r) (i := 0) rfl
@[simp] theorem opIx_t1 (a b : D) (r : List D) : opIx (.t (a :: b :: r)) (.int 1) = .ok b := opIx_t (xs := a :: b :: r) (i := 1) rfl
@[simp] theorem opIx_t2 (a b c : D) (r : List D) : opIx (.t (a :: b :: c :: r)) (.int 2) = .ok c := opIx_t (xs := a :: b :: c :: r) (i := 2) rfl
@[simp] theorem opIx_t3 (a b c d : D) (r : List D) : opIx (.t (a :: b :: c :: d :: r)) (.int 3) = .ok d := opIx_t (xs := a :: b :: c :: d :: r) (i := 3) rfl
@[simp] theorem opIx_l0 (a : D) (r : List D) : opIx (.l (a :: r)) (.int 0) = .ok a := opIx_l (xs := a :: r) (i := 0) rfl
@[simp] theorem opIx_l1 (a b : D) (r : List D) : opIx (.l (a :: b :: r)) (.int 1) = .ok b := opIx_l (xs := a :: b :: r) (i := 1) rfl
@[simp] theorem opIx_l2 (a b c : D) (r : List D) : opIx (.l (a :: b :: c :: r)) (.int 2) = .ok c := opIx_l (xs := a :: b :: c :: r) (i := 2) rfl
theorem opIx_last {xs : List D} {d : D} (h : xs.getLast? = some d) : opIx (.l xs) (.int (-1)) = .ok d := by
  unfold opIx
  show (match L2.atI xs (-1) with | some d => T.ok d | none => .fail) = _
  obtain ⟨ys, rfl⟩ := List.getLast?_eq_some_iff.mp h
  unfold L2.atI L2.ixN
  have e1 : ¬ (0 : Int) ≤ -1 := by decide
  have e2 : -(((ys ++ [d]).length : Nat) : Int) ≤ -1 := by rw [List.length_append]; simp; omega
  rw [if_neg e1, if_pos e2]
  have e3 : ((-1 : Int) + ((ys ++ [d]).length : Nat)).toNat = ys.length := by rw [List.length_append]; simp; omega
  rw [e3]
  simp
theorem opEq_nil {xs : List D} (h : D.plains xs = true) : opEq (.tup xs) (.tup []) = .ok (.bl xs.isEmpty) := by
  have e : min (D.tup xs).py.depth (D.tup []).py.depth ≤ 64 := by simp [D.py, D.pys, PyData.depth, PyData.depthAll]
  show (if _ ∧ _ ∧ _ then _ else _) = _
  rw [if_pos ⟨by simpa only [D.plain] using h, rfl, e⟩]
  cases xs with
  | nil => simp [D.py, D.pys, PyData.eqv, PyData.eqvAll]
  | cons x r => simp [D.py, D.pys, PyData.eqv, PyData.eqvAll]
theorem plains_iff : ∀ {ds : List D}, D.plains ds = true ↔ ∀ d ∈ ds, d.plain = true
  | [] => by simp [D.plains]
  | d :: r => by simp [D.plains, plains_iff (ds := r)]
@[simp] theorem plain_nD (n : Nat) : (nD n).plain = true := by simp [nD, D.plain]
@[simp] theorem plain_rD (r : List Nat) : (rD r).plain = true := by
  simp only [rD, D.plain]
  exact plains_iff.mpr fun d hd => by
    obtain ⟨x, _, rfl⟩ := List.mem_map.mp hd
    exact plain_nD x
theorem szl {n : Nat} (h : n ≤ 16000000) : n ≤ sizeLine := by rw [PySem.sizeLine_eq]; omega
theorem szt {n : Nat} (h : n ≤ 16000000) : n < sizeLine := by rw [PySem.sizeLine_eq]; omega
@[simp] theorem szl_0 : 0 ≤ sizeLine := szl (by decide)
@[simp] theorem szt_0 : 0 < sizeLine := szt (by decide)
@[simp] theorem szl_1 : 1 ≤ sizeLine := szl (by decide)
@[simp] theorem szt_1 : 1 < sizeLine := szt (by decide)
@[simp] theorem szl_2 : 2 ≤ sizeLine := szl (by decide)
@[simp] theorem szt_2 : 2 < sizeLine := szt (by decide)
@[simp] theorem szl_3 : 3 ≤ sizeLine := szl (by decide)
@[simp] theorem szt_3 : 3 < sizeLine := szt (by decide)
@[simp] theorem szl_4 : 4 ≤ sizeLine := szl (by decide)
@[simp] theorem szt_4 : 4 < sizeLine := szt (by decide)
@[simp] theorem szl_5 : 5 ≤ sizeLine := szl (by decide)
@[simp] theorem szt_5 : 5 < sizeLine := szt (by decide)
@[simp] theorem szl_6 : 6 ≤ sizeLine := szl (by decide)
@[simp] theorem szt_6 : 6 < sizeLine := szt (by decide)
@[simp] theorem szl_7 : 7 ≤ sizeLine := szl (by decide)
@[simp] theorem szt_7 : 7 < sizeLine := szt (by decide)
@[simp] theorem szl_8 : 8 ≤ sizeLine := szl (by decide)
@[simp] theorem szt_8 : 8 < sizeLine := szt (by decide)
@[simp] theorem szl_9 : 9 ≤ sizeLine := szl (by decide)
@[simp] theorem szt_9 : 9 < sizeLine := szt (by decide)
@[simp] theorem szl_10 : 10 ≤ sizeLine := szl (by decide)
@[simp] theorem szt_10 : 10 < sizeLine := szt (by decide)
@[simp] theorem szl_11 : 11 ≤ sizeLine := szl (by decide)
@[simp] theorem szt_11 : 11 < sizeLine := szt (by decide)
@[simp] theorem szl_12 : 12 ≤ sizeLine := szl (by decide)
@[simp] theorem szt_12 : 12 < sizeLine := szt (by decide)
theorem run_call {α : Type} {t : T α} {c : Nat} {P Q : α → Prop} (h : run t c P) (hQ : ∀ a, P a → Q a) : run t c Q := run_imp h hQ
theorem run_take' {m : Nat} (h0 : 0 < m) (h1 : m < 1000000) : run (fTake [.well, .int (m : Nat)]) 1 fun d => ∃ r : Nat, d = nD r ∧ r < m :=
  run_imp (run_take (m := m) (by omega) (by omega)) fun d ⟨r, e, h⟩ => ⟨r, e, by omega⟩
theorem nats_of {m : Nat} : ∀ {ds : List D}, (∀ y ∈ ds, ∃ r : Nat, y = nD r ∧ r < m) → ∃ rs : List Nat, ds = rs.map nD ∧ ∀ x ∈ rs, x < m
  | [], _ => ⟨[], rfl, fun _ h => nomatch h⟩
  | d :: ds, h => by
    obtain ⟨r, e, hr⟩ := h d (by simp)
    obtain ⟨rs, e2, hrs⟩ := nats_of (ds := ds) fun y hy => h y (by simp [hy])
    refine ⟨r :: rs, by rw [e, e2, List.map_cons], fun x hx => ?_⟩
    rcases List.mem_cons.mp hx with z | z
    · rw [z]; exact hr
    · exact hrs x z
/-- tuple([e for k in range(n)]), with draws -/
theorem run_tup_draws {ρ : DEnv} {i n c : Nat} {f fe : DEnv → T D} {vs : List Nat} {P : D → Prop} (hf : f ρ = .ok (nD n)) (hn : n ≤ 100000) (h : ∀ k, k < n → run (fe ((dWipe ρ vs).set i (.sh (nD k)))) c P) :
    run (dTupOf (dSqN (dLc (dRange1 f) (bName i) dYes fe vs)) ρ) (c * n) fun d => ∃ ds, d = .tup ds ∧ ds.length = n ∧ ∀ y ∈ ds, P y := by
  have hr : rangeT (nD n) = .ok ((List.range n).map nD) := rangeT_nat (n := n) (by omega)
  have hl : ((List.range n).map nD).length = n := by rw [List.length_map, List.length_range]
  rw [s_dTupOf, s_dSqN, s_dLc, s_dRange1, hf, T.bind_ok, hr, T.bind_ok, if_pos (by rw [hl]; exact szl (by omega))]
  have r := run_lc (fb := bName i) (fe := fe) (ρ := dWipe ρ vs) (c := c) (P := P) (xs := (List.range n).map nD) fun x hx => by
    obtain ⟨k, hk, rfl⟩ := List.mem_map.mp hx
    exact ⟨_, rfl, h k (List.mem_range.mp hk)⟩
  rw [hl] at r
  refine run_bind0 (run_bind0 r fun ys hy => run_ok (Q := fun s => ∃ ys : List D, s = Sq.l ys ∧ ys.length = n ∧ ∀ y ∈ ys, P y) ⟨ys, rfl, hy.1, hy.2⟩) fun s ⟨ys, e, h1, h2⟩ => ?_
  subst e
  show run (if ys.length ≤ sizeLine then T.ok (D.tup ys) else .fail) 0 _
  rw [if_pos (by rw [h1]; exact szl (by omega))]
  exact run_ok ⟨ys, rfl, h1, h2⟩
theorem run_append {ρ : DEnv} {i c : Nat} {xs : List D} {f : DEnv → T D} {P : D → Prop} (hi : ρ[i]? = some (.own xs)) (hz : xs.length < sizeLine) (h : run (f ρ) c P) : run (gAppend i f ρ) c fun fl => ∃ d, P d ∧ fl = .nx (ρ.set i (.own (xs ++ [d]))) := by
  rw [s_gAppend, hi]
  refine run_mono (run_ex (c2 := 0) h fun d hd => ?_) (Nat.le_refl _) fun _ z => z
  rw [if_pos hz]
  exact run_ok ⟨d, hd, rfl⟩
theorem run_set {ρ : DEnv} {i c : Nat} {f : DEnv → T D} {P : D → Prop} (h : run (f ρ) c P) : run (gSet i f ρ) c fun fl => ∃ d, P d ∧ fl = .nx (ρ.set i (.sh d)) := by
  rw [s_gSet]
  exact run_mono (run_ex (c2 := 0) h fun d hd => run_ok ⟨d, hd, rfl⟩) (Nat.le_refl _) fun _ z => z
theorem run_seq {ρ : DEnv} {g g' : DEnv → T Fl} {c c2 : Nat} {P : DEnv → Prop} {R : Fl → Prop} (h : run (g ρ) c fun fl => ∃ ρ', fl = .nx ρ' ∧ P ρ') (h2 : ∀ ρ', P ρ' → run (g' ρ') c2 R) : run (gSeq g g' ρ) (c + c2) R := by
  rw [s_gSeq]
  refine run_bind h fun fl q => ?_
  obtain ⟨ρ', e, hp⟩ := q
  subst e
  exact h2 ρ' hp
/-- a statement without a draw goes on -/
theorem run_seq0 {ρ ρ' : DEnv} {g g' : DEnv → T Fl} {c : Nat} {R : Fl → Prop} (h : g ρ = .ok (.nx ρ')) (h2 : run (g' ρ') c R) : run (gSeq g g' ρ) c R := by
  rw [s_gSeq, h]
  exact h2
theorem run_ret {ρ : DEnv} {c : Nat} {f : DEnv → T D} {P : D → Prop} (h : run (f ρ) c P) : run (gRet f ρ) c fun fl => ∃ d, P d ∧ fl = .rt d := by
  rw [s_gRet]
  exact run_mono (run_ex (c2 := 0) h fun d hd => run_ok ⟨d, hd, rfl⟩) (Nat.le_refl _) fun _ z => z
theorem run_body {n c : Nat} {g : DEnv → T Fl} {ds : List D} {P : D → Prop} (h : run (g (env0 n ds)) c fun fl => ∃ d, P d ∧ fl = .rt d) : run (bodyT n g ds) c P := by
  rw [bodyT_eq]
  refine run_bind0 (run_nox h) fun fl ⟨d, hd, e⟩ => ?_
  subst e
  exact run_ok hd
theorem run_dbind {α β : Type} {f : DEnv → T α} {k : α → T β} {ρ : DEnv} {c c2 : Nat} {P : α → Prop} {R : β → Prop} (h : run (f ρ) c P) (hk : ∀ a, P a → run (k a) c2 R) : run ((f ρ).bind k) (c + c2) R := run_bind h hk
/-! ### expressions with draws -/
section
variable {ρ : DEnv} {c c1 c2 : Nat}
theorem run_pure {α : Type} {t : T α} {a : α} (e : t = .ok a) : run t 0 fun x => x = a := run_eq e rfl
theorem run_nil : run (dNil ρ) 0 fun ds => ds = [] := run_ok rfl
theorem run_cons {a : DEnv → T D} {b : DEnv → T (List D)} {P : D → Prop} {R : List D → Prop} (h1 : run (a ρ) c1 P) (h2 : run (b ρ) c2 R) : run (dCons a b ρ) (c1 + c2) fun ds => ∃ d r, ds = d :: r ∧ P d ∧ R r := by
  rw [s_dCons]
  exact run_bind h1 fun d hd => run_bind0 h2 fun r hr => run_ok ⟨d, r, rfl, hd, hr⟩
theorem run_dTup {a : DEnv → T (List D)} {P : List D → Prop} (h : run (a ρ) c P) (hz : ∀ ds, P ds → ds.length ≤ 16000000) : run (dTup a ρ) c fun d => ∃ ds, d = .tup ds ∧ P ds := by
  rw [s_dTup]
  refine run_bind0 h fun ds hd => ?_
  rw [if_pos (szl (hz ds hd))]
  exact run_ok ⟨ds, rfl, hd⟩
theorem run_dCall {ar : Nat} {fn : List D → T D} {a : DEnv → T (List D)} {P : List D → Prop} {R : D → Prop} (h : run (a ρ) c1 P) (h2 : ∀ ds, P ds → ds.length = ar ∧ run (fn ds) c2 R) : run (dCall ar fn a ρ) (c1 + c2) R := by
  rw [s_dCall]
  refine run_bind h fun ds hd => ?_
  rw [if_pos (h2 ds hd).1]
  exact (h2 ds hd).2
/-- a call whose arguments draw nothing -/
theorem run_dCall0 {ar : Nat} {fn : List D → T D} {a : DEnv → T (List D)} {ds : List D} {R : D → Prop} (h : a ρ = .ok ds) (hl : ds.length = ar) (h2 : run (fn ds) c R) : run (dCall ar fn a ρ) c R := by
  rw [s_dCall, h, T.bind_ok, if_pos hl]
  exact h2
theorem run_dB {op : D → D → T D} {a b : DEnv → T D} {P Q R : D → Prop} (h1 : run (a ρ) c1 P) (h2 : run (b ρ) c2 Q) (h : ∀ x y, P x → Q y → run (op x y) 0 R) : run (dB op a b ρ) (c1 + c2) R := by
  rw [s_dB]
  exact run_bind h1 fun x hx => run_bind0 h2 fun y hy => h x y hx hy
theorem run_for0 {fi : DEnv → T (List D)} {fb : D → DEnv → T DEnv} {g : DEnv → T Fl} {xs : List D} {R : Fl → Prop} (e : fi ρ = .ok xs) (h : run (forGo fb g xs ρ) c R) : run (gFor fi fb g ρ) c R := by
  rw [s_gFor, e, T.ex_ok]
  exact h
theorem run_if0 {t : DEnv → T Bool} {a b : DEnv → T Fl} {x : Bool} {R : Fl → Prop} (e : t ρ = .ok x) (h : run ((if x then a ρ else b ρ)) c R) : run (gIf t a b ρ) c R := by
  rw [s_gIf, e, T.ex_ok]
  exact h
end
/-- the same, where the number is drawn, too -/
theorem run_tup_draws' {ρ : DEnv} {i N c c1 : Nat} {f fe : DEnv → T D} {vs : List Nat} {P : D → Prop} (hf : run (f ρ) c1 fun d => ∃ n : Nat, d = nD n ∧ n ≤ N) (hn : N ≤ 100000) (h : ∀ k, k < N → run (fe ((dWipe ρ vs).set i (.sh (nD k)))) c P) :
    run (dTupOf (dSqN (dLc (dRange1 f) (bName i) dYes fe vs)) ρ) (c1 + c * N) fun d => ∃ ds, d = .tup ds ∧ ds.length ≤ N ∧ ∀ y ∈ ds, P y := by
  rw [s_dTupOf, s_dSqN, s_dLc, s_dRange1, T.bind_assoc, T.bind_assoc, T.bind_assoc]
  refine run_bind hf fun d ⟨n, e, hnN⟩ => ?_
  subst e
  have r := run_tup_draws (ρ := ρ) (i := i) (n := n) (c := c) (f := fun _ => .ok (nD n)) (fe := fe) (vs := vs) (P := P) rfl (by omega) fun k hk => h k (by omega)
  rw [s_dTupOf, s_dSqN, s_dLc, s_dRange1, T.bind_ok, T.bind_assoc, T.bind_assoc] at r
  exact run_mono r (Nat.mul_le_mul_left c hnN) fun d ⟨ds, a, b, c⟩ => ⟨ds, a, by omega, c⟩
/-! ### the size of rows of numbers -/
theorem num_nD {x : Nat} (h : x < 1000000) : (nD x).num = true := by
  simp only [nD, D.num, decide_eq_true_eq]
  omega
theorem nums_nD {l : List Nat} (h : ∀ x ∈ l, x < 1000000) : D.nums (l.map nD) = true := nums_iff.mpr fun d hd => by
  obtain ⟨x, hx, rfl⟩ := List.mem_map.mp hd
  exact num_nD (h x hx)
theorem sz_nD (x : Nat) : (nD x).sz = 24 := by simp only [nD, D.sz]
theorem szs_nD : ∀ l : List Nat, D.szs (l.map nD) = 26 * l.length
  | [] => by simp [D.szs]
  | x :: r => by simp only [List.map_cons, D.szs, sz_nD, szs_nD r, List.length_cons]; omega
theorem dep_nD (x : Nat) : (nD x).dep = 0 := by simp only [nD, D.dep]
theorem deps_nD (l : List Nat) : D.deps (l.map nD) ≤ 0 := deps_le fun d hd => by
  obtain ⟨x, hx, rfl⟩ := List.mem_map.mp hd
  rw [dep_nD]
  exact Nat.le_refl 0
theorem num_rD {l : List Nat} (h : ∀ x ∈ l, x < 1000000) : (rD l).num = true := by simp only [rD, D.num]; exact nums_nD h
theorem sz_rD (l : List Nat) : (rD l).sz = 26 * l.length + 3 := by simp only [rD, D.sz, szs_nD]
theorem dep_rD (l : List Nat) : (rD l).dep ≤ 1 := by
  simp only [rD, D.dep]
  have := deps_nD l
  omega
theorem nums_rD {m : List (List Nat)} (h : ∀ r ∈ m, ∀ x ∈ r, x < 1000000) : D.nums (m.map rD) = true := nums_iff.mpr fun d hd => by
  obtain ⟨r, hr, rfl⟩ := List.mem_map.mp hd
  exact num_rD (h r hr)
theorem szs_rD {m : List (List Nat)} {k : Nat} (h : ∀ r ∈ m, r.length ≤ k) : D.szs (m.map rD) ≤ (26 * k + 5) * m.length := by
  have := szs_le (ds := m.map rD) (k := 26 * k + 3) fun d hd => by
    obtain ⟨r, hr, rfl⟩ := List.mem_map.mp hd
    rw [sz_rD]
    have := h r hr
    omega
  rwa [List.length_map] at this
theorem deps_rD (m : List (List Nat)) : D.deps (m.map rD) ≤ 1 := deps_le fun d hd => by
  obtain ⟨r, hr, rfl⟩ := List.mem_map.mp hd
  exact dep_rD r
end
end AL
namespace AL
open PySem PySem.Spec PyProof.Rows L2
noncomputable section
variable [Tb]
/-! ## try: several clauses, some with a name -/
abbrev ClauseT := Addr → Value → Option Addr → TS
/-- what the clauses wish, one after the other; some n: the exception's slot -/
def wMix (K : PySem.W.Frag) (Wo : WX) (D : Ends) : List (Option Nat × Value × ClauseT) → WX
  | [] => Wo
  | (none, c, t) :: more => fun cls d σ H => ∃ b, PySem.W.exmOne K cls c = some b ∧ (b = true → ∀ a, H a = none → t a cls d D σ H) ∧ (b = false → wMix K Wo D more cls d σ H)
  | (some i, c, t) :: more => fun cls d σ H => ∃ b, PySem.W.exmOne K cls c = some b ∧
      (b = true → ∀ a, H a = none → t a cls d { nx := fun σ' H' => D.nx (σ'.set i none) H', rt := D.rt, bk := fun σ' H' => D.bk (σ'.set i none) H', ct := fun σ' H' => D.ct (σ'.set i none) H' } (σ.set i (some (.ref a))) H) ∧
      (b = false → wMix K Wo D more cls d σ H)
inductive MixOk (X : Cx) : List ExceptHandler → List (Option Nat × Value × ClauseT) → Prop
  | nil : MixOk X [] []
  | plain {x : Str} {c : Value} {t : ClauseT} {b0 : Stmt} {suite : List Stmt} {np pp : Pos} {hds : List ExceptHandler} {l : List (Option Nat × Value × ClauseT)} (hc : Names X x c)
      (hsu : ∀ (a : Addr) (oe : Obj) (cls : Value) (d : Option Addr) (pn : List (Addr × Obj)), Zc cls d oe → (∃ vs, oe.data = .fields vs) → PSs (X.suite a ((a, oe) :: pn)) (b0 :: suite) (t a cls d)) (more : MixOk X hds l) :
      MixOk X (.ExceptHandler (some (.Name x np)) none (b0 :: suite) pp :: hds) ((none, c, t) :: l)
  | named {x n : Str} {i : Nat} {c : Value} {t : ClauseT} {b0 : Stmt} {suite : List Stmt} {np pp : Pos} {hds : List ExceptHandler} {l : List (Option Nat × Value × ClauseT)} (hc : Names X x c) (hi : X.N[i]? = some n) (hl : X.env.kindOf n = some .local)
      (hsu : ∀ (a : Addr) (oe : Obj) (cls : Value) (d : Option Addr) (pn : List (Addr × Obj)), Zc cls d oe → (∃ vs, oe.data = .fields vs) → PSs (X.suite a ((a, oe) :: pn)) (b0 :: suite) (t a cls d)) (more : MixOk X hds l) :
      MixOk X (.ExceptHandler (some (.Name x np)) (some n) (b0 :: suite) pp :: hds) ((some i, c, t) :: l)
section
variable {X : Cx} {body : List Stmt} {h0 : ExceptHandler} {hds : List ExceptHandler} {l : List (Option Nat × Value × ClauseT)} {pos : Pos} {tb : WX → TS} {Wo : WX}
theorem ps_try_mix (hstk : X.stack = X.env :: X.outer) (hfrm : X.env.frame = some X.env.locals) (hN : X.N.Nodup) (tk : Takes X Wo)
    (hb : ∀ (W : WX) (pn : List (Addr × Obj)) (xe : Value → Shared → Prop), Takes (X.tr pn xe) W → PassesOwn (model X.prog X.w) X.A X.env xe → PSs (X.tr pn xe) body (tb W))
    (hh : MixOk X (h0 :: hds) l) : PS X (.Try body (h0 :: hds) [] [] pos) (fun D σ H => tb (wMix X.K Wo D l) D σ H) := by
  refine ⟨fun pins s σ H D I q0 => ?_⟩
  have okX := I.ok
  have hframes : X.A.frames = some (X.env :: X.outer) := by rw [okX.frames, hstk]
  refine wpAny_Try_except ?_
  have runB := (hb (wMix X.K Wo D l) (X.pn ++ pins) (fun er st1 => wpAny (model X.prog X.w) X.A (noteFrame er X.env) (fun _ st2 => wpAny (model X.prog X.w) X.A (setFlight er none) (fun _ st3 =>
    wpAny (model X.prog X.w) X.A (handleBy er X.env (h0 :: hds)) (SP X pins D) X.xe st3) X.xe st2) X.xe st1) (fun u s' air => ?_) PassesOwn.looking).run [] s σ H D (I.toTry _) q0
  · refine wpAny_mono runB (fun f sEnd hsp => ?_) (fun er sEnd he => he)
    cases f with
    | ret u =>
      obtain ⟨v, σ', H', J, r, q⟩ := hsp
      exact ⟨v, σ', H', J.ofTry okX, r, q⟩
    | next =>
      obtain ⟨σ', H', J, q⟩ := hsp
      exact wpAny_execs_nil ⟨σ', H', J.ofTry okX, q⟩
    | brk =>
      obtain ⟨σ', H', J, q⟩ := hsp
      exact ⟨σ', H', J.ofTry okX, q⟩
    | cont =>
      obtain ⟨σ', H', J, q⟩ := hsp
      exact ⟨σ', H', J.ofTry okX, q⟩
  · -- what the body lets out
    obtain ⟨a, B, sI, pins', σ', H', cls, d, rfl, Jt, notB, ups, skyT, noH, sameOs, allB, wish⟩ := air
    have J : Inv X pins σ' H' sI := Jt.ofTry okX
    have sky2 : Sky B (X.env :: X.outer) a (Zc cls d) X.env.locals s'.heap := by rw [← hstk]; exact skyT
    show wpAny _ X.A (noteFrame (.ref a) X.env) _ _ _
    refine Sky.land Zc.steady hframes hfrm sky2 fun g1 fly1 upg => ?_
    have J1 : Inv X pins σ' H' { s' with heap := g1 } := J.landed notB fly1.1 (ups.trans upg) sameOs allB
    obtain ⟨ob1, vs1, get1, zc1, dat1⟩ := fly1.there
    have notFrame : a ∉ frs (X.env :: X.outer) := fun hm => by
      obtain ⟨_, o', e', hnf⟩ := fly1.2.2.1.mem hm
      rw [get1] at e'
      cases e'
      exact hnf _ dat1
    have notLoc : a ≠ X.env.locals := fun z => notFrame (List.mem_filterMap.mpr ⟨X.env, List.mem_cons_self, by rw [hfrm, z]⟩)
    have notFs : a ∉ X.fs := fun hm => by
      obtain ⟨en, hen, qf⟩ := List.mem_filterMap.mp hm
      exact notFrame (List.mem_filterMap.mpr ⟨en, List.mem_cons_of_mem _ hen, qf⟩)
    have S1 := J1.suite get1 dat1 noH notLoc notFs
    have clsOf : PySem.W.Looks (model X.prog X.w) g1 (typeOf (.ref a)) cls := fun A Q E s k q => wpAny_typeOf_ref (k _ _ get1) (by rw [zc1.1]; exact q)
    have asked : ∀ {x : Str} {c : Value} {np : Pos}, Names X x c → ∀ {Q : Value → Shared → Prop} {E : Value → Shared → Prop}, Q c { s' with heap := g1 } → wpAny (model X.prog X.w) (X.A.mark (some (.ref a))) (eval (.Name x np) X.env) Q E { s' with heap := g1 } := fun {x c np} hc {Q E} q => by
      obtain ⟨hgl, hdb, hm | ⟨hm, hv, hnn⟩⟩ := hc
      · exact ld_glob (X := X.suite a ((a, ob1) :: (X.pn ++ pins))) S1 hgl hm q hdb
      · exact ld_blt (X := X.suite a ((a, ob1) :: (X.pn ++ pins))) S1 hgl hm hv q hnn hdb
    suffices walk : ∀ {hs' : List ExceptHandler} {l' : List (Option Nat × Value × ClauseT)}, MixOk X hs' l' → wMix X.K Wo D l' cls d σ' H' → wpAny (model X.prog X.w) X.A (handleBy (.ref a) X.env hs') (SP X pins D) X.xe { s' with heap := g1 } from walk hh wish
    intro hs' l' mk
    induction mk with
    | nil =>
      intro wo
      refine wpAny_handleBy_nil ?_
      obtain ⟨_, _, _, ob, vs, tr, _, _, gob, zob, dob, fld1, _⟩ := id fly1
      unfold PySem.passOn
      refine wpAny_bind (wpAny_field gob dob fld1 ?_)
      rw [if_neg (show ¬ ((Value.ref tr == Value.none) = true) from by simp)]
      have last : wpAny (model X.prog X.w) X.A (setFlight (.ref a) X.env.frame) (fun _ st4 => wpAny (model X.prog X.w) X.A (throw (.ref a) : Sem Flow) (SP X pins D) X.xe st4) X.xe { s' with heap := g1 } := by
        rw [hfrm]
        refine HandSPX.setFlight_upZ fly1 fun g4 held up4 => wpAny_throw (tk _ _ ?_)
        exact ⟨a, B, sI, pins, σ', H', cls, d, rfl, J, notB, (ups.trans upg).trans up4, .inr (.inr (by rw [hstk]; exact held)), noH, sameOs, allB, wo⟩
      first
        | exact wpAny_bind (wpAny_pure (wpAny_bind last))
        | exact wpAny_bind last
    | @plain x c t b0 suite np pp hds2 l2 hc hsu more ih =>
      intro wi
      obtain ⟨b, hb1, yes, no⟩ := wi
      refine wpAny_handleBy_cons (codeAny_handlers_test ?_) (by intro z; cases z)
      refine asked hc ((PySem.W.exm_one (M := model X.prog X.w) J1.kIn clsOf hb1).here ?_)
      cases b with
      | false =>
        show wpAny _ X.A (handleBy (.ref a) X.env hds2) _ _ _
        exact ih (no rfl)
      | true =>
        refine codeAny_handlers_suite ?_
        refine HandSPX.lands_againZ fly1 fun g4 fly4 up4 => ?_
        have J4 : Inv X pins σ' H' { s' with heap := g4 } := J.landed notB fly4.1 ((ups.trans upg).trans up4) sameOs allB
        obtain ⟨ob4, vs4, get4, zc4, dat4⟩ := fly4.there
        refine wpAny_mono ((hsu a ob4 cls d (X.pn ++ pins) zc4 ⟨_, dat4⟩).run [] _ _ H' _ (J4.suite get4 dat4 noH notLoc notFs) (yes rfl a noH)) (fun f s6 hsp => ?_) (fun _ _ z => False.elim z)
        cases f with
        | ret u =>
          obtain ⟨v6, σ6, H6, S6, r6, q6⟩ := hsp
          exact ⟨_, _, _, S6.unsuite okX, r6, q6⟩
        | next =>
          obtain ⟨σ6, H6, S6, q6⟩ := hsp
          exact ⟨_, _, S6.unsuite okX, q6⟩
        | brk =>
          obtain ⟨σ6, H6, S6, q6⟩ := hsp
          exact ⟨_, _, S6.unsuite okX, q6⟩
        | cont =>
          obtain ⟨σ6, H6, S6, q6⟩ := hsp
          exact ⟨_, _, S6.unsuite okX, q6⟩
    | @named x n i c t b0 suite np pp hds2 l2 hc hi hloc hsu more ih =>
      intro wi
      obtain ⟨b, hb1, yes, no⟩ := wi
      refine wpAny_handleBy_cons (codeAny_handlers_test ?_) (by intro z; cases z)
      refine asked hc ((PySem.W.exm_one (M := model X.prog X.w) J1.kIn clsOf hb1).here ?_)
      cases b with
      | false =>
        show wpAny _ X.A (handleBy (.ref a) X.env hds2) _ _ _
        exact ih (no rfl)
      | true =>
        refine codeAny_handlers_suite_as ?_
        refine HandSPX.lands_againZ fly1 fun g4 fly4 up4 => ?_
        have J4 : Inv X pins σ' H' { s' with heap := g4 } := J.landed notB fly4.1 ((ups.trans upg).trans up4) sameOs allB
        obtain ⟨ob4, vs4, get4, zc4, dat4⟩ := fly4.there
        refine store_ok (X := X.suite a ((a, ob4) :: (X.pn ++ pins))) (v := .ref a) (J4.suite get4 dat4 noH notLoc notFs) hN hi (.inl hloc) rfl (fun s5 S5 => ?_) (.inr hloc)
        refine wpAny_mono ((hsu a ob4 cls d (X.pn ++ pins) zc4 ⟨_, dat4⟩).run [] s5 _ H' _ S5 (yes rfl a noH)) (fun f s6 hsp => ?_) (fun _ _ z => False.elim z)
        have unbind : ∀ {σ6 : L2.St} {H6 : Hp} {Q : Shared → Prop}, Inv (X.suite a ((a, ob4) :: (X.pn ++ pins))) [] σ6 H6 s6 → (∀ s7, Inv X pins (σ6.set i none) H6 s7 → Q s7) →
            wpAny (model X.prog X.w) X.A (do bindName X.env n .none; unbindBehindTheSuite X.env n pp) (fun _ s7 => Q s7) X.xe s6 := fun {σ6 H6 Q} S6 hq => gone_ok (S6.unsuite okX) hN hi hloc hq
        cases f with
        | ret u =>
          obtain ⟨v6, σ6, H6, S6, r6, q6⟩ := hsp
          exact unbind S6 fun s7 J7 => ⟨_, _, _, J7, r6, q6⟩
        | next =>
          obtain ⟨σ6, H6, S6, q6⟩ := hsp
          exact unbind S6 fun s7 J7 => ⟨_, _, J7, q6⟩
        | brk =>
          obtain ⟨σ6, H6, S6, q6⟩ := hsp
          exact unbind S6 fun s7 J7 => ⟨_, _, J7, q6⟩
        | cont =>
          obtain ⟨σ6, H6, S6, q6⟩ := hsp
          exact unbind S6 fun s7 J7 => ⟨_, _, J7, q6⟩
end
/-! ### over data -/
instance {α : Type} (k : Addr → Option Addr → T α) : Decidable (∀ a d, k a d = k 0 none) := Classical.propDecidable _
/-- the same run whatever the exception's address is -/
def T.one {α : Type} (k : Addr → Option Addr → T α) : T α := if ∀ a d, k a d = k 0 none then k 0 none else .fail
theorem T.one_wp {α : Type} {k : Addr → Option Addr → T α} {Q : α → Nat → Prop} {E : Exc → Nat → Prop} {n : Nat} (h : (T.one k).wp Q E n) (a : Addr) (d : Option Addr) : (k a d).wp Q E n := by
  unfold T.one at h
  split at h
  · rename_i e
    rw [e a d]
    exact h
  · exact h.elim
theorem T.one_const {α : Type} {k : Addr → Option Addr → T α} {t : T α} (h : ∀ a d, k a d = t) : T.one k = t := by
  unfold T.one
  rw [if_pos fun a d => by rw [h, h], h]
structure Cl where
  /-- the name's slot, the one class that comes there -/
  slot : Option (Nat × Str)
  tab : List (Str × Bool)
  g : Addr → Option Addr → DEnv → T Fl
def excD (a : Addr) (d : Option Addr) (e : Exc) : D := match e.arg with
  | none => .exc a d e.cls "" []
  | some (f, x) => .exc a d e.cls f [x]
/-- a suite's end: nothing may be let out of it, its name is gone -/
def clrO (o : Option (Nat × Str)) (fl : Fl) : T Fl := match fl, o with
  | .nx ρ, some i => .ok (.nx (ρ.set i.1 .no))
  | .bk ρ, some i => .ok (.bk (ρ.set i.1 .no))
  | .ct ρ, some i => .ok (.ct (ρ.set i.1 .no))
  | .rt d, some _ => .ok (.rt d)
  | .rs _ _, _ => .fail
  | fl, none => .ok fl
def gHandle (e : Exc) : List Cl → DEnv → T Fl
  | [], ρ => .ok (.rs e ρ)
  | c :: r, ρ => match c.tab.lookup e.cls with
    | some true => match c.slot with
      | some i => if e.cls = i.2 then T.one fun a d => (c.g a d (ρ.set i.1 (.sh (excD a d e)))).bind (clrO (some i)) else .fail
      | none => T.one fun a d => (c.g a d ρ).bind (clrO none)
    | some false => gHandle e r ρ
    | none => .fail
def gTry (g : DEnv → T Fl) (cs : List Cl) : DEnv → T Fl := fun ρ => (g ρ).bind fun fl => match fl with
  | .rs e ρ' => gHandle e cs ρ'
  | fl => .ok fl
/-- what the written part says of the classes that may come, and of the clause's class -/
def TabOk (K : PySem.W.Frag) (mg : Str → Option Value) (c : Value) (tab : List (Str × Bool)) : Prop := ∀ n b, tab.lookup n = some b → ∀ C, mg n = some (.ref C) → PySem.W.exmOne K (.ref C) c = some b
/-- a clause's reading -/
def clause (K : PySem.W.Frag) (mg : Str → Option Value) (cv : Value) (c : Cl) : Option Nat × Value × ClauseT := match c.slot with
  | none => (none, cv, fun a _ d => sD K mg W0 (c.g a d))
  | some i => (some i.1, cv, fun a cls d D σ H => ∃ C, cls = .ref C ∧ mg i.2 = some (.ref C) ∧ sD K mg W0 (c.g a d) D σ H)
def clauses (K : PySem.W.Frag) (mg : Str → Option Value) (cs : List (Value × Cl)) : List (Option Nat × Value × ClauseT) := cs.map fun c => clause K mg c.1 c.2
section
variable {K : PySem.W.Frag} {mg : Str → Option Value} {Wo : WX} {D : Ends} {w : Addr} {F F' : Addr → Prop} {H H' : Hp} {O : Addr → Prop} {σ' : L2.St} {ρ' : DEnv} {m : Nat} {e : Exc} {cl : Value} {dd : Option Addr}
theorem excD_rep {a : Addr} (r : RExc K mg w F H e cl dd) : Rep K w F H (.ref a) (excD a dd e) := by
  obtain ⟨C, _, _, q⟩ := r
  unfold excD
  cases ea : e.arg with
  | none =>
    rw [ea] at q
    have q : dd = none := q
    subst q
    exact .exc0
  | some p =>
    rw [ea] at q
    obtain ⟨b, v, rfl, h1, h2, h3⟩ := q
    exact .exc1 h1 h2 h3
theorem setNo_own {σ : L2.St} {ρ : DEnv} {i : Nat} {a : Addr} (h : Own (σ.set i none) (ρ.set i .no) a) : Own σ ρ a := by
  obtain ⟨j, xs, h1, ho, h2⟩ := h
  by_cases e : i = j
  · subst e
    rw [List.getElem?_set] at h1
    split at h1
    · split at h1
      · cases h1; cases ho
      · cases h1
    · exact absurd rfl ‹_›
  · rw [List.getElem?_set_ne e] at h1 h2
    exact ⟨j, xs, h1, ho, h2⟩
theorem handle_read : ∀ {cs : List (Value × Cl)}, (∀ c ∈ cs, TabOk K mg c.1 c.2.tab) → (gHandle e (cs.map (·.2)) ρ').wp (PostS K mg Wo w F H O D) (fun _ _ => False) m → StepS w F H O F' H' (Own σ' ρ') → Cur K w F' H' σ' ρ' m → RExc K mg w F' H' e cl dd →
    wMix K Wo D (clauses K mg cs) cl dd σ' H'
  | [], _, q, s, c, r => q F' H' σ' cl dd s c r
  | (cv, k) :: more, ht, q, s, c, r => by
    obtain ⟨C, hC, hcl, _⟩ := id r
    simp only [List.map_cons, gHandle] at q
    have key : ∀ b, k.tab.lookup e.cls = some b → PySem.W.exmOne K cl cv = some b := fun b hb => by rw [hcl]; exact ht (cv, k) (by simp) e.cls b hb C hC
    have go := handle_read (cs := more) (fun c hc => ht c (by simp [hc]))
    have hcons : clauses K mg ((cv, k) :: more) = clause K mg cv k :: clauses K mg more := rfl
    rw [hcons]
    split at q
    · rename_i hb
      split at q
      · rename_i i hs
        split at q
        · rename_i hi
          unfold clause
          rw [hs]
          refine ⟨true, key true hb, fun _ a _ => ⟨C, hcl, by rw [← hi]; exact hC, ?_⟩, (fun z => nomatch z)⟩
          have q2 := T.wp_bind _ _ |>.mp (T.one_wp q a dd)
          have s1 : StepS w F H O F' H' (Own (σ'.set i.1 (some (.ref a))) (ρ'.set i.1 (.sh (excD a dd e)))) := ⟨s.keep', s.sub, s.new, fun b hb => s.onew b hb.setSh, s.dom⟩
          refine ⟨w, F', ρ'.set i.1 (.sh (excD a dd e)), m, ⟨c.toBase, c.env.setSh i.1 (excD_rep r)⟩, T.wp_mono (fun fl m2 q3 => ?_) (fun _ _ z => z) q2⟩
          cases fl with
          | rs e2 ρ2 => exact q3.elim
          | nx ρ2 =>
            refine fun F2 H2 σ2 s2 c2 => q3 F2 H2 _ ?_ ⟨c2.toBase, setNo c2.env i.1⟩
            have s3 := s1.trans s2
            exact ⟨s3.keep', s3.sub, s3.new, fun b hb => s3.onew b (setNo_own hb), s3.dom⟩
          | bk ρ2 =>
            refine fun F2 H2 σ2 s2 c2 => q3 F2 H2 _ ?_ ⟨c2.toBase, setNo c2.env i.1⟩
            have s3 := s1.trans s2
            exact ⟨s3.keep', s3.sub, s3.new, fun b hb => s3.onew b (setNo_own hb), s3.dom⟩
          | ct ρ2 =>
            refine fun F2 H2 σ2 s2 c2 => q3 F2 H2 _ ?_ ⟨c2.toBase, setNo c2.env i.1⟩
            have s3 := s1.trans s2
            exact ⟨s3.keep', s3.sub, s3.new, fun b hb => s3.onew b (setNo_own hb), s3.dom⟩
          | rt d2 => exact fun F2 H2 v s2 b2 r2 => q3 F2 H2 v (s1.trans s2) b2 r2
        · exact q.elim
      · rename_i hs
        unfold clause
        rw [hs]
        refine ⟨true, key true hb, fun _ a _ => ?_, (fun z => nomatch z)⟩
        have q2 := T.wp_bind _ _ |>.mp (T.one_wp q a dd)
        refine ⟨w, F', ρ', m, c, T.wp_mono (fun fl m2 q3 => ?_) (fun _ _ z => z) q2⟩
        cases fl with
        | rs e2 ρ2 => exact q3.elim
        | nx ρ2 => exact PostS.back s q3
        | bk ρ2 => exact PostS.back s q3
        | ct ρ2 => exact PostS.back s q3
        | rt d2 => exact PostS.back s q3
    · rename_i hb
      have q2 := go q s c r
      unfold clause
      split
      · exact ⟨false, key false hb, (fun z => nomatch z), fun _ => q2⟩
      · exact ⟨false, key false hb, (fun z => nomatch z), fun _ => q2⟩
    · exact q.elim
end
section
variable {X : Cx} {W : WX}
theorem ds_try {body : List Stmt} {h0 : ExceptHandler} {hds : List ExceptHandler} {pos : Pos} {g : DEnv → T Fl} {cs : List (Value × Cl)} (hstk : X.stack = X.env :: X.outer) (hfrm : X.env.frame = some X.env.locals) (hN : X.N.Nodup) (tk : Takes X W)
    (hb : ∀ (W2 : WX) (pn : List (Addr × Obj)) (xe : Value → Shared → Prop), Takes (X.tr pn xe) W2 → PassesOwn (model X.prog X.w) X.A X.env xe → PSs (X.tr pn xe) body (sD X.K X.mg W2 g)) (ht : ∀ c ∈ cs, TabOk X.K X.mg c.1 c.2.tab)
    (hh : MixOk X (h0 :: hds) (clauses X.K X.mg cs)) : PS X (.Try body (h0 :: hds) [] [] pos) (sD X.K X.mg W (gTry g (cs.map (·.2)))) :=
  PS.of (ps_try_mix (tb := fun W2 => sD X.K X.mg W2 g) hstk hfrm hN tk hb hh) fun D σ H ⟨w, F, ρ, n, c, q⟩ => by
    refine ⟨w, F, ρ, n, c, T.wp_mono (fun fl m q1 => ?_) (fun _ _ z => z) (T.wp_bind _ _ |>.mp q)⟩
    cases fl with
    | nx ρ2 => exact q1
    | bk ρ2 => exact q1
    | ct ρ2 => exact q1
    | rt d2 => exact q1
    | rs e ρ2 => exact fun F' H' σ' cl dd s c2 r => handle_read ht q1 s c2 r
/-- raise X('..'), X without own __init__ -/
def gRaise0 (n : Str) : DEnv → T Fl := fun ρ => .ok (.rs ⟨n, none⟩ ρ)
theorem ds_raise0 {x m : Str} {C : Addr} {bmB : List Value} {B newId initId : String} {j : Nat} {p p2 pos pos' : Pos} (hc : X.calm = true) (tk : Takes X W) (F : ExcBaseFacts B newId initId bmB) (q : PySem.W.excIn X.K C bmB newId = true) (gC : X.mg x = some (.ref C)) (kC : PySem.W.keepIn X.K (.ref C) = true)
    (r : Raises X (.ref C)) (hg : Gl X x) (hdb : (x == ("__debug__" : Str)) = false := by decide) : PS X (.Raise (some (.Call (.Name x p) [.Constant (.str m) j p2] [] pos)) none pos') (sD X.K X.mg W (gRaise0 x)) :=
  PS.of (ps_raise hc tk (pmk_own F q gC kC r hg hdb)) fun D σ H ⟨w, F, ρ, n, c, q⟩ => q F H σ (.ref C) none .refl c ⟨C, gC, rfl, rfl⟩
/-- a clause without a name -/
theorem mix_plain {x : Str} {cv : Value} {b0 : Stmt} {suite : List Stmt} {np pp : Pos} {hds : List ExceptHandler} {cs : List (Value × Cl)} {tab : List (Str × Bool)} {g : Addr → Option Addr → DEnv → T Fl} (hc : Names X x cv)
    (hsu : ∀ (a : Addr) (oe : Obj) (d : Option Addr) (pn : List (Addr × Obj)), PSs (X.suite a ((a, oe) :: pn)) (b0 :: suite) (sD X.K X.mg W0 (g a d))) (more : MixOk X hds (clauses X.K X.mg cs)) :
    MixOk X (.ExceptHandler (some (.Name x np)) none (b0 :: suite) pp :: hds) (clauses X.K X.mg ((cv, ⟨none, tab, g⟩) :: cs)) := .plain hc (fun a oe cls d pn _ _ => hsu a oe d pn) more
theorem mix_nil : MixOk X [] (clauses X.K X.mg []) := .nil
/-- except C as n -/
theorem mix_named {x n nm : Str} {i : Nat} {cv : Value} {C0 : Addr} {b0 : Stmt} {suite : List Stmt} {np pp : Pos} {hds : List ExceptHandler} {cs : List (Value × Cl)} {tab : List (Str × Bool)} {g : Addr → Option Addr → DEnv → T Fl} (hc : Names X x cv) (hm : X.mg nm = some (.ref C0)) (hi : X.N[i]? = some n) (hl : X.env.kindOf n = some .local)
    (hsu : ∀ (a : Addr) (oe : Obj) (d : Option Addr) (pn : List (Addr × Obj)), Zc (.ref C0) d oe → (∃ vs, oe.data = .fields vs) → PSs (X.suite a ((a, oe) :: pn)) (b0 :: suite) (sD X.K X.mg W0 (g a d))) (more : MixOk X hds (clauses X.K X.mg cs)) :
    MixOk X (.ExceptHandler (some (.Name x np)) (some n) (b0 :: suite) pp :: hds) (clauses X.K X.mg ((cv, ⟨some (i, nm), tab, g⟩) :: cs)) := .named hc hi hl (fun a oe cls d pn hz hf => ⟨fun pins s σ H D I q => by
    obtain ⟨C, rfl, hC, q⟩ := q
    rw [hm] at hC
    cases hC
    exact (hsu a oe d pn hz hf).run pins s σ H D I q⟩) more
theorem tab_nil {K : PySem.W.Frag} {mg : Str → Option Value} {c : Value} : TabOk K mg c [] := fun n b h => nomatch h
theorem tab_cons {K : PySem.W.Frag} {mg : Str → Option Value} {c : Value} {n : Str} {b : Bool} {C0 : Addr} {tab : List (Str × Bool)} (hm : mg n = some (.ref C0)) (hx : PySem.W.exmOne K (.ref C0) c = some b) (more : TabOk K mg c tab) : TabOk K mg c ((n, b) :: tab) := fun n' b' h C hC => by
  by_cases e : n' = n
  · subst e
    rw [hm] at hC
    cases hC
    simp only [List.lookup, beq_self_eq_true] at h
    rw [← h]
    exact hx
  · have e2 : (n' == n) = false := by simpa using e
    simp only [List.lookup, e2] at h
    exact more n' b' h C hC
/-- n.f in the suite -/
def dXf (a : Addr) (d : Option Addr) (i : Nat) (f : Str) : DEnv → T D := fun ρ => match ρ[i]? with
  | some (.sh (.exc a' d' _ f' [x])) => if a' = a ∧ d' = d ∧ f' = f then .ok x else .fail
  | _ => .fail
theorem de_xf {a C : Addr} {oe : Obj} {d : Option Addr} {pn : List (Addr × Obj)} {e : Expr} {pos : Pos} {n : Str} (i : Nat) (T : XfC X.K C) (hno : PySem.W.findIn X.K (.ref C) n = some none) (hz : Zc (.ref C) d oe) (hf : ∃ vs, oe.data = .fields vs)
    (he : PE (X.suite a ((a, oe) :: pn)) e (tVar i)) (hb : attributeBase e n X.env (eval e X.env) = eval e X.env := by rfl) : PE (X.suite a ((a, oe) :: pn)) (.Attribute e n pos) (tD X.K X.mg W (dXf a d i n)) := PE.of (pe_xf T hno hz hf he hb) fun σ H Q ⟨w, F, ρ, m, c, q⟩ => by
  unfold dXf at q
  split at q
  · rename_i a' d' cls f' x hi
    split at q
    · rename_i h
      obtain ⟨rfl, rfl, rfl⟩ := h
      obtain ⟨v, h1, h2⟩ := c.env.sh i _ hi
      cases h2 with
      | exc1 f1 h1' r =>
        exact ⟨_, h1, rfl, rfl, _, _, _, rfl, h1', by simp [List.lookup], q F H _ .refl c.toBase r⟩
    · exact q.elim
  · exact q.elim
end
end
end AL
namespace AL
open PySem PySem.Spec PyProof.Rows L2
noncomputable section
variable [Tb]
/-! ## str -/
/-- str(d) -/
def D.told : D → Str
  | .str s => s
  | d => d.py.shown
def PyData.told : PyData → Str
  | .str s => s
  | d => d.shown
def rStr (K : PySem.W.Frag) : List V → Hp → VK → Prop := fun xs H Q => ∃ x d, xs = [x] ∧ Dp K H x d ∧ d.canLay0 = true ∧ d.showable = true ∧ d.shown.length ≤ sizeLine ∧ d.depth ≤ 64 ∧ Q (.str (PyData.told d)) H
theorem cr_str {X : Cx} (hG : X.A.guards = some []) (hu : X.A.units + 100 < cLine) : CallR X (.type "str") (rStr X.K) := by
  intro pins s σ H xs us Q I r h
  obtain ⟨x, d, rfl, hd, hl, hsh, hz, hdp, q⟩ := h
  obtain ⟨u, rfl, ru⟩ := vals1 r
  cases hd with
  | non =>
    cases ru
    refine P.str_of_none ⟨.str _, H, I.tok _, ⟨_, rfl⟩, ?_⟩
    simpa only [PyData.told, PyData.shown] using q
  | bl b =>
    cases ru
    refine P.str_of_bool ⟨.str _, H, I.tok _, ⟨_, rfl⟩, ?_⟩
    simpa only [PyData.told, PyData.shown] using q
  | int i =>
    obtain ⟨t, rfl⟩ := ru
    refine P.str_of_int (by simpa [PyData.showable] using hsh) ⟨.str _, H, I.tok _, ⟨_, rfl⟩, ?_⟩
    simpa only [PyData.told, PyData.shown] using q
  | str z =>
    obtain ⟨t, rfl⟩ := ru
    refine P.str_of_str ⟨.str _, H, I, ⟨_, rfl⟩, ?_⟩
    simpa only [PyData.told] using q
  | lst hs ha =>
    cases ru
    obtain ⟨as, rd⟩ := Dp.reads I _ _ _ (.lst hs ha) (show RelV (.ref _) (Value.ref _) from rfl)
    exact str_of_reads rd hsh (PyData.noDict_hsm (PyData.hasDict_of_canLay _ hl)) hG (by omega) (fun _ _ e => e) (fun h' u tk hk => ⟨.str _, H, I.kept (t' := tk) hk, ⟨u, rfl⟩, q⟩) hz
  | tup hs ha =>
    cases ru
    obtain ⟨as, rd⟩ := Dp.reads I _ _ _ (.tup hs ha) (show RelV (.ref _) (Value.ref _) from rfl)
    exact str_of_reads rd hsh (PyData.noDict_hsm (PyData.hasDict_of_canLay _ hl)) hG (by omega) (fun _ _ e => e) (fun h' u tk hk => ⟨.str _, H, I.kept (t' := tk) hk, ⟨u, rfl⟩, q⟩) hz
theorem told_py (d : D) : PyData.told d.py = d.told ∨ d.plain = false := by
  cases d <;> simp [D.py, PyData.told, D.told, PyData.shown, D.plain]
/-! ## own errors that keep a value -/
section
variable {X : Cx} {W : WX}
/-- BASE.__init__(self, ..), BASE an own class that takes ValueError's -/
theorem pe_cveinit {x : Str} {A0 : Addr} {e : Expr} {es : List Expr} {ta : TA} {p1 p2 pos : Pos} {pl : Sem Bool} (hg : Gl X x) (hm : X.mg x = some (.ref A0)) (hr : PySem.W.readsIn X.K A0 (.type "type") = true)
    (hs : PySem.W.specialIn X.K (.ref A0) "__getattribute__" = some (some (.builtin "type.__getattribute__"))) (vV : PySem.W.findCls X.K (.ref A0) (.type "type") "__init__" = some (.val (.builtin "ValueError.__init__"))) (ha : PA X (e :: es) ta)
    (hc : eval (.Call (.Attribute (.Name x p1) "__init__" p2) (e :: es) [] pos) X.env = (do
      let ov ← eval (.Name x p1) X.env
      standAt p2.atName
      let (f, first) ← holding [ov] (getMethod ov "__init__" pl)
      callWith pos f first (backTo pos (starEach (e :: es) X.env)) (backToKw pos (keywordEach [] X.env))) := by rfl)
    (hdb : (x == ("__debug__" : Str)) = false := by decide) (he : starEach (e :: es) X.env = (false, eval e X.env) :: starEach es X.env := by rfl) (hpl : (backTo pos (starEach es X.env)).any (·.1) = false := by rfl) :
    PE X (.Call (.Attribute (.Name x p1) "__init__" p2) (e :: es) [] pos) (tVeI X.K ta) := by
  constructor
  intro pins s σ H Q I h
  refine PySem.W.methodCall_KW (ld_glob I hg hm ?_ hdb) hc
  refine PySem.W.method_cls I.kIn hs (PySem.W.cls_value I.kIn hr vV (by decide +kernel) ?_)
  show wpAny _ _ (callWith pos (Value.builtin "ValueError.__init__") [] (backTo pos (starEach (e :: es) X.env)) []) _ _ _
  refine PyProof.Rows.callWith_method1 (thn (ha.run pos pins _ σ H _ (I.tok _) h) ?_) he hpl
  rintro us s1 ⟨vs, H1, I1, r1, a, C, ws, ev, hl, T, ea, q⟩
  subst ev
  cases r1 with
  | @cons _ u0 _ ur ra rest =>
    obtain rfl : u0 = Value.ref a := ra
    refine oinit_ok T I1 ea ?_ fun s' J => ⟨.non, H1, J, rfl, q⟩
    rw [← rest.length]
    exact szl (by omega)
/-- what __init__(self, v) promises: self gets v -/
def spInit (K : PySem.W.Frag) (C : Addr) (f : Str) : Sp := fun vs H Q _ => ∃ (a : Addr) (v : V) (d : PyData), vs = [.ref a, v] ∧ OexC K C ∧ PySem.W.findIn K (.ref C) f = some none ∧ H a = some (exo a C none) ∧ Dp K H v d ∧ d.canLay0 = true ∧ d.showable = true ∧ d.shown.length ≤ 1000000 ∧ (PyData.told d).length ≤ 1000000 ∧ d.depth ≤ 64 ∧
  ∀ dx, H dx = none → dx ≠ a → Q .non (upd (upd H dx (exd dx [(f, v)])) a (exo a C (some dx)))
theorem make_guards {A : Around} (h : A.guards = some []) (C : Addr) (us : List Value) (kw : List (Str × Value)) : (A.under (.builtin "type.__call__" ⟨.ref C :: us, kw⟩)).guards = some [] := by
  first
    | exact h
    | simpa [Around.under, Code.guards, Code.isGuard, pushGuards] using h
/-- C(e), C's own __init__ keeping spInit -/
theorem pmk_oexG {x : Str} {C fI : Addr} {k : Nat} {fd : FuncData} {ps : List Str} {sp : Sp} {e : Expr} {es : List Expr} {ta : TA} {p pos : Pos} (T : OexC X.K C) (iC : PySem.W.findIn X.K (.ref C) "__init__" = some (some (.ref fI))) (tI : PySem.W.typeIn X.K (.ref fI) = some (.type "function"))
    (FI : FnG X.prog X.w X.K X.mg X.base k fI fd ps sp) (hr : Room (k + 1) X.A) (hG : X.A.guards = some []) (hb : Binds X.K fd ps []) (hg : Gl X x) (hm : X.mg x = some (.ref C)) (ha : PA X (e :: es) ta)
    (hdb : (x == ("__debug__" : Str)) = false := by decide) (he : starEach (e :: es) X.env = (false, eval e X.env) :: starEach es X.env := by rfl) (hpl : (backTo pos (starEach es X.env)).any (·.1) = false := by rfl) :
    PMk X (.Call (.Name x p) (e :: es) [] pos) (tMkO C sp [] ta) := by
  intro pins s σ H Q I h
  obtain ⟨nm, qn, N, bs, bm, sn, sub, ab, col, dd, k0, k1, k2, k3, k5, hC, hbm⟩ := T.cls
  refine wpAny_Call_Name_kw (ld_glob I hg hm ?_ hdb)
  refine PySem.W.callWith_K (h₀ := X.base) I.ok.mod.kin T.kC (thn (ha.run pos pins s σ H _ I h) ?_) he hpl
  rintro us s1 ⟨vs, H1, I1, r1, hz, q1⟩
  refine ⟨I1.kIn, ?_⟩
  show wpAny _ _ (call (.ref C) us) _ _ _
  obtain ⟨hp, g, dr, tk, os⟩ := s1
  have up : hp.objs.size ≤ hp.objs.size + 1 := Nat.le_succ _
  have free : H1 (hp.objs.size + 1) = none := I1.hok.fresh up
  have q2 := q1 (hp.objs.size + 1) free
  have keep2 : ∀ b o, hp.get? b = some o → ((hp.push (PySem.W.kdv_tup us)).push (PySem.HandSPX.excO C hp.objs.size)).get? b = some o := fun b o z => Heap.get?_push_of_some _ (Heap.get?_push_of_some _ z)
  have there : ((hp.push (PySem.W.kdv_tup us)).push (PySem.HandSPX.excO C hp.objs.size)).get? (hp.objs.size + 1) = some (PySem.HandSPX.excO C hp.objs.size) := by heap_get
  have I2 : Inv X pins σ (upd H1 (hp.objs.size + 1) (exo (hp.objs.size + 1) C none)) ⟨(hp.push (PySem.W.kdv_tup us)).push (PySem.HandSPX.excO C hp.objs.size), g, dr, tk, os⟩ :=
    I1.laid (t' := tk) (a := hp.objs.size + 1) (o := exo (hp.objs.size + 1) C none) (h' := (hp.push (PySem.W.kdv_tup us)).push (PySem.HandSPX.excO C hp.objs.size)) keep2 up (exo_ok there)
  have r2 : Vals (V.ref (hp.objs.size + 1) :: vs) (Value.ref (hp.objs.size + 1) :: us) := .cons rfl r1
  rw [List.append_nil] at q2
  have q3 := q2
  have len2 : (Value.ref (hp.objs.size + 1) :: us).length = ps.length := by rw [← r2.length]; exact FI.len _ _ _ _ q3
  have small : us.length ≤ sizeLine := by rw [← Paired.length r1]; exact szl (by omega)
  have bnd := hb ⟨(hp.push (PySem.W.kdv_tup us)).push (PySem.HandSPX.excO C hp.objs.size), g, dr, tk, os⟩ (Value.ref (hp.objs.size + 1) :: us) I2.kIn (by rw [List.append_nil]; exact len2)
  rw [List.append_nil] at bnd
  refine wpAny_call (PySem.HandSPX.call_own F.excBase_ValueError (fun Y => PySem.HandSPX.refsVE_contains Y bm hbm) (I1.kIn _ _ hC) (PySem.W.looks_findIn I1.kIn iC) (fun self => PySem.W.bind_fn I1.kIn self tI) small
    (codeAny_mono (FI.run _ X.stack _ _ ⟨Value.ref (hp.objs.size + 1) :: us, []⟩ (Value.ref (hp.objs.size + 1) :: us) _ _ (fun _ _ _ => False) (hr.make C us []) (make_guards hG C us []) (I2.env0.make C us []) bnd r2 q3) ?_))
  intro r s' res
  match r, res with
  | .error er, res =>
    obtain ⟨_, _, _, _, _, _, _, _, _, _, _, _, z⟩ := res
    exact z.elim
  | .ok (.ret u), ⟨v, H2, os2, bare2, un2, hok2, rv, ev, d, fs, ea, ed, hd1, qq⟩ =>
    subst ev
    obtain ⟨h2, g2, d2, t2, os'⟩ := s'
    exact ⟨rv, mk_end (raises_own T.exC T.tyC) I1 up keep2 un2 hok2 os2 bare2 ea ed hd1 qq⟩
  | .ok .next, res => exact False.elim res
  | .ok .brk, res => exact False.elim res
  | .ok .cont, res => exact False.elim res
def RaiseOk (d : D) : Prop := d.canShow ∧ d.py.shown.length ≤ 1000000 ∧ (PyData.told d.py).length ≤ 1000000
instance (d : D) : Decidable (RaiseOk d) := Classical.propDecidable _
/-- raise C(e) -/
def gRaise1 (n f : Str) (g : DEnv → T D) : DEnv → T Fl := fun ρ => (g ρ).ex ρ fun d => if RaiseOk d then .ok (.rs ⟨n, some (f, d)⟩ ρ) else .fail
theorem ds_raise1 {x f : Str} {C fI : Addr} {k : Nat} {fd : FuncData} {ps : List Str} {e : Expr} {g : DEnv → T D} {p pos pos' : Pos} (hc : X.calm = true) (tk : Takes X W) (TC : OexC X.K C) (hno : PySem.W.findIn X.K (.ref C) f = some none) (iC : PySem.W.findIn X.K (.ref C) "__init__" = some (some (.ref fI))) (tI : PySem.W.typeIn X.K (.ref fI) = some (.type "function"))
    (FI : FnG X.prog X.w X.K X.mg X.base k fI fd ps (spInit X.K C f)) (hr : Room (k + 1) X.A) (hG : X.A.guards = some []) (hb : Binds X.K fd ps []) (hg : Gl X x) (hm : X.mg x = some (.ref C)) (h : PE X e (tD X.K X.mg W g))
    (hdb : (x == ("__debug__" : Str)) = false := by decide) (he : starEach (e :: []) X.env = (false, eval e X.env) :: starEach [] X.env := by rfl) (hpl : (backTo pos (starEach [] X.env)).any (·.1) = false := by rfl) :
    PS X (.Raise (some (.Call (.Name x p) [e] [] pos)) none pos') (sD X.K X.mg W (gRaise1 x f g)) :=
  PS.of (ps_raise hc tk (pmk_oexG TC iC tI FI hr hG hb hg hm (pa_cons h pa_nil he) hdb he hpl)) fun D σ H ⟨w, F, ρ, n, c, q⟩ => by
    refine tD.go c (T.wp_ex q) (fun e m h => PostS.exc c h) fun d m q1 F1 H1 v s1 c1 r => ?_
    split at q1
    · rename_i hd
      refine ⟨by show 1 ≤ 1000; decide, fun a na => ?_⟩
      refine ⟨a, v, d.py, rfl, TC, hno, upd_same, ?_, AL.D.canLay d hd.1.1, hd.1.2.1, hd.2.1, hd.2.2, hd.1.2.2.2, fun dx ndx nda => ?_⟩
      · have s2 := StepE.layOwn (w := w) (F := F1) (o := exo a C none) na
        exact (r.step s2 c1.toBase).dp hd.1.1
      · have nd1 : H1 dx = none := by rw [upd_ne nda] at ndx; exact ndx
        refine ⟨rfl, dx, [(f, v)], upd_same, by rw [upd_ne nda, upd_same], nd1, ?_⟩
        have eH : upd (del (upd (upd (upd H1 a (exo a C none)) dx (exd dx [(f, v)])) a (exo a C (some dx))) a) dx (.xd [(f, v)]) = upd H1 dx (.xd [(f, v)]) := by
          funext b
          by_cases e1 : b = dx
          · rw [e1, upd_same, upd_same]
          · rw [upd_ne e1, upd_ne e1]
            by_cases e2 : b = a
            · rw [e2, del_same, na]
            · rw [del_ne e2, upd_ne e2, upd_ne e1, upd_ne e2]
        rw [eH]
        have s2 := StepE.lay (w := w) (F := F1) (o := .xd [(f, v)]) nd1 c1.toBase.well.there
        have b2 := c1.toBase.lay (o := .xd [(f, v)]) nd1
        exact q1 _ _ _ _ _ (s1.trans s2).s (c.step (s1.trans s2) b2) ⟨C, hm, rfl, dx, v, rfl, .inr rfl, upd_same, r.step s2 c1.toBase⟩
    · exact q1.elim
end
end
end AL
namespace AL
open PySem PySem.Spec PyProof.Rows L2
noncomputable section
variable [Tb]
/-- a def that promises nothing -/
theorem FnG.never {P : Program} {w : World} {K : PySem.W.Frag} {mg : Str → Option Value} {base : Heap} {k : Nat} {f : Addr} {fd : FuncData} {ps : List Str} {ar : Nat} {fn : List D → T D} (h : ∀ ds, fn ds = .fail) (har : ps.length = ar := by rfl) : FnG P w K mg base k f fd ps (spD K mg ar fn) :=
  ⟨fun vs H Q E q => by rw [har]; exact q.1, fun A outer s H args us vs Q E _ _ _ _ _ q => by
    obtain ⟨_, _, _, _, ds, _, _, z⟩ := q
    rw [h] at z
    exact z.elim⟩
section
variable {X : Cx} {W : WX}
instance (i j : Int) : Decidable (PowOk i j) := Classical.propDecidable _
def opPow : D → D → T D := opIC PowOk fun i j => .int (i ^ j.toNat)
theorem ok_pow : OpOk X.K (rI PowOk fun i j => .int (i ^ j.toNat)) opPow := ok_intC fun _ _ _ _ _ => .int _
/-- a op b op' c -/
def dChain (f f' : D → D → T D) (a b c : DEnv → T D) : DEnv → T D := fun ρ => (a ρ).bind fun x => (b ρ).bind fun y => (f x y).bind fun r => match r with
  | .bl true => (c ρ).bind fun z => f' y z
  | .bl false => .ok (.bl false)
  | _ => .fail
theorem chain_read {r r' : R2} {f f' : D → D → T D} {fa fb fc : DEnv → T D} {σ : L2.St} {H : Hp} {Q : VK} (ho : OpOk X.K r f) (ho' : OpOk X.K r' f') (h : tD X.K X.mg W (dChain f f' fa fb fc) σ H Q) : tChain r r' (tD X.K X.mg W fa) (tD X.K X.mg W fb) (tD X.K X.mg W fc) σ H Q := by
  obtain ⟨w, F, ρ, n, c, q⟩ := h
  refine tD.go c (T.wp_bind _ _ |>.mp q) (fun _ _ h => h) fun x m q1 F1 H1 v s1 c1 r1 => tD.go c1 (T.wp_bind _ _ |>.mp q1) (fun _ _ h => h.back s1) fun y m2 q2 F2 H2 u s2 c2 r2 => ?_
  have s12 := s1.trans s2
  refine ho w F2 H2 m2 v u x y _ (PostX X.K X.mg w F H fun c dd H' => W c dd σ H') c2.toBase (r1.step s2 c1.toBase) r2 (T.wp_mono (fun d m3 q3 F3 H3 z s3 b3 rz => ?_) (fun _ _ h => h) (T.wp_bind _ _ |>.mp q2))
  have c3 := c2.step s3 b3
  cases d with
  | bl b =>
    cases rz
    refine ⟨b, rfl, ?_⟩
    cases b with
    | false => exact iteF (q3 F3 H3 _ (s12.trans s3) b3 (.bl false))
    | true =>
      refine iteT (tD.go c3 (T.wp_bind _ _ |>.mp q3) (fun _ _ h => h.back (s12.trans s3)) fun z m4 q4 F4 H4 t s4 c4 r4 => ?_)
      exact ho' w F4 H4 m4 u t y z _ _ c4.toBase ((r2.step s3 c2.toBase).step s4 c3.toBase) r4 (T.wp_mono (fun _ _ h => h.back ((s12.trans s3).trans s4)) (fun _ _ h => h) q4)
  | _ => exact q3.elim
theorem de_chain {op op' : CmpOp} {r r' : R2} {f f' : D → D → T D} {a b c : Expr} {fa fb fc : DEnv → T D} {pos : Pos} (hr : OpR X (compareOp op) r) (hr' : OpR X (compareOp op') r') (ho : OpOk X.K r f) (ho' : OpOk X.K r' f') (ha : PE X a (tD X.K X.mg W fa)) (hb : PE X b (tD X.K X.mg W fb)) (hc : PE X c (tD X.K X.mg W fc))
    (hm : lastMarks [op, op'] [b, c] = false := by with_unfolding_all rfl) : PE X (.Compare a [op, op'] [b, c] pos) (tD X.K X.mg W (dChain f f' fa fb fc)) := PE.of (pe_chain hr hr' ha hb hc hm) fun σ H Q h => chain_read ho ho' h
theorem dt_chain {op op' : CmpOp} {r r' : R2} {f f' : D → D → T D} {a b c : Expr} {fa fb fc : DEnv → T D} {pos : Pos} (hr : OpR X (compareOp op) r) (hr' : OpR X (compareOp op') r') (ho : OpOk X.K r f) (ho' : OpOk X.K r' f') (ha : PE X a (tD X.K X.mg W fa)) (hb : PE X b (tD X.K X.mg W fb)) (hc : PE X c (tD X.K X.mg W fc))
    (hm : lastMarks [op, op'] [b, c] = false := by with_unfolding_all rfl) : PT X (.Compare a [op, op'] [b, c] pos) (tDT X.K X.mg W (dT (dChain f f' fa fb fc))) := PT.of (pt_chain hr hr' ha hb hc hm) fun σ H Q ⟨w, F, ρ, n, c, q⟩ => chain_read (fa := fa) ho ho' ⟨w, F, ρ, n, c, T.wp_mono (fun d m h F1 H1 v s1 b1 r => by
    cases d with
    | bl b => cases r; exact ⟨b, rfl, h F1 H1 s1 b1⟩
    | _ => exact h.elim) (fun _ _ h => h) (T.wp_bind _ _ |>.mp q)⟩
end
end
end AL
namespace AL
open PySem
noncomputable section
@[simp] theorem s_gTry (g : DEnv → T Fl) (cs : List Cl) (ρ : DEnv) : gTry g cs ρ = ((g ρ).bind fun fl => match fl with
  | .rs e ρ' => gHandle e cs ρ'
  | fl => .ok fl) := rfl
@[simp] theorem s_gRaise0 (n : Str) (ρ : DEnv) : gRaise0 n ρ = (.ok (.rs ⟨n, none⟩ ρ)) := rfl
@[simp] theorem s_dXf (a : Addr) (d : Option Addr) (i : Nat) (f : Str) (ρ : DEnv) : dXf a d i f ρ = (match ρ[i]? with
  | some (.sh (.exc a' d' _ f' [x])) => if a' = a ∧ d' = d ∧ f' = f then .ok x else .fail
  | _ => .fail) := rfl
@[simp] theorem s_gRaise1 (n f : Str) (g : DEnv → T D) (ρ : DEnv) : gRaise1 n f g ρ = ((g ρ).ex ρ fun d => if RaiseOk d then .ok (.rs ⟨n, some (f, d)⟩ ρ) else .fail) := rfl
@[simp] theorem s_dChain (f f' : D → D → T D) (a b c : DEnv → T D) (ρ : DEnv) : dChain f f' a b c ρ = ((a ρ).bind fun x => (b ρ).bind fun y => (f x y).bind fun r => match r with
  | .bl true => (c ρ).bind fun z => f' y z
  | .bl false => .ok (.bl false)
  | _ => .fail) := rfl
/-! ## tests and choices with draws -/
section
variable {ρ : DEnv} {c c1 c2 : Nat}
theorem run_dT {f : DEnv → T D} {P : Bool → Prop} (h : run (f ρ) c fun d => ∃ b, d = .bl b ∧ P b) : run (dT f ρ) c P := by
  rw [s_dT]
  refine run_bind0 h fun d ⟨b, e, hp⟩ => ?_
  subst e
  exact run_ok hp
theorem run_dIf {t : DEnv → T Bool} {a b : DEnv → T D} {P : Bool → Prop} {R : D → Prop} (h : run (t ρ) c1 P) (ha : P true → run (a ρ) c2 R) (hb : P false → run (b ρ) c2 R) : run (dIf t a b ρ) (c1 + c2) R := by
  rw [s_dIf]
  refine run_bind h fun x hx => ?_
  cases x with
  | true => exact ha hx
  | false => exact hb hx
theorem run_gIf {t : DEnv → T Bool} {a b : DEnv → T Fl} {P : Bool → Prop} {R : Fl → Prop} (h : run (t ρ) c1 P) (ha : P true → run (a ρ) c2 R) (hb : P false → run (b ρ) c2 R) : run (gIf t a b ρ) (c1 + c2) R := by
  rw [s_gIf]
  refine run_ex h fun x hx => ?_
  cases x with
  | true => exact ha hx
  | false => exact hb hx
theorem run_gPar {i j : Nat} {f g : DEnv → T Slot} {P Q : Slot → Prop} (h1 : run (f ρ) c1 P) (h2 : run (g ρ) c2 Q) : run (gPar i j f g ρ) (c1 + c2) fun fl => ∃ s t, P s ∧ Q t ∧ fl = .nx ((ρ.set i s).set j t) := by
  rw [s_gPar]
  refine run_ex h1 fun s hs => run_mono (run_ex (c2 := 0) h2 fun t ht => run_ok ⟨s, t, hs, ht, rfl⟩) (Nat.le_refl _) fun _ z => z
theorem run_dSh {f : DEnv → T D} {P : D → Prop} (h : run (f ρ) c P) : run (dSh f ρ) c fun s => ∃ d, P d ∧ s = .sh d := by
  rw [s_dSh]
  exact run_bind0 h fun d hd => run_ok ⟨d, hd, rfl⟩
theorem run_dOr {a b : DEnv → T Bool} {P Q : Bool → Prop} (h1 : run (a ρ) c1 P) (h2 : P false → run (b ρ) c2 Q) : run (dTOr a b ρ) (c1 + c2) fun x => (P true ∧ x = true) ∨ (P false ∧ Q x) := by
  rw [s_dTOr]
  refine run_bind h1 fun x hx => ?_
  cases x with
  | true => exact run_ok (.inl ⟨hx, rfl⟩)
  | false => exact run_imp (h2 hx) fun y hy => .inr ⟨hx, hy⟩
end
theorem plain_known {d : D} (h : d.plain = true) : d.known = true := by cases d <;> simp_all [D.plain]
/-- a test that comes out so goes on -/
theorem nx_if {ρ ρ' : DEnv} {t : DEnv → T Bool} {g : DEnv → T Fl} (e : t ρ = .ok false) : gIf t g gNil ρ = .ok (.nx ρ) := by rw [s_gIf, e, T.ex_ok]; rfl
end
end AL
namespace AL
open PySem PySem.Spec PyProof.Rows L2
noncomputable section
variable [Tb]
/-! ## int, abs, max, min -/
section
variable {X : Cx} {W : WX}
def intT (d : D) : T D := match d with
  | .int i => .ok (.int i)
  | .bl b => .ok (.int (if b then 1 else 0))
  | _ => .fail
def dInt (f : DEnv → T D) : DEnv → T D := fun ρ => (f ρ).bind intT
theorem de_int1 {a : Expr} {f : DEnv → T D} {p pos : Pos} (hg : Gl X "int") (hm : X.mg "int" = none) (h : PE X a (tD X.K X.mg W f)) (he : starEach (a :: []) X.env = (false, eval a X.env) :: starEach [] X.env := by rfl) (hpl : (backTo pos (starEach [] X.env)).any (·.1) = false := by rfl) :
    PE X (.Call (.Name "int" p) [a] [] pos) (tD X.K X.mg W (dInt f)) :=
  PE.of (pe_callTy call_int1 hg hm (by decide +kernel) (pa_cons h pa_nil he) (he := he) (hpl := hpl)) fun σ H Q ⟨w, F, ρ, n, c, q⟩ => arg1 <|
    tD.go c (T.wp_bind _ _ |>.mp q) (fun _ _ h => h) fun d m q1 F1 H1 v s1 c1 r => by
      cases r with
      | int i => exact .inl ⟨i, rfl, q1 F1 H1 _ s1 c1.toBase (.int _)⟩
      | bl b => exact .inr ⟨b, rfl, q1 F1 H1 _ s1 c1.toBase (.int _)⟩
      | _ => exact q1.elim
def absT (d : D) : T D := match d with
  | .int i => .ok (.int (if i < 0 then -i else i))
  | _ => .fail
def dAbs (f : DEnv → T D) : DEnv → T D := fun ρ => (f ρ).bind absT
theorem de_abs {a : Expr} {f : DEnv → T D} {p pos : Pos} (hg : Gl X "abs") (hm : X.mg "abs" = none) (h : PE X a (tD X.K X.mg W f)) (he : starEach (a :: []) X.env = (false, eval a X.env) :: starEach [] X.env := by rfl) (hpl : (backTo pos (starEach [] X.env)).any (·.1) = false := by rfl) :
    PE X (.Call (.Name "abs" p) [a] [] pos) (tD X.K X.mg W (dAbs f)) :=
  PE.of (pe_callB call_abs hg hm (by decide +kernel) (pa_cons h pa_nil he) (he := he) (hpl := hpl)) fun σ H Q ⟨w, F, ρ, n, c, q⟩ => arg1 <|
    tD.go c (T.wp_bind _ _ |>.mp q) (fun _ _ h => h) fun d m q1 F1 H1 v s1 c1 r => by
      cases r with
      | int i => exact ⟨i, rfl, q1 F1 H1 _ s1 c1.toBase (.int _)⟩
      | _ => exact q1.elim
def maxT (a b : D) : T D := match a, b with
  | .int i, .int j => .ok (.int (if j > i then j else i))
  | _, _ => .fail
def minT (a b : D) : T D := match a, b with
  | .int i, .int j => .ok (.int (if j < i then j else i))
  | _, _ => .fail
def dMax (f g : DEnv → T D) : DEnv → T D := fun ρ => (f ρ).bind fun x => (g ρ).bind fun y => maxT x y
def dMin (f g : DEnv → T D) : DEnv → T D := fun ρ => (f ρ).bind fun x => (g ρ).bind fun y => minT x y
theorem de_max2 {a b : Expr} {f g : DEnv → T D} {p pos : Pos} (hc : X.calm = true) (hg : Gl X "max") (hm : X.mg "max" = none) (ha : PE X a (tD X.K X.mg W f)) (hb : PE X b (tD X.K X.mg W g)) (he : starEach (a :: [b]) X.env = (false, eval a X.env) :: starEach [b] X.env := by rfl) (he2 : starEach (b :: []) X.env = (false, eval b X.env) :: starEach [] X.env := by rfl)
    (hpl : (backTo pos (starEach [b] X.env)).any (·.1) = false := by rfl) : PE X (.Call (.Name "max" p) [a, b] [] pos) (tD X.K X.mg W (dMax f g)) :=
  PE.of (pe_callB (call_max2 hc) hg hm (by decide +kernel) (pa_cons ha (pa_cons hb pa_nil he2) he) (he := he) (hpl := hpl)) fun σ H Q ⟨w, F, ρ, n, c, q⟩ => by
    show tD X.K X.mg W f σ H _
    refine tD.go c (T.wp_bind _ _ |>.mp q) (fun _ _ h => h) fun x m q1 F1 H1 u s1 c1 r1 => ?_
    show tD X.K X.mg W g σ H1 _
    refine tD.go c1 (T.wp_bind _ _ |>.mp q1) (fun _ _ h => h.back s1) fun y m2 q2 F2 H2 v s2 c2 r2 => ?_
    cases r1 with
    | int i =>
      cases r2 with
      | int j => exact ⟨i, j, rfl, q2 F2 H2 _ (s1.trans s2) c2.toBase (.int _)⟩
      | _ => exact q2.elim
    | _ => exact q2.elim
theorem de_min2 {a b : Expr} {f g : DEnv → T D} {p pos : Pos} (hc : X.calm = true) (hg : Gl X "min") (hm : X.mg "min" = none) (ha : PE X a (tD X.K X.mg W f)) (hb : PE X b (tD X.K X.mg W g)) (he : starEach (a :: [b]) X.env = (false, eval a X.env) :: starEach [b] X.env := by rfl) (he2 : starEach (b :: []) X.env = (false, eval b X.env) :: starEach [] X.env := by rfl)
    (hpl : (backTo pos (starEach [b] X.env)).any (·.1) = false := by rfl) : PE X (.Call (.Name "min" p) [a, b] [] pos) (tD X.K X.mg W (dMin f g)) :=
  PE.of (pe_callB (call_min2 hc) hg hm (by decide +kernel) (pa_cons ha (pa_cons hb pa_nil he2) he) (he := he) (hpl := hpl)) fun σ H Q ⟨w, F, ρ, n, c, q⟩ => by
    show tD X.K X.mg W f σ H _
    refine tD.go c (T.wp_bind _ _ |>.mp q) (fun _ _ h => h) fun x m q1 F1 H1 u s1 c1 r1 => ?_
    show tD X.K X.mg W g σ H1 _
    refine tD.go c1 (T.wp_bind _ _ |>.mp q1) (fun _ _ h => h.back s1) fun y m2 q2 F2 H2 v s2 c2 r2 => ?_
    cases r1 with
    | int i =>
      cases r2 with
      | int j => exact ⟨i, j, rfl, q2 F2 H2 _ (s1.trans s2) c2.toBase (.int _)⟩
      | _ => exact q2.elim
    | _ => exact q2.elim
end
end
end AL
namespace AL
open PySem PySem.Spec PyProof.Rows L2
noncomputable section
variable [Tb]
/-! ## in, tuple * n, list * n, constants of the module -/
@[simp] theorem s_dInt (f : DEnv → T D) (ρ : DEnv) : dInt f ρ = (f ρ).bind intT := rfl
@[simp] theorem s_dAbs (f : DEnv → T D) (ρ : DEnv) : dAbs f ρ = (f ρ).bind absT := rfl
@[simp] theorem s_dMax (f g : DEnv → T D) (ρ : DEnv) : dMax f g ρ = (f ρ).bind fun x => (g ρ).bind fun y => maxT x y := rfl
@[simp] theorem s_dMin (f g : DEnv → T D) (ρ : DEnv) : dMin f g ρ = (f ρ).bind fun x => (g ρ).bind fun y => minT x y := rfl
@[simp] theorem intT_int (i : Int) : intT (.int i) = .ok (.int i) := rfl
@[simp] theorem intT_bl (b : Bool) : intT (.bl b) = .ok (.int (if b then 1 else 0)) := rfl
@[simp] theorem maxT_int (i j : Int) : maxT (.int i) (.int j) = .ok (.int (if j > i then j else i)) := rfl
@[simp] theorem minT_int (i j : Int) : minT (.int i) (.int j) = .ok (.int (if j < i then j else i)) := rfl
section
variable {X : Cx} {W : WX}
/-! ### x in s -/
def InOk (d : D) (ys : List D) : Prop := d.plain = true ∧ d.py.depth ≤ 64 ∧ D.plains ys = true
def inD (d : D) (ys : List D) : Bool := (D.pys ys).any fun z => PyData.eqv z d.py
def opIn (g : Bool → Bool) (d : D) (s : Sq) : T D := if d.plain = true ∧ d.py.depth ≤ 64 ∧ D.plains s.xs = true then .ok (.bl (g (inD d s.xs))) else .fail
def dIn (g : Bool → Bool) (f : DEnv → T D) (h : DEnv → T Sq) : DEnv → T D := fun ρ => (f ρ).bind fun d => (h ρ).bind fun s => opIn g d s
@[simp] theorem s_dIn (g : Bool → Bool) (f : DEnv → T D) (h : DEnv → T Sq) (ρ : DEnv) : dIn g f h ρ = (f ρ).bind fun d => (h ρ).bind fun s => opIn g d s := rfl
def rInA (K : PySem.W.Frag) (g : Bool → Bool) : R2 := fun x y H Q => ∃ d ds, Dp K H x d ∧ (Dp K H y (.list ds) ∨ Dp K H y (.tuple ds)) ∧ d.canLay0 = true ∧ PyData.canLayAll0 ds = true ∧ d.depth ≤ 64 ∧ Q (.bl (g (ds.any fun z => PyData.eqv z d))) H
theorem or_in (hu : X.A.units + 65 < cLine) : OpR X (compareOp .In) (rInA X.K id) := by
  intro pins s σ H x y v u Q I rx ry h
  obtain ⟨d, ds, hd, he | he, sd, se, hz, q⟩ := h
  · obtain ⟨as, r1⟩ := Dp.reads I d x v hd rx
    obtain ⟨bs, r2⟩ := Dp.reads I (.list ds) y u he ry
    exact SeqAt.in_list_reads r2 r1 se sd (by omega) ⟨.bl _, H, I, rfl, q⟩
  · obtain ⟨as, r1⟩ := Dp.reads I d x v hd rx
    obtain ⟨bs, r2⟩ := Dp.reads I (.tuple ds) y u he ry
    exact SeqAt.in_tuple_reads r2 r1 se sd (by omega) ⟨.bl _, H, I, rfl, q⟩
theorem or_notin (hu : X.A.units + 65 < cLine) : OpR X (compareOp .NotIn) (rInA X.K not) := by
  intro pins s σ H x y v u Q I rx ry h
  obtain ⟨d, ds, hd, he | he, sd, se, hz, q⟩ := h
  · obtain ⟨as, r1⟩ := Dp.reads I d x v hd rx
    obtain ⟨bs, r2⟩ := Dp.reads I (.list ds) y u he ry
    exact SeqAt.notIn_list_reads r2 r1 se sd (by omega) ⟨.bl _, H, I, rfl, q⟩
  · obtain ⟨as, r1⟩ := Dp.reads I d x v hd rx
    obtain ⟨bs, r2⟩ := Dp.reads I (.tuple ds) y u he ry
    exact SeqAt.notIn_tuple_reads r2 r1 se sd (by omega) ⟨.bl _, H, I, rfl, q⟩
theorem in_two {g : Bool → Bool} {f : DEnv → T D} {h : DEnv → T Sq} {σ : St} {H : Hp} {Q : VK} (q0 : tD X.K X.mg W (dIn g f h) σ H Q) : tOp (rInA X.K g) (tD X.K X.mg W f) (tS X.K X.mg W h) σ H Q := by
  obtain ⟨w, F, ρ, n, c, q⟩ := q0
  refine tD.go c (T.wp_bind _ _ |>.mp q) (fun _ _ h => h) fun d m q1 F1 H1 v s1 c1 r => ?_
  refine tS.go c1 (T.wp_bind _ _ |>.mp q1) (fun _ _ h => h.back s1) fun s m2 q2 F2 H2 a vs s2 c2 hs r2 => ?_
  unfold opIn at q2
  split at q2
  · rename_i hc
    refine ⟨d.py, D.pys s.xs, (r.step s2 c1.toBase).dp hc.1, ?_, D.canLay _ hc.1, D.canLays _ hc.2.2, hc.2.1, q2 F2 H2 _ (s1.trans s2) c2.toBase (.bl _)⟩
    cases s with
    | l xs => exact .inl (.lst (SqL.of hs.2) (Reps.dp r2 hc.2.2))
    | t xs => exact .inr (.tup (TupAt.seq hs) (Reps.dp r2 hc.2.2))
  · exact q2.elim
theorem de_in {op : CmpOp} {g : Bool → Bool} {a b : Expr} {f : DEnv → T D} {h : DEnv → T Sq} {pos : Pos} (hr : OpR X (compareOp op) (rInA X.K g)) (hm : behindInMarks op b = false) (ha : PE X a (tD X.K X.mg W f)) (hb : PE X b (tS X.K X.mg W h)) :
    PE X (.Compare a [op] [b] pos) (tD X.K X.mg W (dIn g f h)) := PE.of (pe_cmpR hr ha hb hm) fun _ _ _ q => in_two q
theorem dt_in {op : CmpOp} {g : Bool → Bool} {a b : Expr} {f : DEnv → T D} {h : DEnv → T Sq} {pos : Pos} (hr : OpR X (compareOp op) (rInA X.K g)) (hm : behindInMarks op b = false) (ha : PE X a (tD X.K X.mg W f)) (hb : PE X b (tS X.K X.mg W h)) :
    PT X (.Compare a [op] [b] pos) (tDT X.K X.mg W (dT (dIn g f h))) := PT.of (pt_cmpR hr ha hb hm) fun σ H Q ⟨w, F, ρ, n, c, q⟩ => in_two (g := g) ⟨w, F, ρ, n, c, T.wp_mono (fun d m h F1 H1 v s1 b1 r => by
    cases d with
    | bl b => cases r; exact ⟨b, rfl, h F1 H1 s1 b1⟩
    | _ => exact h.elim) (fun _ _ h => h) (T.wp_bind _ _ |>.mp q)⟩
/-! ### list * n -/
theorem Reps.rep {K : PySem.W.Frag} {w : Addr} {F : Addr → Prop} {H : Hp} {vs : List V} {ds : List D} (r : Reps K w F H vs ds) : ∀ k : Nat, Reps K w F H (List.replicate k vs).flatten (List.replicate k ds).flatten
  | 0 => .nil
  | k + 1 => by simp only [List.replicate_succ, List.flatten_cons]; exact r.append (Reps.rep r k)
def opRepL (s : Sq) (d : D) : T (List D) := match s, d with
  | .l xs, .int k => if k ≤ 1000000 ∧ xs.length ≤ 1000 ∧ xs.length * k.toNat ≤ 1000000 ∧ -1000000 ≤ k then .ok (List.replicate k.toNat xs).flatten else .fail
  | _, _ => .fail
def dRepL (f : DEnv → T Sq) (g : DEnv → T D) : DEnv → T (List D) := fun ρ => (f ρ).bind fun s => (g ρ).bind fun d => opRepL s d
@[simp] theorem s_dRepL (f : DEnv → T Sq) (g : DEnv → T D) (ρ : DEnv) : dRepL f g ρ = (f ρ).bind fun s => (g ρ).bind fun d => opRepL s d := rfl
theorem dn_repL {a b : Expr} {f : DEnv → T Sq} {g : DEnv → T D} {pos : Pos} (ha : PE X a (tS X.K X.mg W f)) (hb : PE X b (tD X.K X.mg W g)) : PE X (.BinOp a .Mult b pos) (tN X.K X.mg W (dRepL f g)) :=
  PE.of (pe_op op_rep ha hb) fun σ H Q ⟨w, F, ρ, n, c, q⟩ =>
    tS.go c (T.wp_bind _ _ |>.mp q) (fun _ _ h => h) fun s m q1 F1 H1 a vs s1 c1 hs r => tD.go c1 (T.wp_bind _ _ |>.mp q1) (fun _ _ h => h.back s1) fun d m2 q2 F2 H2 v s2 c2 r2 => by
      have hs' := hs.step s2 c1.toBase
      have r' := r.step s2 c1.toBase
      cases s with
      | t xs => exact q2.elim
      | l xs =>
        cases r2 with
        | int k =>
          unfold opRepL at q2
          dsimp only at q2
          split at q2
          · rename_i hz
            refine ⟨a, k, vs, rfl, rfl, hs'.2, by omega, by omega, ?_, fun p hp => ?_⟩
            · have h1 := hz.2.2.1
              have h2 : vs.length = xs.length := r.length
              rw [h2, PySem.sizeLine_eq]
              omega
            obtain ⟨s3, b3, nf, r3⟩ := dn_new (mg := X.mg) c2.toBase (Reps.rep r' k.toNat) hp
            exact q2 F2 _ p _ ((s1.trans s2).trans s3) b3 (s1.dom p (s2.dom p hp)) nf upd_same r3
          · exact q2.elim
        | _ => exact q2.elim
/-! ### a tuple of texts, a constant of the module -/
def strsB : List Value → List Str → Bool
  | [], [] => true
  | .str s _ :: r, x :: xs => decide (s = x) && strsB r xs
  | _, _ => false
theorem strsB_ok : ∀ {us : List Value} {ss : List Str}, strsB us ss = true → Vals (ss.map V.str) us
  | [], [], _ => .nil
  | .str s t :: r, x :: xs, h => by
    simp only [strsB, Bool.and_eq_true, decide_eq_true_eq] at h
    exact .cons ⟨t, by rw [h.1]⟩ (strsB_ok h.2)
  | [], _ :: _, h => by cases h
  | .str _ _ :: _, [], h => by cases h
  | .none :: _, _, h => by cases h
def tupSB (K : PySem.W.Frag) (a : Addr) (ss : List Str) : Bool := match K.lookup a with
  | some ⟨.type c, _, .seq its _, _⟩ => decide (c = "tuple") && (decide (its.size ≤ sizeLine) && strsB its.toList ss)
  | _ => false
theorem tupSB_ok {K : PySem.W.Frag} {a : Addr} {ss : List Str} (h : tupSB K a ss = true) : ∃ (o : Obj) (its : Array Value) (n : Nat), K.lookup a = some o ∧ o.cls = .type "tuple" ∧ o.data = .seq its n ∧ its.size ≤ sizeLine ∧ Vals (ss.map V.str) its.toList := by
  unfold tupSB at h
  split at h
  · rename_i c od its n osl q
    simp only [Bool.and_eq_true, decide_eq_true_eq] at h
    exact ⟨_, its, n, q, by rw [h.1], rfl, h.2.1, strsB_ok h.2.2⟩
  · cases h
def tupSI (its : Array Value) (ss : List Str) : Bool := decide (its.size ≤ sizeLine) && strsB its.toList ss
theorem tupSB_mk {K : PySem.W.Frag} {a : Addr} {ss : List Str} {od : Option Addr} {its : Array Value} {n : Nat} {sl : Array (Option Value)} (h : K.lookup a = some ⟨.type "tuple", od, .seq its n, sl⟩) (h2 : tupSI its ss = true) : tupSB K a ss = true := by
  unfold tupSB
  rw [h]
  simp only [decide_true, Bool.true_and]
  exact h2
def strsD (ss : List Str) : D := .tup (ss.map D.str)
theorem Reps.strs {K : PySem.W.Frag} {w : Addr} {F : Addr → Prop} {H : Hp} : ∀ ss : List Str, Reps K w F H (ss.map V.str) (ss.map D.str)
  | [] => .nil
  | s :: ss => .cons (.str s) (Reps.strs ss)
theorem de_tupC {x : Str} {a : Addr} {ss : List Str} {pos : Pos} (hg : Gl X x) (hm : X.mg x = some (.ref a)) (h : tupSB X.K a ss = true) (hd : (x == ("__debug__" : Str)) = false := by decide) : PE X (.Name x pos) (tD X.K X.mg W (dC (strsD ss))) :=
  de_c (pe_glob (v := .ref a) hg hm rfl hd) fun w F H => .tup (.inr (tupSB_ok h)) (Reps.strs ss)
/-! ### tuple * n -/
theorem tuple_mul1 (l : Addr) (items : Array Value) (n : Nat) (dd : Option Addr) (sl : Array (Option Value)) (x : Int) (u : Tok) (c0 : (decide (x < -(2 ^ 63)) || decide (x ≥ 2 ^ 63)) = false) (c1 : (items.isEmpty || x == 1) = true) :
    Meets (Builtin.«tuple.__mul__» ⟨[.ref l, .int x u], []⟩) (fun _ R s => s.heap.get? l = some { cls := .type "tuple", dict := dd, data := .seq items n, slots := sl } ∧ R (.ok (.ret (Value.ref l))) s) :=
  .of_wp fun prog w A R s h => by
    obtain ⟨hp, g, d, tk, os⟩ := s
    obtain ⟨hl, h⟩ := h
    have f1 := AutoSeq1.idx_int
    wp_walk using wpAny_loadPart' hl
    repeat (first
      | (refine wpAny_ite_false (decide_eq_false (by rw [c0]; exact Bool.false_ne_true)) ?_; wp_walk using wpAny_loadPart' hl)
      | (refine wpAny_ite_true (decide_eq_true c1) ?_; wp_walk using wpAny_loadPart' hl))
    exact ⟨_, rfl, h⟩
theorem tuple_mul0 (l : Addr) (items : Array Value) (n : Nat) (dd : Option Addr) (sl : Array (Option Value)) (x : Int) (u : Tok) (c0 : (decide (x < -(2 ^ 63)) || decide (x ≥ 2 ^ 63)) = false) (c1 : (items.isEmpty || x == 1) = false) (c2 : (decide (x ≤ 0) || items.isEmpty) = true) :
    Meets (Builtin.«tuple.__mul__» ⟨[.ref l, .int x u], []⟩) (fun _ R s => s.heap.get? l = some { cls := .type "tuple", dict := dd, data := .seq items n, slots := sl } ∧ R (.ok (.ret (Value.ref s.heap.objs.size))) { s with heap := s.heap.push { cls := Value.type "tuple", data := Data.seq #[] }, toks := s.toks }) :=
  .of_wp fun prog w A R s h => by
    obtain ⟨hp, g, d, tk, os⟩ := s
    obtain ⟨hl, h⟩ := h
    have f1 := AutoSeq1.idx_int
    wp_walk using wpAny_loadPart' hl
    repeat (first
      | (refine wpAny_ite_false (decide_eq_false (by rw [c0]; exact Bool.false_ne_true)) ?_; wp_walk using wpAny_loadPart' hl)
      | (refine wpAny_ite_false (decide_eq_false (by rw [c1]; exact Bool.false_ne_true)) ?_; wp_walk using wpAny_loadPart' hl)
      | (refine wpAny_ite_true (decide_eq_true c2) ?_; wp_walk using wpAny_loadPart' hl))
    exact ⟨_, rfl, h⟩
def rRepA (K : PySem.W.Frag) : R2 := fun x y H Q => ∃ l k xs, x = .ref l ∧ y = .int k ∧ SqT K H l xs ∧ -1000 ≤ k ∧ k ≤ 1000 ∧ xs.length ≤ 1000 ∧
  ((xs = [] ∨ k = 1) → Q (.ref l) H) ∧ (¬ (xs = [] ∨ k = 1) → ∀ p, H p = none → Q (.ref p) (upd H p (.tup (List.replicate k.toNat xs).flatten)))
theorem op_repA : OpR X (binaryOp .Mult) (rRepA X.K) := by
  intro pins s σ H x y v u Q I rx ry h
  obtain ⟨l, k, xs, rfl, rfl, hT, h1, h2, hz, q1, q2⟩ := h
  by_cases hc : xs = [] ∨ k = 1
  · cases rx
    obtain ⟨t, rfl⟩ := ry
    obtain ⟨its, r, ⟨⟨cls, dd, data, sl⟩, ho, hcl, n, hd⟩, hs⟩ := I.tuple hT
    simp only at hcl hd
    subst hcl hd
    have c0 : (decide (k < -(2 ^ 63)) || decide (k ≥ 2 ^ 63)) = false := by
      rw [decide_eq_false (by omega), decide_eq_false (by omega)] <;> rfl
    have c1 : (its.toArray.isEmpty || k == 1) = true := by
      rcases hc with e | e
      · subst e
        cases r
        rfl
      · subst e
        simp
    exact wpAny_binaryOp_repeat_ref (T := "tuple") (U := "int") (by decide) ⟨_, ho, rfl⟩ (fun s' => typeIs_int s' k t) noFill_tuple_mul F.fills_int_mul F.slot_int_rmul repeat_tuple F.slot_int_index.lookup
      (call_meets F.slot_int_rmul (typeIs_int s k t) F.entry_int_rmul (F.args_int_rmul_2 _ _) (int_rmul_tuple k t l its.toArray n dd sl)
        ⟨ho, rfl, ⟨_, ho, rfl⟩, call_meets F.slot_tuple_mul ⟨_, ho, rfl⟩ F.entry_tuple_mul (F.args_tuple_mul_2 _ _) (tuple_mul1 l its.toArray n dd sl k t c0 c1) ⟨ho, .ref l, H, I, rfl, q1 hc⟩⟩)
  · by_cases hk : k ≤ 0
    · have q3 := q2 hc
      cases rx
      obtain ⟨t, rfl⟩ := ry
      obtain ⟨its, r, ⟨⟨cls, dd, data, sl⟩, ho, hcl, n, hd⟩, hs⟩ := I.tuple hT
      simp only at hcl hd
      subst hcl hd
      have c0 : (decide (k < -(2 ^ 63)) || decide (k ≥ 2 ^ 63)) = false := by
        rw [decide_eq_false (by omega), decide_eq_false (by omega)] <;> rfl
      have c1 : (its.toArray.isEmpty || k == 1) = false := by
        have : its.toArray.isEmpty = false := by
          cases r with
          | nil => exact absurd (.inl rfl) hc
          | cons _ _ => rfl
        rw [this, Bool.false_or]
        exact beq_eq_false_iff_ne.mpr (by omega)
      have c2 : (decide (k ≤ 0) || its.toArray.isEmpty) = true := by rw [decide_eq_true hk]; rfl
      have e0 : k.toNat = 0 := by omega
      rw [e0] at q3
      exact wpAny_binaryOp_repeat_ref (T := "tuple") (U := "int") (by decide) ⟨_, ho, rfl⟩ (fun s' => typeIs_int s' k t) noFill_tuple_mul F.fills_int_mul F.slot_int_rmul repeat_tuple F.slot_int_index.lookup
        (call_meets F.slot_int_rmul (typeIs_int s k t) F.entry_int_rmul (F.args_int_rmul_2 _ _) (int_rmul_tuple k t l its.toArray n dd sl)
          ⟨ho, rfl, ⟨_, ho, rfl⟩, call_meets F.slot_tuple_mul ⟨_, ho, rfl⟩ F.entry_tuple_mul (F.args_tuple_mul_2 _ _) (tuple_mul0 l its.toArray n dd sl k t c0 c1 c2)
            ⟨ho, .ref s.heap.objs.size, _, I.laid (t' := s.toks) (o := .tup []) (fun b ob q => Heap.get?_push_of_some _ q) (Nat.le_refl _) ⟨Nat.zero_le _, [], .nil, IsTup.new _ _⟩, rfl, q3 _ (I.hok.fresh (Nat.le_refl _))⟩⟩)
    · exact op_repT pins s σ H _ _ v u Q I rx ry ⟨l, k, xs, rfl, rfl, hT, fun e => hc (.inl e), by omega, h2, hz, q2 hc⟩
def opRepT (s : Sq) (d : D) : T D := match s, d with
  | .t xs, .int k => if -1000 ≤ k ∧ k ≤ 1000 ∧ xs.length ≤ 1000 then .ok (.tup (List.replicate k.toNat xs).flatten) else .fail
  | _, _ => .fail
def dRepT (f : DEnv → T Sq) (g : DEnv → T D) : DEnv → T D := fun ρ => (f ρ).bind fun s => (g ρ).bind fun d => opRepT s d
@[simp] theorem s_dRepT (f : DEnv → T Sq) (g : DEnv → T D) (ρ : DEnv) : dRepT f g ρ = (f ρ).bind fun s => (g ρ).bind fun d => opRepT s d := rfl
theorem de_repT {a b : Expr} {f : DEnv → T Sq} {g : DEnv → T D} {pos : Pos} (ha : PE X a (tS X.K X.mg W f)) (hb : PE X b (tD X.K X.mg W g)) : PE X (.BinOp a .Mult b pos) (tD X.K X.mg W (dRepT f g)) :=
  PE.of (pe_op op_repA ha hb) fun σ H Q ⟨w, F, ρ, n, c, q⟩ =>
    tS.go c (T.wp_bind _ _ |>.mp q) (fun _ _ h => h) fun s m q1 F1 H1 a vs s1 c1 hs r => tD.go c1 (T.wp_bind _ _ |>.mp q1) (fun _ _ h => h.back s1) fun d m2 q2 F2 H2 v s2 c2 r2 => by
      have hs' := hs.step s2 c1.toBase
      have r' := r.step s2 c1.toBase
      cases s with
      | l xs => exact q2.elim
      | t xs =>
        cases r2 with
        | int k =>
          unfold opRepT at q2
          dsimp only at q2
          split at q2
          · rename_i hz
            have hl : vs.length = xs.length := r.length
            refine ⟨a, k, vs, rfl, rfl, TupAt.seq hs', hz.1, hz.2.1, by rw [hl]; exact hz.2.2, fun hc => ?_, fun _ p hp => ?_⟩
            · refine q2 F2 H2 _ (s1.trans s2) c2.toBase (.tup hs' ?_)
              rcases hc with e | e
              · subst e
                cases r'
                have : ∀ m : Nat, (List.replicate m ([] : List D)).flatten = [] := fun m => by induction m with
                  | zero => rfl
                  | succ m ih => rw [List.replicate_succ, List.flatten_cons, ih]; rfl
                show Reps _ _ _ _ [] (List.replicate k.toNat ([] : List D)).flatten
                rw [this]
                exact .nil
              · subst e
                have : (List.replicate (1 : Int).toNat xs).flatten = xs := by simp
                rw [this]
                exact r'
            · obtain ⟨s3, b3, r3⟩ := tup_new c2.toBase (Reps.rep r' k.toNat) hp
              exact q2 _ _ _ ((s1.trans s2).trans s3) b3 r3
          · exact q2.elim
        | _ => exact q2.elim
@[simp] theorem opRepT_nat (xs : List D) (n : Nat) (h : n ≤ 1000 := by omega) (hx : xs.length ≤ 1000 := by simp) : opRepT (.t xs) (.int (n : Nat)) = .ok (.tup (List.replicate n xs).flatten) := by
  unfold opRepT
  dsimp only
  rw [if_pos ⟨by omega, by omega, hx⟩, Int.toNat_natCast]
theorem opRepL_nat (xs : List D) (n : Nat) (h : n ≤ 1000000) (hx : xs.length ≤ 1000) (hz : xs.length * n ≤ 1000000) : opRepL (.l xs) (.int (n : Nat)) = .ok (List.replicate n xs).flatten := by
  unfold opRepL
  dsimp only
  rw [if_pos ⟨by omega, hx, by rw [Int.toNat_natCast]; exact hz, by omega⟩, Int.toNat_natCast]
end
end
end AL
namespace AL
open PySem PySem.Spec PyProof.Rows L2
noncomputable section
/-! ## more run rules -/
section
variable {ρ : DEnv} {c c1 c2 : Nat}
theorem run_ret_if {t : DEnv → T Bool} {f : DEnv → T D} {g a : DEnv → T Fl} {P : D → Prop} {R : Fl → Prop} (e : t ρ = .ok true) (h : run (f ρ) c P) (hR : ∀ d, P d → R (.rt d)) : run (gSeq (gIf t (gRet f) a) g ρ) c R := by
  rw [s_gSeq, s_gIf, e, T.ex_ok, if_pos rfl]
  refine run_bind0 (run_ret h) fun fl ⟨d, hd, e⟩ => ?_
  subst e
  exact run_ok (hR d hd)
theorem run_skip_if {t : DEnv → T Bool} {a g : DEnv → T Fl} {R : Fl → Prop} (e : t ρ = .ok false) (h : run (g ρ) c R) : run (gSeq (gIf t a gNil) g ρ) c R := run_seq0 (nx_if (ρ' := []) e) h
theorem run_dIx {f : DEnv → T Sq} {g : DEnv → T D} {s : Sq} {P R : D → Prop} (hf : f ρ = .ok s) (hg : run (g ρ) c P) (h : ∀ d, P d → ∃ x, opIx s d = .ok x ∧ R x) : run (dIx f g ρ) c R := by
  rw [s_dIx, hf, T.bind_ok]
  refine run_bind0 hg fun d hd => ?_
  obtain ⟨x, e, hx⟩ := h d hd
  exact run_eq e hx
theorem run_gAppend {i : Nat} {xs : List D} {f : DEnv → T D} {P : D → Prop} {R : Fl → Prop} (hi : ρ[i]? = some (.own xs)) (hz : xs.length ≤ 10000000) (h : run (f ρ) c P) (hR : ∀ d, P d → R (.nx (ρ.set i (.own (xs ++ [d]))))) : run (gAppend i f ρ) c R :=
  run_imp (run_append hi (szt (by omega)) h) fun fl ⟨d, hd, e⟩ => by subst e; exact hR d hd
theorem run_tupOf {f : DEnv → T Sq} {P : List D → Prop} (h : run (f ρ) c fun s => P s.xs ∧ s.xs.length ≤ 10000000) : run (dTupOf f ρ) c fun d => ∃ ds, d = .tup ds ∧ P ds := by
  rw [s_dTupOf]
  refine run_bind0 h fun s hs => ?_
  rw [if_pos (szl (by omega))]
  exact run_ok ⟨_, rfl, hs.1⟩
end
theorem opNe_nil {xs : List D} (h : D.plains xs = true) : opNe (.tup xs) (.tup []) = .ok (.bl (!xs.isEmpty)) := by
  have e : min (D.tup xs).py.depth (D.tup []).py.depth ≤ 64 := by simp [D.py, D.pys, PyData.depth, PyData.depthAll]
  show (if _ ∧ _ ∧ _ then _ else _) = _
  rw [if_pos ⟨by simpa only [D.plain] using h, rfl, e⟩]
  cases xs with
  | nil => simp [D.py, D.pys, PyData.eqv, PyData.eqvAll]
  | cons x r => simp [D.py, D.pys, PyData.eqv, PyData.eqvAll]
theorem plains_nD (l : List Nat) : D.plains (l.map nD) = true := plains_iff.mpr fun d hd => by
  obtain ⟨x, _, rfl⟩ := List.mem_map.mp hd
  exact plain_nD x
end
end AL
namespace AL
open PySem PySem.Spec PyProof.Rows L2
noncomputable section
variable [Tb]
/-! ## dicts of the frame's own -/
def D.keq (a b : D) : Bool := decide (a.nk = b.nk)
def dget (kvs : List (D × D)) (k : D) : Option D := (kvs.find? fun p => p.1.keq k).map (·.2)
def dput (kvs : List (D × D)) (k v : D) : List (D × D) := if (dget kvs k).isSome then kvs.map (fun p => if p.1.keq k then (p.1, v) else p) else kvs ++ [(k, v)]
def D.isInt : D → Bool
  | .int _ => true
  | _ => false
/-- the key is of the dict's kind -/
def dicOk (kvs : List (D × D)) (k : D) : Bool := match k with
  | .int _ => kvs.all fun p => p.1.isInt
  | .tup _ => (match k.nk with | some q => decide (q.depth ≤ 8) | none => false) && kvs.all fun p => p.1.isTup
  | _ => false
@[simp] theorem keq_int (i j : Int) : (D.int i).keq (.int j) = decide (i = j) := by
  unfold D.keq
  simp only [D.nk, Option.some.injEq, NestedKey.num.injEq]
theorem dget_cons (p : D × D) (r : List (D × D)) (k : D) : dget (p :: r) k = if p.1.keq k then some p.2 else dget r k := by
  unfold dget
  rw [List.find?_cons]
  cases p.1.keq k <;> rfl
theorem dget_nil (k : D) : dget [] k = none := rfl
section
variable {K : PySem.W.Frag} {w : Addr} {F : Addr → Prop} {H : Hp}
/-! ### ints as keys -/
theorem leaf_of {a : Addr} {kvs : List (D × D)} (h : OwnAt K w F H a (.dic kvs)) (hi : kvs.all (fun p => p.1.isInt) = true) : ∃ (is : List Int) (vs : List V), kvs.map (·.1) = is.map D.int ∧ H a = some (.dK ((is.map (Sum.inl : Int → Key)).zip vs)) ∧ Reps K w F H vs (kvs.map (·.2)) := by
  obtain ⟨o, ks, vs, h1, h2, h3, h4⟩ := h
  rcases h2 with ⟨is, e1, e2⟩ | ⟨wd, xs, e1, e0, e2, e3, e4, e5, e6⟩
  · exact ⟨is, vs, e1, by rw [h1, e2], h4⟩
  · cases kvs with
    | nil => exact absurd rfl e0
    | cons p r =>
      rw [List.map_cons] at e4
      cases e4 with
      | cons q _ =>
        rw [List.all_cons, Bool.and_eq_true] at hi
        exact absurd q.1 (by
          have := hi.1
          cases hp : p.1 <;> simp_all [D.isInt, D.isTup])
theorem leaf_val : ∀ (kvs : List (D × D)) (is : List Int) (vs : List V), kvs.map (·.1) = is.map D.int → Reps K w F H vs (kvs.map (·.2)) → ∀ j : Int,
    (valV ((is.map (Sum.inl : Int → Key)).zip vs) (.inl j) = none ∧ dget kvs (.int j) = none) ∨ ∃ v d, valV ((is.map (Sum.inl : Int → Key)).zip vs) (.inl j) = some v ∧ dget kvs (.int j) = some d ∧ Rep K w F H v d
  | [], [], _, _, .nil, j => .inl ⟨rfl, rfl⟩
  | [], _ :: _, _, e, _, _ => by cases e
  | _ :: _, [], _, e, _, _ => by cases e
  | p :: r, i :: is, _, e, .cons (v := v) (vs := vs) q t, j => by
    simp only [List.map_cons, List.cons.injEq] at e
    obtain ⟨e1, e2⟩ := e
    rw [dget_cons, e1, keq_int, List.map_cons, List.zip_cons_cons]
    by_cases h : i = j
    · subst h
      right
      exact ⟨v, p.2, valV_pos rfl, by rw [if_pos (decide_eq_true rfl)], q⟩
    · rw [if_neg (by simpa using h), valV_neg (by simpa using h)]
      exact leaf_val r is vs e2 t j
theorem leaf_map {j : Int} {v : V} {d : D} (rv : Rep K w F H v d) : ∀ (kvs : List (D × D)) (is : List Int) (vs : List V), kvs.map (·.1) = is.map D.int → Reps K w F H vs (kvs.map (·.2)) →
    ∃ vs', ((is.map (Sum.inl : Int → Key)).zip vs).map (fun kv => if kv.1 = .inl j then (kv.1, v) else kv) = (is.map (Sum.inl : Int → Key)).zip vs' ∧ Reps K w F H vs' ((kvs.map (fun p => if p.1.keq (.int j) then (p.1, d) else p)).map (·.2)) ∧ (kvs.map (fun p => if p.1.keq (.int j) then (p.1, d) else p)).map (·.1) = is.map D.int
  | [], [], _, _, .nil => ⟨[], rfl, .nil, rfl⟩
  | [], _ :: _, _, e, _ => by cases e
  | _ :: _, [], _, e, _ => by cases e
  | p :: r, i :: is, _, e, .cons (v := u) (vs := vs) q t => by
    simp only [List.map_cons, List.cons.injEq] at e
    obtain ⟨e1, e2⟩ := e
    obtain ⟨vs', h1, h2, h3⟩ := leaf_map (j := j) rv r is vs e2 t
    simp only [List.map_cons, List.zip_cons_cons]
    rw [e1, keq_int]
    by_cases h : i = j
    · subst h
      refine ⟨v :: vs', ?_, ?_, ?_⟩
      · rw [if_pos rfl, h1]; rfl
      · rw [if_pos (decide_eq_true rfl)]; exact .cons rv h2
      · rw [if_pos (decide_eq_true rfl), h3]
    · refine ⟨u :: vs', ?_, ?_, ?_⟩
      · rw [if_neg (by simpa using h), h1]; rfl
      · rw [if_neg (by simpa using h)]; exact .cons q h2
      · rw [if_neg (by simpa using h), h3, e1]
theorem leaf_put {j : Int} {v : V} {d : D} (rv : Rep K w F H v d) {kvs : List (D × D)} {is : List Int} {vs : List V} (e : kvs.map (·.1) = is.map D.int) (r : Reps K w F H vs (kvs.map (·.2))) :
    ∃ (is' : List Int) (vs' : List V), (dput kvs (.int j) d).map (·.1) = is'.map D.int ∧ putK ((is.map (Sum.inl : Int → Key)).zip vs) (.inl j) v = (is'.map (Sum.inl : Int → Key)).zip vs' ∧ Reps K w F H vs' ((dput kvs (.int j) d).map (·.2)) := by
  unfold putK dput
  rw [valV_any]
  rcases leaf_val kvs is vs e r j with ⟨h1, h2⟩ | ⟨u, dd, h1, h2, _⟩
  · rw [h1, h2]
    simp only [Option.isSome_none, Bool.false_eq_true, if_false]
    refine ⟨is ++ [j], vs ++ [v], ?_, ?_, ?_⟩
    · rw [List.map_append, e, List.map_append]; rfl
    · have hl : (is.map (Sum.inl : Int → Key)).length = vs.length := by
        have l1 := congrArg List.length e
        have l2 := r.length
        simp only [List.length_map] at l1 l2 ⊢
        omega
      rw [List.map_append, List.zip_append hl]
      rfl
    · rw [List.map_append]
      exact r.append (.cons rv .nil)
  · rw [h1, h2]
    simp only [Option.isSome_some, if_true]
    obtain ⟨vs', p1, p2, p3⟩ := leaf_map (j := j) rv kvs is vs e r
    exact ⟨is, vs', p3, p1, p2⟩
end
/-! ### tuples as keys -/
mutual
theorem nk_hash (w1 w2 : World) : ∀ (d : D) {k : NestedKey}, d.nk = some k → k.hash w1 = k.hash w2
  | .int i, _, h => by cases h; rfl
  | .tup xs, _, h => by
    simp only [D.nk] at h
    cases e : D.nks xs with
    | none => rw [e] at h; cases h
    | some ks =>
      rw [e] at h
      cases h
      simp only [NestedKey.hash, nks_hash w1 w2 xs e]
  | .non, _, h => by cases h
  | .bl _, _, h => by cases h
  | .str _, _, h => by cases h
  | .lst _, _, h => by cases h
  | .well, _, h => by cases h
  | .raw _, _, h => by cases h
  | .exc _ _ _ _ _, _, h => by cases h
  | .err _ _ _, _, h => by cases h
  | .dic _ _, _, h => by cases h
  | .fn _ _, _, h => by cases h
  | .pf _ _, _, h => by cases h
theorem nks_hash (w1 w2 : World) : ∀ (ds : List D) {ks : List NestedKey}, D.nks ds = some ks → NestedKey.hashes w1 ks = NestedKey.hashes w2 ks
  | [], _, h => by cases h; rfl
  | d :: r, _, h => by
    simp only [D.nks] at h
    cases e1 : D.nk d with
    | none => rw [e1] at h; cases h
    | some k =>
      cases e2 : D.nks r with
      | none => rw [e1, e2] at h; cases h
      | some ks =>
        rw [e1, e2] at h
        cases h
        simp only [NestedKey.hashes, nk_hash w1 w2 d e1, nks_hash w1 w2 r e2]
end
section
variable {X : Cx} {pins : List (Addr × Obj)} {σ : St} {H : Hp} {s : Shared} {w : Addr} {F : Addr → Prop}
mutual
theorem nk_is (I : Inv X pins σ H s) : ∀ {v : V} {d : D} {k : NestedKey} {u : Value}, Rep X.K w F H v d → d.nk = some k → RelV v u → NestedIs s.heap k u
  | _, _, _, _, .int i, h, r => by
    cases h
    obtain ⟨t, rfl⟩ := r
    exact .int _ t
  | _, _, _, _, .tup (ds := ds) ht q, h, r => by
    simp only [D.nk] at h
    cases e : D.nks ds with
    | none => rw [e] at h; cases h
    | some ks =>
      rw [e] at h
      cases h
      cases r
      obtain ⟨its, rv, ⟨o, ho, hc, n, hd⟩, _⟩ := I.tuple ht.seq
      exact .tup ho hc hd (by simpa using nks_is I q e rv)
  | _, _, _, _, .non, h, _ => by cases h
  | _, _, _, _, .bl _, h, _ => by cases h
  | _, _, _, _, .str _, h, _ => by cases h
  | _, _, _, _, .lst _ _ _, h, _ => by cases h
  | _, _, _, _, .well, h, _ => by cases h
  | _, _, _, _, .raw _, h, _ => by cases h
  | _, _, _, _, .exc0, h, _ => by cases h
  | _, _, _, _, .exc1 _ _ _, h, _ => by cases h
  | _, _, _, _, .err0 _ _, h, _ => by cases h
  | _, _, _, _, .err1 _ _ _ _ _, h, _ => by cases h
  | _, _, _, _, .dic _ _ _ _ _ _, h, _ => by cases h
  | _, _, _, _, .fn _ _, h, _ => by cases h
  | _, _, _, _, .pf _, h, _ => by cases h
theorem nks_is (I : Inv X pins σ H s) : ∀ {vs : List V} {ds : List D} {ks : List NestedKey} {us : List Value}, Reps X.K w F H vs ds → D.nks ds = some ks → Vals vs us → NestedAll s.heap ks us
  | _, _, _, _, .nil, h, .nil => by cases h; exact .nil
  | _, _, _, _, .cons (d := d) (ds := ds) q t, h, .cons r rt => by
    simp only [D.nks] at h
    cases e1 : D.nk d with
    | none => rw [e1] at h; cases h
    | some k =>
      cases e2 : D.nks ds with
      | none => rw [e1, e2] at h; cases h
      | some ks =>
        rw [e1, e2] at h
        cases h
        exact .cons (nk_is I q e1 r) (nks_is I t e2 rt)
end
def KR (p : D) (x : NestedKey × Addr × Value) : Prop := p.isTup = true ∧ p.nk = some x.1 ∧ x.1.depth ≤ 8
theorem nest_is (I : Inv X pins σ H s) : ∀ {ps : List D} {xs : List (NestedKey × Addr × Value)}, Paired KR ps xs → Reps X.K w F H (xs.map fun x => V.ref x.2.1) ps → ∀ x ∈ xs, (nestedKind X.prog X.w).is s.heap x.1 x.2.1
  | _, _, .nil, _, x, hx => nomatch hx
  | _, _, .cons r t, .cons q qt, x, hx => by
    rcases List.mem_cons.mp hx with e | e
    · subst e
      exact ⟨nk_is I q r.2.1 rfl, r.2.2⟩
    · exact nest_is I t qt x e
theorem nest_hash {w1 w2 : World} : ∀ {ps : List D} {xs : List (NestedKey × Addr × Value)}, Paired KR ps xs → (xs.map fun x => (⟨x.1.hash w1, .ref x.2.1, x.2.2⟩ : DictEntry)) = xs.map fun x => (⟨x.1.hash w2, .ref x.2.1, x.2.2⟩ : DictEntry)
  | _, _, .nil => rfl
  | _, _, .cons (a := p) (b := x) r t => by rw [List.map_cons, List.map_cons, nk_hash w1 w2 p r.2.1, nest_hash t]
theorem nest_of {a : Addr} {kvs : List (D × D)} (I : Inv X pins σ H s) (h : OwnAt X.K w F H a (.dic kvs)) (ht : kvs.all (fun p => p.1.isTup) = true) : (a == sysModules) = false ∧ ∃ (xs : List (NestedKey × Addr × Value)) (vs : List V),
    s.heap.DictOfH (nestedKind X.prog X.w) a xs ∧ xs.length ≤ sizeLine ∧ Paired KR (kvs.map (·.1)) xs ∧ Reps X.K w F H (xs.map fun x => V.ref x.2.1) (kvs.map (·.1)) ∧ Vals vs (xs.map (·.2.2)) ∧ Reps X.K w F H vs (kvs.map (·.2)) := by
  obtain ⟨o, ks, vs, h1, h2, h3, h4⟩ := h
  rcases h2 with ⟨is, e1, e2⟩ | ⟨wd, xs, e1, e0, e2, e3, e4, e5, e6⟩
  · cases kvs with
    | cons p r =>
      exfalso
      rw [List.all_cons, Bool.and_eq_true] at ht
      cases is with
      | nil => cases e1
      | cons i is =>
        simp only [List.map_cons, List.cons.injEq] at e1
        have := ht.1
        rw [e1.1] at this
        cases this
    | nil =>
      cases is with
      | cons i is => cases e1
      | nil =>
        subst e2
        obtain ⟨z, hd, vs', rel, dd⟩ := dk_of I.hok h1
        have e : vs' = [] := by cases rel; rfl
        subst e
        obtain ⟨es, ep, ⟨ob, g1, g2, g3⟩, g4, _⟩ := dd.raw
        have ee : es.toList = [] := by
          apply List.eq_nil_of_length_eq_zero
          rw [Array.length_toList, g4]
          rfl
        exact ⟨hd, [], [], ⟨ob, es, ep, g1, g2, g3, by rw [ee]; rfl, (fun x hx => nomatch hx), List.nodup_nil⟩, Nat.zero_le _, .nil, .nil, .nil, .nil⟩
  · subst e1 e5
    obtain ⟨⟨hd, ob, es, ep, g1, g2, g3, g4⟩, _⟩ := I.hok a _ h1
    exact ⟨hd, xs, vs, ⟨ob, es, ep, g1, g2, g3, by rw [g4]; exact nest_hash e4, nest_is I e4 h3, e3⟩, e2, e4, h3, e6, h4⟩
end
end
end AL
namespace AL
open PySem PySem.Spec PyProof.Rows L2
noncomputable section
variable [Tb]
section
variable {K : PySem.W.Frag} {w : Addr} {F : Addr → Prop} {H : Hp}
theorem nest_val {d : D} {k : NestedKey} (hk : d.nk = some k) : ∀ {kvs : List (D × D)} {xs : List (NestedKey × Addr × Value)} {vs : List V}, Paired KR (kvs.map (·.1)) xs → Vals vs (xs.map (·.2.2)) → Reps K w F H vs (kvs.map (·.2)) →
    (atKey xs k = none ∧ dget kvs d = none) ∨ ∃ p v dd, atKey xs k = some p ∧ RelV v p.2 ∧ dget kvs d = some dd ∧ Rep K w F H v dd
  | [], _, _, .nil, _, _ => .inl ⟨rfl, rfl⟩
  | p :: r, _, _, .cons (b := x) (l₂ := xs) q t, .cons (a := v) rv rt, .cons rd rdt => by
    rw [dget_cons]
    by_cases h : x.1 = k
    · right
      refine ⟨x.2, v, p.2, ?_, rv, ?_, rd⟩
      · unfold atKey
        rw [List.find?_cons_of_pos (by simpa using h)]
        rfl
      · rw [if_pos]
        unfold D.keq
        rw [q.2.1, hk, h]
        exact decide_eq_true rfl
    · have e1 : atKey (x :: xs) k = atKey xs k := by
        unfold atKey
        rw [List.find?_cons_of_neg (by simpa using h)]
      have e2 : p.1.keq d = false := by
        unfold D.keq
        rw [q.2.1, hk]
        exact decide_eq_false fun z => h (Option.some.inj z)
      rw [e1, e2]
      exact nest_val hk t rt rdt
theorem nest_map {d dv : D} {k : NestedKey} {v : V} {u : Value} (hk : d.nk = some k) (rv : RelV v u) (rd : Rep K w F H v dv) : ∀ {kvs : List (D × D)} {xs : List (NestedKey × Addr × Value)} {vs : List V}, Paired KR (kvs.map (·.1)) xs → Reps K w F H (xs.map fun x => V.ref x.2.1) (kvs.map (·.1)) → Vals vs (xs.map (·.2.2)) → Reps K w F H vs (kvs.map (·.2)) →
    ∃ vs' : List V, Paired KR ((kvs.map (fun p => if p.1.keq d then (p.1, dv) else p)).map (·.1)) (xs.map (putAt k u)) ∧ Reps K w F H ((xs.map (putAt k u)).map fun x => V.ref x.2.1) ((kvs.map (fun p => if p.1.keq d then (p.1, dv) else p)).map (·.1)) ∧
      Vals vs' ((xs.map (putAt k u)).map (·.2.2)) ∧ Reps K w F H vs' ((kvs.map (fun p => if p.1.keq d then (p.1, dv) else p)).map (·.2))
  | [], _, _, .nil, _, .nil, .nil => ⟨[], .nil, .nil, .nil, .nil⟩
  | p :: r, _, _, .cons (b := x) (l₂ := xs) q t, .cons rk rkt, .cons (a := v1) r1 rt, .cons rd1 rdt => by
    obtain ⟨vs', h1, h2, h3, h4⟩ := nest_map hk rv rd t rkt rt rdt
    simp only [List.map_cons]
    by_cases h : x.1 = k
    · have e2 : p.1.keq d = true := by
        unfold D.keq
        rw [q.2.1, hk, h]
        exact decide_eq_true rfl
      have e1 : putAt k u x = (x.1, x.2.1, u) := if_pos h
      rw [e1, e2]
      exact ⟨v :: vs', .cons q h1, .cons rk h2, .cons rv h3, .cons rd h4⟩
    · have e2 : p.1.keq d = false := by
        unfold D.keq
        rw [q.2.1, hk]
        exact decide_eq_false fun z => h (Option.some.inj z)
      have e1 : putAt k u x = x := if_neg h
      rw [e1, e2]
      exact ⟨v1 :: vs', .cons q h1, .cons rk h2, .cons r1 h3, .cons rd1 h4⟩
theorem pair_snoc {α β : Type} {R : α → β → Prop} {a : α} {b : β} (h : R a b) : ∀ {l1 : List α} {l2 : List β}, Paired R l1 l2 → Paired R (l1 ++ [a]) (l2 ++ [b])
  | _, _, .nil => .cons h .nil
  | _, _, .cons r t => .cons r (pair_snoc h t)
theorem nest_put {d dv : D} {k : NestedKey} {b : Addr} {v : V} {u : Value} (hk : d.nk = some k) (ht : d.isTup = true) (hz : k.depth ≤ 8) (rb : Rep K w F H (.ref b) d) (rv : RelV v u) (rd : Rep K w F H v dv) {kvs : List (D × D)} {xs : List (NestedKey × Addr × Value)} {vs : List V}
    (h1 : Paired KR (kvs.map (·.1)) xs) (h2 : Reps K w F H (xs.map fun x => V.ref x.2.1) (kvs.map (·.1))) (h3 : Vals vs (xs.map (·.2.2))) (h4 : Reps K w F H vs (kvs.map (·.2))) :
    ∃ vs' : List V, Paired KR ((dput kvs d dv).map (·.1)) (storedH xs k b u) ∧ Reps K w F H ((storedH xs k b u).map fun x => V.ref x.2.1) ((dput kvs d dv).map (·.1)) ∧ Vals vs' ((storedH xs k b u).map (·.2.2)) ∧ Reps K w F H vs' ((dput kvs d dv).map (·.2)) := by
  unfold dput storedH
  rcases nest_val hk h1 h3 h4 with ⟨e1, e2⟩ | ⟨p, v0, dd, e1, _, e2, _⟩
  · rw [e1, e2]
    simp only [Option.isSome_none, Bool.false_eq_true, if_false, List.map_append]
    exact ⟨vs ++ [v], pair_snoc ⟨ht, hk, hz⟩ h1, h2.append (.cons rb .nil), pair_snoc rv h3, h4.append (.cons rd .nil)⟩
  · rw [e1, e2]
    simp only [Option.isSome_some, if_true]
    exact nest_map hk rv rd h1 h2 h3 h4
end
theorem dput_ne {kvs : List (D × D)} {k v : D} : dput kvs k v ≠ [] := by
  unfold dput
  split
  · rename_i h
    cases kvs with
    | nil => cases h
    | cons p r => simp
  · simp
theorem storedH_len (xs : List (NestedKey × Addr × Value)) (k : NestedKey) (b : Addr) (u : Value) : (storedH xs k b u).length ≤ xs.length + 1 := by
  unfold storedH
  split
  · rw [List.length_map]; omega
  · rw [List.length_append, List.length_singleton]
    exact Nat.le_refl _
theorem dicOk_tup {kvs : List (D × D)} {d : D} (h : dicOk kvs d = true) (ht : d.isTup = true) : ∃ k, d.nk = some k ∧ k.depth ≤ 8 ∧ kvs.all (fun p => p.1.isTup) = true := by
  cases d with
  | tup xs =>
    unfold dicOk at h
    dsimp only at h
    rw [Bool.and_eq_true] at h
    cases e : (D.tup xs).nk with
    | none => rw [e] at h; exact absurd h.1 (by simp)
    | some q => rw [e] at h; exact ⟨q, rfl, of_decide_eq_true h.1, h.2⟩
  | _ => cases ht
/-! ### the operations, raw -/
theorem beqT (b : Bool) : (b == true) = b := by cases b <;> rfl
theorem beqF (b : Bool) : (b == false) = !b := by cases b <;> rfl
section
variable {X : Cx} {pins : List (Addr × Obj)} {σ : St} {H : Hp} {s : Shared} {w : Addr} {F : Addr → Prop} {a : Addr} {kvs : List (D × D)} {y : V} {u : Value} {d : D}
theorem o_get {dd : D} {Q : Value → Shared → Prop} (hu : X.A.units + 9 < cLine) (I : Inv X pins σ H s) (h : OwnAt X.K w F H a (.dic kvs)) (ry : Rep X.K w F H y d) (ru : RelV y u) (ok : dicOk kvs d = true) (hg : dget kvs d = some dd)
    (q : ∀ (v : V) w' s', Inv X pins σ H s' → RelV v w' → Rep X.K w F H v dd → Q w' s') : wpAny (model X.prog X.w) X.A (getItem (.ref a) u) Q X.xe s := by
  cases d with
  | int j =>
    obtain ⟨is, vs, e1, e2, e3⟩ := leaf_of h ok
    cases ry
    rcases leaf_val kvs is vs e1 e3 j with ⟨_, z⟩ | ⟨v, d', z1, z2, z3⟩
    · rw [hg] at z; cases z
    · rw [hg] at z2
      cases z2
      exact d_getItem (by omega) I (v := v) (by rw [← z1]; exact DGet.k (k := .inl j) e2) ru fun w' s' I' rw' => q v w' s' I' rw' z3
  | tup xs =>
    obtain ⟨k, hk, hz, ht⟩ := dicOk_tup ok rfl
    obtain ⟨hd, es, vs, dd', hl, p1, p2, p3, p4⟩ := nest_of I h ht
    cases ry with
    | tup ht' hr =>
      rename_i b us
      cases ru
      have hkey : (nestedKind X.prog X.w).is s.heap k b := ⟨nk_is I (.tup ht' hr) hk rfl, hz⟩
      rcases nest_val hk p1 p3 p4 with ⟨_, z⟩ | ⟨p, v, d', z0, z1, z2, z3⟩
      · rw [hg] at z; cases z
      · rw [hg] at z2
        cases z2
        exact wpAny_getItem_heap (show X.A.units + 1 + 8 < cLine by omega) hkey dd' z0 (q v _ _ (I.tok _) z1 z3)
  | _ => cases ok
theorem o_in {g : Bool} {op : CmpOp} (hop : (op = .In ∧ g = true) ∨ (op = .NotIn ∧ g = false)) {Q : Value → Shared → Prop} (hu : X.A.units + 9 < cLine) (I : Inv X pins σ H s) (h : OwnAt X.K w F H a (.dic kvs)) (ry : Rep X.K w F H y d) (ru : RelV y u) (ok : dicOk kvs d = true)
    (q : ∀ s', Inv X pins σ H s' → Q (.bool ((dget kvs d).isSome == g)) s') : wpAny (model X.prog X.w) X.A (compareOp op u (.ref a)) Q X.xe s := by
  cases d with
  | int j =>
    obtain ⟨is, vs, e1, e2, e3⟩ := leaf_of h ok
    cases ry
    have e : (valV ((is.map (Sum.inl : Int → Key)).zip vs) (.inl j)).isSome = (dget kvs (.int j)).isSome := by
      rcases leaf_val kvs is vs e1 e3 j with ⟨z1, z2⟩ | ⟨v, d', z1, z2, z3⟩ <;> rw [z1, z2] <;> rfl
    rcases hop with ⟨rfl, rfl⟩ | ⟨rfl, rfl⟩
    · refine d_in (by omega) I (DGet.k (k := .inl j) e2) ru fun s' I' => ?_
      rw [e]
      have := q s' I'
      rwa [beqT] at this
    · refine d_notIn (by omega) I (DGet.k (k := .inl j) e2) ru fun s' I' => ?_
      rw [e]
      have := q s' I'
      rwa [beqF] at this
  | tup xs =>
    obtain ⟨k, hk, hz, ht⟩ := dicOk_tup ok rfl
    obtain ⟨hd, es, vs, dd', hl, p1, p2, p3, p4⟩ := nest_of I h ht
    cases ry with
    | tup ht' hr =>
      rename_i b us
      cases ru
      have hkey : (nestedKind X.prog X.w).is s.heap k b := ⟨nk_is I (.tup ht' hr) hk rfl, hz⟩
      have e : (atKey es k).isSome = (dget kvs (.tup xs)).isSome := by
        rcases nest_val hk p1 p3 p4 with ⟨z1, z2⟩ | ⟨p, v, d', z0, z1, z2, z3⟩
        · rw [z1, z2]; rfl
        · rw [z0, z2]; rfl
      rcases hop with ⟨rfl, rfl⟩ | ⟨rfl, rfl⟩
      · have qq : ∀ s', Inv X pins σ H s' → Q (.bool (dget kvs (.tup xs)).isSome) s' := fun s' I' => by
          have := q s' I'
          rwa [beqT] at this
        refine wpAny_in_heap (show X.A.units + 1 + 8 < cLine by omega) hkey hd dd' ?_
        rw [e]
        exact qq _ (I.tok _)
      · have qq : ∀ s', Inv X pins σ H s' → Q (.bool (!(dget kvs (.tup xs)).isSome)) s' := fun s' I' => by
          have := q s' I'
          rwa [beqF] at this
        refine wpAny_notIn_heap (show X.A.units + 1 + 8 < cLine by omega) hkey hd dd' ?_
        rw [e]
        exact qq _ (I.tok _)
  | _ => cases ok
/-- behind a store: the heap, the own dict -/
theorem o_new {xs : List (NestedKey × Addr × Value)} {h' : Heap} (hd : (a == sysModules) = false) (dd : h'.DictOfH (nestedKind X.prog X.w) a xs) {t' : Nat} (I : Inv X pins σ H s) (mu : Mut (H a)) (hs : Heap.SameBut a s.heap h') :
    Inv X pins σ (upd H a (NDo X.w a xs)) { s with heap := h', toks := t' } := by
  obtain ⟨q, es, ep, hq, h2, h3, h4, _, _⟩ := dd
  refine d_write I mu hs ⟨q, hq⟩ ⟨⟨hd, q, es, ep, hq, h2, h3, h4⟩, ⟨q, hq⟩, fun h1 h2' ⟨z, o, es', ep', z1, z2⟩ k => ⟨z, o, es', ep', k o z1, z2⟩⟩
theorem o_set {v : V} {dv : D} {r : Value} {Q : Unit → Shared → Prop} (hu : X.A.units + 9 < cLine) (I : Inv X pins σ H s) (nf : ¬ F a) (h : OwnAt X.K w F H a (.dic kvs)) (ry : Rep X.K w F H y d) (ru : RelV y u) (rv : Rep X.K w F H v dv) (rr : RelV v r) (ok : dicOk kvs d = true) (hz : kvs.length < sizeLine)
    (q : ∀ ob s', OwnAt X.K w F (upd H a ob) a (.dic (dput kvs d dv)) → Inv X pins σ (upd H a ob) s' → Q () s') : wpAny (model X.prog X.w) X.A (setItem (.ref a) u r) Q X.xe s := by
  have kp : ∀ ob c o, F c → H c = some o → (upd H a ob) c = some o := fun ob c o f hh => by
    have nc : c ≠ a := fun z => nf (by rw [← z]; exact f)
    rw [upd_ne nc]
    exact hh
  cases d with
  | int j =>
    obtain ⟨is, vs, e1, e2, e3⟩ := leaf_of h ok
    cases ry
    obtain ⟨is', vs', z1, z2, z3⟩ := leaf_put (j := j) rv e1 e3
    have hl : ((is.map (Sum.inl : Int → Key)).zip vs).length < sizeLine := by
      have l1 := congrArg List.length e1
      rw [List.length_zip, List.length_map]
      simp only [List.length_map] at l1
      omega
    refine d_setItem (by omega) I (DPut.k (k := .inl j) e2 hl) ru rr fun s' I' => q _ s' ?_ I'
    rw [z2]
    have rk : Reps X.K w F (upd H a (HO.dK ((is'.map (Sum.inl : Int → Key)).zip vs'))) (is'.map V.int) ((dput kvs (.int j) dv).map (·.1)) := by
      rw [z1]
      clear z1 z2 z3
      induction is' with
      | nil => exact .nil
      | cons i is' ih => exact .cons (.int i) (by
          have : ∀ (l : List Int) (H2 : Hp), Reps X.K w F H2 (l.map V.int) (l.map D.int) := fun l H2 => by
            induction l with
            | nil => exact .nil
            | cons i l ih => exact .cons (.int i) ih
          exact this _ _)
    exact ⟨_, is'.map V.int, vs', upd_same, .inl ⟨is', z1, rfl⟩, rk, z3.fz (fun _ z => z) (kp _)⟩
  | tup xs =>
    obtain ⟨k, hk, hz', ht⟩ := dicOk_tup ok rfl
    obtain ⟨hd, es, vs, dd', hl, p1, p2, p3, p4⟩ := nest_of I h ht
    cases ry with
    | tup ht' hr =>
      rename_i b us
      cases ru
      have hkey : (nestedKind X.prog X.w).is s.heap k b := ⟨nk_is I (.tup ht' hr) hk rfl, hz'⟩
      obtain ⟨vs', g1, g2, g3, g4⟩ := nest_put hk rfl hz' (.tup ht' hr) rr rv p1 p2 p3 p4
      have hes : es.length < sizeLine := by
        have := Paired.length p1
        rw [List.length_map] at this
        omega
      have mu : Mut (H a) := by
        obtain ⟨o, ks, vs2, h1, h2, _⟩ := h
        rcases h2 with ⟨is, _, e⟩ | ⟨wd, xs2, e, _⟩ <;> rw [h1, e] <;> exact True.intro
      refine wpAny_setItem_heap (hsz := by omega) (show X.A.units + 1 + 8 < cLine by omega) hkey dd' fun h' dd2 hs => q (NDo X.w a (storedH es k b r)) _ ?_ (o_new hd dd2 I mu hs)
      refine ⟨_, _, vs', upd_same, .inr ⟨X.w, storedH es k b r, rfl, dput_ne, by have := storedH_len es k b r; omega, dd2.nodup, g1, rfl, g3⟩, g2.fz (fun _ z => z) (kp _), g4.fz (fun _ z => z) (kp _)⟩
  | _ => cases ok
end
end
end AL
namespace AL
open PySem PySem.Spec PyProof.Rows L2
noncomputable section
variable [Tb]
/-! ## dicts of the frame's own: rules -/
section
variable {X : Cx} {W : WX}
theorem dic_raw {pins : List (Addr × Obj)} {σ : St} {H : Hp} {s : Shared} {w : Addr} {F : Addr → Prop} {a : Addr} {kvs : List (D × D)} (I : Inv X pins σ H s) (h : OwnAt X.K w F H a (.dic kvs)) :
    (a == sysModules) = false ∧ kvs.length ≤ sizeLine ∧ ∃ es ep, s.heap.DictRaw a es ep ∧ es.size = kvs.length := by
  obtain ⟨o, ks, vs, h1, h2, h3, h4⟩ := h
  rcases h2 with ⟨is, e1, e2⟩ | ⟨wd, xs, e1, e0, e2, e3, e4, e5, e6⟩
  · subst e2
    obtain ⟨z, hd, vs', rel, dd⟩ := dk_of I.hok h1
    obtain ⟨es, ep, g, g4, _⟩ := dd.raw
    have l0 := rel.length
    have l1 := congrArg List.length e1
    have l2 := h4.length
    simp only [List.length_map, List.length_zip] at l0 l1 l2 z
    exact ⟨hd, by omega, es, ep, g, by omega⟩
  · subst e1
    obtain ⟨⟨hd, ob, es, ep, g1, g2, g3, g4⟩, _⟩ := I.hok a _ h1
    have l0 := Paired.length e4
    have l1 : es.size = xs.length := by
      have := congrArg List.length g4
      rw [Array.length_toList, List.length_map] at this
      exact this
    simp only [List.length_map] at l0
    exact ⟨hd, by omega, es, ep, ⟨ob, g1, g2, g3⟩, by omega⟩
/-- {} -/
def dNewD : DEnv → T Slot := fun _ => .ok (.dic [])
theorem dm_newD {pos : Pos} : PE X (.Dict [] [] pos) (tM X.K X.mg W dNewD) := PE.of pe_dnewK fun σ H Q ⟨w, F, ρ, n, c, q⟩ p hp => by
  have s1 := StepE.layOwn (w := w) (F := F) (o := .dK []) hp
  exact q F _ (.ref p) s1 (c.toBase.layOwn hp) ⟨p, rfl, hp, c.toBase.pnf hp, .dK [], [], [], upd_same, .inl ⟨[], rfl, rfl⟩, .nil, .nil⟩
/-- a name gets what may be its own -/
def gSetM (i : Nat) (f : DEnv → T Slot) : DEnv → T Fl := fun ρ => (f ρ).ex ρ fun s => .ok (.nx (ρ.set i s))
theorem ds_setM {i : Nat} {x : Str} {e : Expr} {f : DEnv → T Slot} {pos pos' : Pos} (hN : X.N.Nodup) (hi : X.N[i]? = some x) (hx : Loc X.env.scope x) (h : PE X e (tM X.K X.mg W f)) (hs : swapsWith e (some (.Name x pos')) pos.line X.env = pure false := by rfl)
    (hf : X.fn x = true ∨ X.env.scope.names.lookup x = some .local := by first | exact .inl rfl | exact .inr rfl | assumption) : PS X (.Assign [.Name x pos'] e pos) (sD X.K X.mg W (gSetM i f)) := PS.of (ps_set hN hi hx h hs hf) fun D σ H ⟨w, F, ρ, n, c, q⟩ => by
  refine tM.go c (T.wp_ex q) (fun e m h => PostS.exc c h) fun s m q1 F1 H1 v s1 c1 r => ?_
  have no : ∀ p, H p = none → ¬ Own σ ρ p := fun p hp ho => by
    obtain ⟨_, _, us, hu⟩ := c.env.own_fz ho
    rw [hp] at hu
    cases hu
  obtain ⟨c2, o2⟩ := c1.setM i (fun p hp => c.toBase.pne hp) no r
  exact q1 F1 H1 _ ⟨fun a o n _ h nt => s1.keep a o n h, s1.sub, fun a h => (s1.new a h).elim .inl fun z => .inr (.inl z), fun a h => (o2 a h).imp id fun z => z.1, s1.dom⟩ c2
/-- x[k] -/
def dKget (i : Nat) (f : DEnv → T D) : DEnv → T D := fun ρ => match ρ[i]? with
  | some (.dic kvs) => (f ρ).bind fun d => if dicOk kvs d = true then (match dget kvs d with | some x => .ok x | none => .fail) else .fail
  | _ => .fail
theorem de_kget {o e : Expr} {pos : Pos} (i : Nat) {f : DEnv → T D} (hu : X.A.units + 100 < cLine) (ho : PE X o (tVar i)) (he : PE X e (tD X.K X.mg W f)) (hs : NoSl e) : PE X (.Subscript o e pos) (tD X.K X.mg W (dKget i f)) := by
  refine ⟨fun pins s σ H Q I ⟨w, F, ρ, n, c, q⟩ => ?_⟩
  unfold dKget at q
  split at q
  rotate_left
  · exact q.elim
  rename_i kvs hi
  obtain ⟨a, q1, q2, q3, q4⟩ := c.env.at_ow hi rfl
  refine subD_of PySem.F.slot_dict_getitem.lookup hs (thn (ho.run pins s σ H (fun v H1 => v = .ref a ∧ H1 = H) I ⟨.ref a, q1, rfl, rfl⟩) fun u s1 ⟨x, H1, I1, rx, ex, eh⟩ => ?_)
  subst ex eh
  obtain rfl : u = Value.ref a := rx
  refine thn (he.run pins s1 σ H1 (fun y H2 => ∃ kv F2 m dd dx, StepE w F H1 F2 H2 ∧ Base w F2 H2 m ∧ Rep X.K w F2 H2 y dd ∧ kv = kvs ∧ dicOk kvs dd = true ∧ dget kvs dd = some dx ∧ PostE X.K w F H1 Q dx m) I1 ?_) fun iv s2 ⟨y, H2, I2, ry, kv, F2, m, dd, dx, st, b2, rd, _, ok, hg, p⟩ => ?_
  · refine tD.go c (T.wp_bind _ _ |>.mp q) (fun _ _ h => h) fun d m q5 F1 H1 v s1 c1 r => ?_
    split at q5
    · rename_i ok
      cases hg : dget kvs d with
      | none => rw [hg] at q5; exact q5.elim
      | some dx => rw [hg] at q5; exact ⟨kvs, F1, m, d, dx, s1, c1.toBase, r, rfl, ok, hg, q5⟩
    · exact q5.elim
  · have h2 := q4.step st c.toBase q3
    obtain ⟨_, _, es, ep, hr, _⟩ := dic_raw I2 h2
    exact ⟨hr.typeIs, o_get (by omega) I2 h2 rd ry ok hg fun v w' s3 I3 rw' rv => ⟨v, H2, I3, rw', p F2 H2 v st b2 rv⟩⟩
/-- k in x -/
def dKin (g : Bool) (i : Nat) (f : DEnv → T D) : DEnv → T D := fun ρ => match ρ[i]? with
  | some (.dic kvs) => (f ρ).bind fun d => if dicOk kvs d = true then .ok (.bl ((dget kvs d).isSome == g)) else .fail
  | _ => .fail
theorem pc_kin {op : CmpOp} {g : Bool} {o e : Expr} (i : Nat) {f : DEnv → T D} (hop : (op = .In ∧ g = true) ∨ (op = .NotIn ∧ g = false)) (hu : X.A.units + 100 < cLine) (ho : PE X o (tVar i)) (he : PE X e (tD X.K X.mg W f)) : PC X op e o (tD X.K X.mg W (dKin g i f)) := by
  refine ⟨fun pins s σ H Q I ⟨w, F, ρ, n, c, q⟩ => ?_⟩
  unfold dKin at q
  split at q
  rotate_left
  · exact q.elim
  rename_i kvs hi
  obtain ⟨a, q1, q2, q3, q4⟩ := c.env.at_ow hi rfl
  refine thn (he.run pins s σ H (fun y H2 => ∃ F2 m dd, StepE w F H F2 H2 ∧ Base w F2 H2 m ∧ Rep X.K w F2 H2 y dd ∧ dicOk kvs dd = true ∧ PostE X.K w F H Q (.bl ((dget kvs dd).isSome == g)) m) I ?_) fun iv s2 ⟨y, H2, I2, ry, F2, m, dd, st, b2, rd, ok, p⟩ => ?_
  · refine tD.go c (T.wp_bind _ _ |>.mp q) (fun _ _ h => h) fun d m q5 F1 H1 v s1 c1 r => ?_
    split at q5
    · rename_i ok
      exact ⟨F1, m, d, s1, c1.toBase, r, ok, q5⟩
    · exact q5.elim
  · refine thn (ho.run pins s2 σ H2 (fun v H1 => v = .ref a ∧ H1 = H2) I2 ⟨.ref a, q1, rfl, rfl⟩) fun u s3 ⟨x, H3, I3, rx, ex, eh⟩ => ?_
    subst ex eh
    obtain rfl : u = Value.ref a := rx
    have h2 := q4.step st c.toBase q3
    exact o_in hop (by omega) I3 h2 rd ry ok fun s4 I4 => ⟨.bl _, H3, I4, rfl, p F2 H3 _ st b2 (.bl _)⟩
theorem de_kin {op : CmpOp} {g : Bool} {o e : Expr} {pos : Pos} (i : Nat) {f : DEnv → T D} (hop : (op = .In ∧ g = true) ∨ (op = .NotIn ∧ g = false)) (hu : X.A.units + 100 < cLine) (hm : behindInMarks op o = false) (ho : PE X o (tVar i)) (he : PE X e (tD X.K X.mg W f)) : PE X (.Compare e [op] [o] pos) (tD X.K X.mg W (dKin g i f)) :=
  pe_cmp (pc_kin i hop hu ho he) hm
theorem dt_kin {op : CmpOp} {g : Bool} {o e : Expr} {pos : Pos} (i : Nat) {f : DEnv → T D} (hop : (op = .In ∧ g = true) ∨ (op = .NotIn ∧ g = false)) (hu : X.A.units + 100 < cLine) (hm : behindInMarks op o = false) (ho : PE X o (tVar i)) (he : PE X e (tD X.K X.mg W f)) : PT X (.Compare e [op] [o] pos) (tDT X.K X.mg W (dT (dKin g i f))) :=
  PT.of (pt_cmp (pc_kin i hop hu ho he) hm) fun σ H Q ⟨w, F, ρ, n, c, q⟩ => ⟨w, F, ρ, n, c, T.wp_mono (fun d m h F1 H1 v s1 b1 r => by
    cases d with
    | bl b => cases r; exact ⟨b, rfl, h F1 H1 s1 b1⟩
    | _ => exact h.elim) (fun _ _ h => h) (T.wp_bind _ _ |>.mp q)⟩
/-- len(x) -/
def rLenK (K : PySem.W.Frag) : List V → Hp → VK → Prop := fun xs H Q => ∃ (w : Addr) (F : Addr → Prop) (a : Addr) (kvs : List (D × D)), xs = [.ref a] ∧ OwnAt K w F H a (.dic kvs) ∧ Q (.int ((kvs.length : Nat) : Int)) H
theorem cr_lenK : CallR X (.builtin "len") (rLenK X.K) := by
  intro pins s σ H xs us Q I r h
  obtain ⟨w, F, a, kvs, rfl, hk, q⟩ := h
  obtain ⟨u, rfl, rx⟩ := vals1 r
  obtain rfl : u = .ref a := rx
  obtain ⟨hd, hz, es, ep, hr, he⟩ := dic_raw I hk
  refine PyProof.Rows.call_len_slot (n := ((kvs.length : Nat) : Int)) hr.typeIs PySem.F.slot_dict_len (fun Q' hq => call_len_raw hd hr ?_) (by omega) (by rw [sizeLine_eq] at hz; omega) ⟨.int ((kvs.length : Nat) : Int), H, I.tok _, ⟨_, rfl⟩, q⟩
  rw [he]
  exact hq
def dKlen (i : Nat) : DEnv → T D := fun ρ => match ρ[i]? with
  | some (.dic kvs) => .ok (.int ((kvs.length : Nat) : Int))
  | _ => .fail
theorem de_klen {o : Expr} {p pos : Pos} (i : Nat) (hg : Gl X "len") (hm : X.mg "len" = none) (ho : PE X o (tVar i)) (he : starEach (o :: []) X.env = (false, eval o X.env) :: starEach [] X.env := by rfl) (hpl : (backTo pos (starEach [] X.env)).any (·.1) = false := by rfl) :
    PE X (.Call (.Name "len" p) [o] [] pos) (tD X.K X.mg W (dKlen i)) :=
  PE.of (pe_callB cr_lenK hg hm (by decide +kernel) (pa_cons ho pa_nil he) (he := he) (hpl := hpl)) fun σ H Q ⟨w, F, ρ, n, c, q⟩ => by
    unfold dKlen at q
    split at q
    rotate_left
    · exact q.elim
    rename_i kvs hi
    obtain ⟨a, q1, q2, q3, q4⟩ := c.env.at_ow hi rfl
    exact ⟨.ref a, q1, w, F, a, kvs, rfl, q4, q F H _ .refl c.toBase (.int _)⟩
/-- x[k] = v -/
theorem Cur.putOw {K : PySem.W.Frag} {w : Addr} {F : Addr → Prop} {H : Hp} {σ : St} {ρ : DEnv} {n : Nat} {i : Nat} {a : Addr} {s t : Slot} {ob : HO} (c : Cur K w F H σ ρ n) (hi : ρ[i]? = some s) (ho : s.ow = true) (ht : t.ow = true) (ha : σ[i]? = some (some (.ref a))) (r : OwnAt K w F (upd H a ob) a t) :
    StepS w F H (Own σ ρ) F (upd H a ob) (Own σ (ρ.set i t)) ∧ Cur K w F (upd H a ob) σ (ρ.set i t) n := by
  obtain ⟨b, q1, q2, q3, q4⟩ := c.env.at_ow hi ho
  rw [ha] at q1
  cases q1
  have oa : Own σ ρ a := ⟨i, s, hi, ho, ha⟩
  refine ⟨⟨fun b o nb no h _ => ?_, fun _ h => h, fun _ h => .inl h, fun b h => .inl (h.putOw hi ho), fun b h => ?_⟩, c.toBase.put q2 q3 q4.someNT.choose_spec.1 q4.someNT.choose_spec.2, c.env.putOw hi ho ht ha r⟩
  · have ne : b ≠ a := fun e => no (e ▸ oa)
    rw [upd_ne ne]
    exact h
  · by_cases e : b = a
    · rw [e, upd_same] at h; cases h
    · rw [upd_ne e] at h; exact h
def gKput (i : Nat) (fk fv : DEnv → T D) : DEnv → T Fl := fun ρ => match ρ[i]? with
  | some (.dic kvs) => (fv ρ).ex ρ fun v => (fk ρ).ex ρ fun d => if dicOk kvs d = true ∧ kvs.length < sizeLine then .ok (.nx (ρ.set i (.dic (dput kvs d v)))) else .fail
  | _ => .fail
theorem ds_kput {o e ve : Expr} {pos pos' : Pos} (i : Nat) {fk fv : DEnv → T D} (hu : X.A.units + 100 < cLine) (ho : PE X o (tVar i)) (he : PE X e (tD X.K X.mg W fk)) (hv : PE X ve (tD X.K X.mg W fv)) (hs : swapsWith ve (some (.Subscript o e pos')) pos.line X.env = pure false := by rfl) :
    PS X (.Assign [.Subscript o e pos'] ve pos) (sD X.K X.mg W (gKput i fk fv)) := by
  refine ⟨fun pins s σ H D I ⟨w, F, ρ, n, c, q⟩ => ?_⟩
  unfold gKput at q
  split at q
  rotate_left
  · exact q.elim
  rename_i kvs hi
  obtain ⟨a, q1, q2, q3, q4⟩ := c.env.at_ow hi rfl
  refine wpAny_Assign_Subscript (thn (hv.run pins s σ H (fun v H1 => ∃ F1 m dv, StepE w F H F1 H1 ∧ Cur X.K w F1 H1 σ ρ m ∧ Rep X.K w F1 H1 v dv ∧ ((fk ρ).ex ρ fun d => if dicOk kvs d = true ∧ kvs.length < sizeLine then .ok (.nx (ρ.set i (.dic (dput kvs d dv)))) else .fail).wp (PostS X.K X.mg W w F H (Own σ ρ) D) (fun _ _ => False) m) I ?_)
    fun r s1 ⟨v, H1, I1, rr, F1, m1, dv, st1, c1, rv, q5⟩ => thn (ho.run pins s1 σ H1 (fun v H2 => v = .ref a ∧ H2 = H1) I1 ⟨.ref a, q1, rfl, rfl⟩) fun u s2 ⟨x, H2, I2, rx, ex, eh⟩ => ?_) hs
  · exact tD.go c (T.wp_ex q) (fun e m h => PostS.exc c h) fun dv m q6 F1 H1 v s1 c1 r => ⟨F1, m, dv, s1, c1, r, q6⟩
  subst ex eh
  obtain rfl : u = Value.ref a := rx
  refine thn (he.run pins s2 σ H2 (fun y H3 => ∃ F3 m dd, StepE w F1 H2 F3 H3 ∧ Cur X.K w F3 H3 σ ρ m ∧ Rep X.K w F3 H3 y dd ∧ dicOk kvs dd = true ∧ kvs.length < sizeLine ∧ PostS X.K X.mg W w F H (Own σ ρ) D (.nx (ρ.set i (.dic (dput kvs dd dv)))) m) I2 ?_) fun iv s3 ⟨y, H3, I3, ry, F3, m3, dd, st3, c3, rd, ok, hz, p⟩ => ?_
  · refine tD.go c1 (T.wp_ex q5) (fun e m h => PostX.back st1 (PostS.exc c h)) fun d m q6 F3 H3 y s3 c3 r => ?_
    split at q6
    · rename_i hc
      exact ⟨F3, m, d, s3, c3, r, hc.1, hc.2, q6⟩
    · exact q6.elim
  · obtain ⟨a', p1, p2, p3, p4⟩ := c3.env.at_ow hi rfl
    rw [q1] at p1
    cases p1
    refine o_set (by omega) I3 p2 p4 rd ry (rv.step st3 c1.toBase) rr ok hz fun ob s4 h4 I4 => ?_
    obtain ⟨s5, c5⟩ := c3.putOw hi rfl rfl q1 h4
    exact ⟨σ, upd H3 a ob, I4, p F3 (upd H3 a ob) σ ((st1.trans st3).s.trans s5) c5⟩
end
end
end AL
namespace AL
open PySem PySem.Spec PyProof.Rows L2
noncomputable section
variable [Tb]
section
variable {X : Cx} {pins : List (Addr × Obj)} {σ : St} {H : Hp} {s : Shared} {w : Addr} {F : Addr → Prop} {a : Addr} {kvs : List (D × D)} {y : V} {u : Value} {d : D}
/-- d.setdefault(k, v), raw -/
theorem o_setd {v : V} {dv : D} {r : Value} {Q : Value → Shared → Prop} (hu : X.A.units + 9 < cLine) (I : Inv X pins σ H s) (nf : ¬ F a) (h : OwnAt X.K w F H a (.dic kvs)) (ry : Rep X.K w F H y d) (ru : RelV y u) (rv : Rep X.K w F H v dv) (rr : RelV v r) (ok : dicOk kvs d = true) (hz : kvs.length < sizeLine)
    (q1 : ∀ dd, dget kvs d = some dd → ∀ (v : V) w' s', Inv X pins σ H s' → RelV v w' → Rep X.K w F H v dd → Q w' s')
    (q2 : dget kvs d = none → ∀ ob w' s', OwnAt X.K w F (upd H a ob) a (.dic (dput kvs d dv)) → Inv X pins σ (upd H a ob) s' → RelV v w' → Q w' s') : wpAny (model X.prog X.w) X.A (call (.builtin "dict.setdefault") [.ref a, u, r]) Q X.xe s := by
  have kp : ∀ ob c o, F c → H c = some o → (upd H a ob) c = some o := fun ob c o f hh => by
    have nc : c ≠ a := fun z => nf (by rw [← z]; exact f)
    rw [upd_ne nc]
    exact hh
  cases d with
  | int j =>
    obtain ⟨is, vs, e1, e2, e3⟩ := leaf_of h ok
    cases ry
    have hl : ((is.map (Sum.inl : Int → Key)).zip vs).length < sizeLine := by
      have l1 := congrArg List.length e1
      rw [List.length_zip, List.length_map]
      simp only [List.length_map] at l1
      omega
    refine d_setd I e2 (k := .inl j) ru rr hl (fun v' hv w' s' I' rw' => ?_) fun hn w' s' I' rw' => ?_
    · rcases leaf_val kvs is vs e1 e3 j with ⟨z, _⟩ | ⟨v2, d', z1, z2, z3⟩
      · rw [hv] at z; cases z
      · rw [hv] at z1
        cases z1
        exact q1 d' z2 v' w' s' I' rw' z3
    · obtain ⟨is', vs', z1, z2, z3⟩ := leaf_put (j := j) rv e1 e3
      have hg : dget kvs (.int j) = none := by
        rcases leaf_val kvs is vs e1 e3 j with ⟨_, z⟩ | ⟨v2, d', z1, z2, z3⟩
        · exact z
        · rw [hn] at z1; cases z1
      refine q2 hg _ w' s' ?_ I' rw'
      rw [z2]
      have rk : Reps X.K w F (upd H a (HO.dK ((is'.map (Sum.inl : Int → Key)).zip vs'))) (is'.map V.int) ((dput kvs (.int j) dv).map (·.1)) := by
        rw [z1]
        have : ∀ (l : List Int) (H2 : Hp), Reps X.K w F H2 (l.map V.int) (l.map D.int) := fun l H2 => by
          induction l with
          | nil => exact .nil
          | cons i l ih => exact .cons (.int i) ih
        exact this _ _
      exact ⟨_, is'.map V.int, vs', upd_same, .inl ⟨is', z1, rfl⟩, rk, z3.fz (fun _ z => z) (kp _)⟩
  | tup xs =>
    obtain ⟨k, hk, hz', ht⟩ := dicOk_tup ok rfl
    obtain ⟨hd, es, vs, dd', hl, p1, p2, p3, p4⟩ := nest_of I h ht
    cases ry with
    | tup ht' hr =>
      rename_i b us
      cases ru
      have hkey : (nestedKind X.prog X.w).is s.heap k b := ⟨nk_is I (.tup ht' hr) hk rfl, hz'⟩
      obtain ⟨vs', g1, g2, g3, g4⟩ := nest_put hk rfl hz' (.tup ht' hr) rr rv p1 p2 p3 p4
      have hes : es.length < sizeLine := by
        have := Paired.length p1
        rw [List.length_map] at this
        omega
      have mu : Mut (H a) := by
        obtain ⟨o, ks, vs2, h1, h2, _⟩ := h
        rcases h2 with ⟨is, _, e⟩ | ⟨wd, xs2, e, _⟩ <;> rw [h1, e] <;> exact True.intro
      refine call_setdefault_heap (hsz := by omega) (show X.A.units + 1 + 8 < cLine by omega) hkey hd dd' (fun p hp => ?_) fun hn h' dd2 hs => ?_
      · rcases nest_val hk p1 p3 p4 with ⟨z, _⟩ | ⟨p', v', d', z0, z1, z2, z3⟩
        · rw [hp] at z; cases z
        · rw [hp] at z0
          cases z0
          exact q1 d' z2 v' _ _ (I.tok _) z1 z3
      · have hg : dget kvs (.tup xs) = none := by
          rcases nest_val hk p1 p3 p4 with ⟨_, z⟩ | ⟨p', v', d', z0, z1, z2, z3⟩
          · exact z
          · rw [hn] at z0; cases z0
        refine q2 hg (NDo X.w a (storedH es k b r)) r _ ?_ (o_new hd dd2 I mu hs) rr
        exact ⟨_, _, vs', upd_same, .inr ⟨X.w, storedH es k b r, rfl, dput_ne, by have := storedH_len es k b r; omega, dd2.nodup, g1, rfl, g3⟩, g2.fz (fun _ z => z) (kp _), g4.fz (fun _ z => z) (kp _)⟩
  | _ => cases ok
end
/-! ### while -/
def whileGo (t : DEnv → T Bool) (g : DEnv → T Fl) : Nat → DEnv → T Fl
  | 0, _ => .fail
  | n + 1, ρ => (t ρ).ex ρ fun b => if b then (g ρ).bind fun fl => match fl with
    | .nx ρ2 => whileGo t g n ρ2
    | .ct ρ2 => whileGo t g n ρ2
    | .bk ρ2 => .ok (.nx ρ2)
    | .rt d => .ok (.rt d)
    | .rs e ρ2 => .ok (.rs e ρ2)
  else .ok (.nx ρ)
def gWhile (n : Nat) (t : DEnv → T Bool) (g : DEnv → T Fl) : DEnv → T Fl := whileGo t g n
section
variable {X : Cx} {W : WX}
theorem ds_while {c : Expr} {body : List Stmt} {pos : Pos} {t : DEnv → T Bool} {g : DEnv → T Fl} (n : Nat) (hp : PassesOwn (model X.prog X.w) X.A X.env X.xe) (hc : PT X c (tDT X.K X.mg W t)) (hb : PSs X body (sD X.K X.mg W g)) : PS X (.While c body [] pos) (sD X.K X.mg W (gWhile n t g)) :=
  PS.of (ps_while hp hc hb) fun D σ H ⟨w, F, ρ, m, cu, q⟩ => by
    refine ⟨fun k σ1 H1 => ∃ F1 ρ1 m1, StepS w F H (Own σ ρ) F1 H1 (Own σ1 ρ1) ∧ Cur X.K w F1 H1 σ1 ρ1 m1 ∧ (whileGo t g k ρ1).wp (PostS X.K X.mg W w F H (Own σ ρ) D) (fun _ _ => False) m1, ⟨n, F, ρ, m, .refl, cu, q⟩, ?_⟩
    rintro k σ1 H1 ⟨F1, ρ1, m1, s1, c1, q1⟩
    cases k with
    | zero => exact q1.elim
    | succ k =>
      simp only [whileGo] at q1
      refine tDT.go c1 (T.wp_ex q1) (fun e m h => PostS.exc c1 (PostS.back (fl := .rs e ρ1) s1 h)) fun b m2 q2 F2 H2 s2 c2 => ?_
      cases b with
      | false =>
        rw [if_neg Bool.false_ne_true] at q2 ⊢
        exact q2 F2 H2 σ1 (s1.trans s2.s) c2
      | true =>
        rw [if_pos rfl] at q2 ⊢
        refine ⟨fun σ' H' => ∃ F1 ρ1 m1, StepS w F H (Own σ ρ) F1 H' (Own σ' ρ1) ∧ Cur X.K w F1 H' σ' ρ1 m1 ∧ (whileGo t g k ρ1).wp (PostS X.K X.mg W w F H (Own σ ρ) D) (fun _ _ => False) m1, fun σ' H' hN => ⟨k, Nat.lt_succ_self k, hN⟩, ?_⟩
        refine ⟨w, F2, ρ1, m2, c2, T.wp_mono (fun fl m3 q3 => ?_) (fun _ _ h => h.elim) (T.wp_bind _ _ |>.mp q2)⟩
        have st := s1.trans s2.s
        cases fl with
        | nx ρ2 => exact fun F3 H3 σ3 s3 c3 => ⟨F3, ρ2, m3, st.trans s3, c3, q3⟩
        | ct ρ2 => exact fun F3 H3 σ3 s3 c3 => ⟨F3, ρ2, m3, st.trans s3, c3, q3⟩
        | bk ρ2 => exact fun F5 H5 σ5 s5 c5 => q3 F5 H5 σ5 (st.trans s5) c5
        | rt d => exact fun F5 H5 v5 s5 b5 r5 => q3 F5 H5 v5 (st.trans s5) b5 r5
        | rs e ρ2 => exact fun F5 H5 σ5 cl dd s5 c5 r5 => q3 F5 H5 σ5 cl dd (st.trans s5) c5 r5
end
end
end AL
namespace AL
open PySem PySem.Spec PyProof.Rows L2
noncomputable section
variable [Tb]
section
variable {X : Cx} {W : WX}
/-- {k: v}, k an int -/
def dDispI (fk fv : DEnv → T D) : DEnv → T Slot := fun ρ => (fk ρ).bind fun d => (fv ρ).bind fun v => match d with
  | .int j => .ok (.dic [(.int j, v)])
  | _ => .fail
theorem dm_dispI {k v : Expr} {pos : Pos} {fk fv : DEnv → T D} (hk : PE X k (tD X.K X.mg W fk)) (hv : PE X v (tD X.K X.mg W fv)) : PE X (.Dict [some k] [v] pos) (tM X.K X.mg W (dDispI fk fv)) :=
  PE.of (pe_disp (pps_cons hk hv pps_nil) (by rfl) (by rfl) (fun z => by cases z) (by show 1 ≤ 15; decide)) fun σ H Q ⟨w, F, ρ, n, c, q⟩ p hp => by
    have s0 := StepE.layOwn (w := w) (F := F) (o := .dK []) hp
    have b0 := c.toBase.layOwn (o := .dK []) hp
    have c0 := c.step s0 b0
    refine tD.go c0 (T.wp_bind _ _ |>.mp q) (fun _ _ h => h.back s0) fun d m q1 F1 H1 x s1 c1 r => ?_
    refine tD.go c1 (T.wp_bind _ _ |>.mp q1) (fun _ _ h => h.back (s0.trans s1)) fun dv m2 q2 F2 H2 y s2 c2 ry => ?_
    cases d with
    | int j =>
      cases r
      have hw : p ≠ w := c.toBase.pne hp
      have h2 : H2 p = some (.dK []) := s2.keep p _ hw (s1.keep p _ hw upd_same)
      have nf : ¬ F2 p := fun f => by
        rcases s2.new p f with f | f
        · rcases s1.new p f with f | f
          · exact c.toBase.pnf hp f
          · rw [upd_same] at f; cases f
        · rw [s1.keep p _ hw upd_same] at f; cases f
      refine ⟨h2, [(.inl j, y)], rfl, by show 1 ≤ 15; decide, ?_⟩
      have kp : ∀ b o, F2 b → H2 b = some o → (upd H2 p (HO.dK (mergeK [] [(Sum.inl j, y)]))) b = some o := fun b o f z => by
        have nb : b ≠ p := fun e => nf (by rw [← e]; exact f)
        rw [upd_ne nb]
        exact z
      refine q2 F2 _ (.ref p) ?_ ?_ ⟨p, rfl, hp, nf, _, [V.int j], [y], upd_same, .inl ⟨[j], rfl, rfl⟩, .cons (.int j) .nil, .cons (ry.fz (fun _ z => z) kp) .nil⟩
      · have st := (s0.trans s1).trans s2
        refine ⟨fun a o na z t => ?_, st.sub, st.new, fun a z => ?_⟩
        · rw [upd_ne (ne_of_none z hp)]
          exact st.keep a o na z
        · by_cases e : a = p
          · rw [e]; exact hp
          · rw [upd_ne e] at z
            exact st.dom a z
      · exact c2.toBase.put nf hw h2
    | _ => exact q2.elim
/-! ### expressions that change the dict of a slot -/
def tEK (K : PySem.W.Frag) (mg : Str → Option Value) (W : WX) (i : Nat) (f : DEnv → T (D × List (D × D))) : TE := fun σ H Q => ∃ w F ρ n, Cur K w F H σ ρ n ∧ (∃ kvs, ρ[i]? = some (.dic kvs)) ∧
  (f ρ).wp (fun r m => ∀ F' H' v, StepS w F H (Own σ ρ) F' H' (Own σ ρ) → Cur K w F' H' σ (ρ.set i (.dic r.2)) m → Rep K w F' H' v r.1 → Q v H') (PostX K mg w F H fun c dd H' => W c dd σ H') n
def dKsetd (i : Nat) (fk fv : DEnv → T D) : DEnv → T (D × List (D × D)) := fun ρ => match ρ[i]? with
  | some (.dic kvs) => (fk ρ).bind fun d => (fv ρ).bind fun v => if dicOk kvs d = true ∧ kvs.length < sizeLine then (match dget kvs d with | some x => .ok (x, kvs) | none => .ok (v, dput kvs d v)) else .fail
  | _ => .fail
theorem set_same {ρ : DEnv} {i : Nat} {s : Slot} (h : ρ[i]? = some s) : ρ.set i s = ρ := by
  apply List.ext_getElem?
  intro j
  rw [set_get]
  split
  · rename_i e
    subst e
    rw [if_pos (List.getElem?_eq_some_iff.mp h).1, h]
  · rfl
theorem de_ksetd {o e f : Expr} {apos cpos : Pos} (i : Nat) {fk fv : DEnv → T D} (hu : X.A.units + 100 < cLine) (ho : PE X o (tVar i)) (he : PE X e (tD X.K X.mg W fk)) (hf : PE X f (tD X.K X.mg W fv)) (m : M2 X o "setdefault" apos e f cpos) :
    PE X (.Call (.Attribute o "setdefault" apos) [e, f] [] cpos) (tEK X.K X.mg W i (dKsetd i fk fv)) := by
  refine ⟨fun pins s σ H Q I ⟨w, F, ρ, n, c, hi0, q⟩ => ?_⟩
  unfold dKsetd at q
  split at q
  rotate_left
  · exact q.elim
  rename_i kvs hi
  obtain ⟨a, q1, q2, q3, q4⟩ := c.env.at_ow hi rfl
  refine wpAny_Call_method m.base m.few m.line PySem.F.plainAttrs_dict PySem.F.slot_dict_setdefault PySem.F.type_dict_setdefault (thn (ho.run pins s σ H (fun v H1 => v = .ref a ∧ H1 = H) I ⟨.ref a, q1, rfl, rfl⟩) fun u s1 ⟨x, H1, I1, rx, ex, eh⟩ => ?_)
  subst ex eh
  obtain rfl : u = Value.ref a := rx
  obtain ⟨hd, hz0, es, ep, ⟨ob, g1, g2, g3⟩, _⟩ := dic_raw I1 q4
  refine ⟨⟨ob, g1, g2.1⟩, fun b eb => by cases eb; exact ⟨ob, g1, g2.2.1⟩, ?_⟩
  rw [m.trees]
  refine Calls.callWith_builtin rfl (Calls.evalArgs_plain (Calls.spliced_cons (thn (he.run pins s1 σ H1 (fun y H2 => ∃ F2 m2 dd, StepE w F H1 F2 H2 ∧ Cur X.K w F2 H2 σ ρ m2 ∧ Rep X.K w F2 H2 y dd ∧
      ((fv ρ).bind fun v => if dicOk kvs dd = true ∧ kvs.length < sizeLine then (match dget kvs dd with | some x => T.ok (x, kvs) | none => T.ok (v, dput kvs dd v)) else .fail).wp (fun r m => ∀ F' H' v, StepS w F H1 (Own σ ρ) F' H' (Own σ ρ) → Cur X.K w F' H' σ (ρ.set i (.dic r.2)) m → Rep X.K w F' H' v r.1 → Q v H') (PostX X.K X.mg w F H1 fun c dd H' => W c dd σ H') m2) I1 ?_)
    fun iv s2 ⟨y, H2, I2, ry, F2, m2, dd, st, c2, rd, q5⟩ => Calls.spliced_cons (thn (hf.run pins s2 σ H2 (fun z H3 => ∃ F3 m3 dv, StepE w F2 H2 F3 H3 ∧ Cur X.K w F3 H3 σ ρ m3 ∧ Rep X.K w F3 H3 z dv ∧ dicOk kvs dd = true ∧ kvs.length < sizeLine ∧
      (match dget kvs dd with | some x => T.ok (x, kvs) | none => T.ok (dv, dput kvs dd dv)).wp (fun r m => ∀ F' H' v, StepS w F H1 (Own σ ρ) F' H' (Own σ ρ) → Cur X.K w F' H' σ (ρ.set i (.dic r.2)) m → Rep X.K w F' H' v r.1 → Q v H') (PostX X.K X.mg w F H1 fun c dd H' => W c dd σ H') m3) I2 ?_)
    fun fv' s3 ⟨z, H3, I3, rz, F3, m3, dv, st3, c3, rv, ok, hz, q6⟩ => Calls.spliced_nil ?_))))
  · exact tD.go c (T.wp_bind _ _ |>.mp q) (fun _ _ h => h) fun d m q5 F1 H2 v s1 c1 r => ⟨F1, m, d, s1, c1, r, q5⟩
  · refine tD.go c2 (T.wp_bind _ _ |>.mp q5) (fun _ _ h => h.back st) fun d m q6 F3 H3 v s3 c3 r => ?_
    split at q6
    · rename_i hc
      exact ⟨F3, m, d, s3, c3, r, hc.1, hc.2, q6⟩
    · exact q6.elim
  · obtain ⟨a', p1, p2, p3, p4⟩ := c3.env.at_ow hi rfl
    rw [q1] at p1
    cases p1
    have sE := st.trans st3
    refine o_setd (by omega) I3 p2 p4 (rd.step st3 c2.toBase) ry rv rz ok hz (fun dx hg v' w' s' I' rw' rv' => ?_) fun hg ob' w' s' h4 I' rw' => ?_
    · rw [hg] at q6
      exact ⟨v', H3, I', rw', q6 F3 H3 v' sE.s (by rw [set_same hi]; exact c3) rv'⟩
    · rw [hg] at q6
      obtain ⟨s5, c5⟩ := c3.putOw hi rfl rfl q1 h4
      have kp : ∀ b o, F3 b → H3 b = some o → (upd H3 a ob') b = some o := fun b o f zz => by
        have nb : b ≠ a := fun e => p2 (by rw [← e]; exact f)
        rw [upd_ne nb]
        exact zz
      have s6 := sE.s.trans s5
      exact ⟨z, upd H3 a ob', I', rw', q6 F3 _ z ⟨s6.keep', s6.sub, s6.new, fun b h => .inl h, s6.dom⟩ c5 (rv.fz (fun _ z => z) kp)⟩
/-! ### a comprehension whose element changes the dict of a slot -/
/-- the names' slots are as they were, the dict stands in its slot -/
structure BackTo (vs : List Nat) (i : Nat) (ρ1 ρ0 : DEnv) (kvs : List (D × D)) : Prop where
  wipe : dWipe ρ1 vs = ρ0.set i (.dic kvs)
  at_ : ρ1[i]? = some (.dic kvs)
instance (vs : List Nat) (i : Nat) (ρ1 ρ0 : DEnv) (kvs : List (D × D)) : Decidable (BackTo vs i ρ1 ρ0 kvs) := Classical.propDecidable _
def lcGoD (i : Nat) (fb : D → DEnv → T DEnv) (fe : DEnv → T (D × List (D × D))) (vs : List Nat) (ρ0 : DEnv) : List D → List (D × D) → T (List D × List (D × D))
  | [], kvs => .ok ([], kvs)
  | x :: r, kvs => (fb x (ρ0.set i (.dic kvs))).nox.bind fun ρ1 => if BackTo vs i ρ1 ρ0 kvs then (fe ρ1).nox.bind fun y => (lcGoD i fb fe vs ρ0 r y.2).bind fun ys => .ok (y.1 :: ys.1, ys.2) else .fail
structure LcOk (vs : List Nat) (i : Nat) (ρ : DEnv) (xs : List D) : Prop where
  nv : i ∉ vs
  len : xs.length ≤ sizeLine
  no : ∀ j s, j ∈ vs → ρ[j]? = some s → s.ow = false
instance (vs : List Nat) (i : Nat) (ρ : DEnv) (xs : List D) : Decidable (LcOk vs i ρ xs) := Classical.propDecidable _
def dLcD (i : Nat) (fi : DEnv → T (List D)) (fb : D → DEnv → T DEnv) (fe : DEnv → T (D × List (D × D))) (vs : List Nat) : DEnv → T (D × List (D × D)) := fun ρ => match ρ[i]? with
  | some (.dic kvs) => (fi ρ).bind fun xs => if LcOk vs i ρ xs then (lcGoD i fb fe vs (dWipe ρ vs) xs kvs).bind fun r => .ok (.lst r.1, r.2) else .fail
  | _ => .fail
theorem dWipe_out {ρ : DEnv} : ∀ {vs : List Nat} {j : Nat}, j ∉ vs → (dWipe ρ vs)[j]? = ρ[j]?
  | [], _, _ => rfl
  | v :: vs, j, h => by
    show ((dWipe ρ vs).set v .no)[j]? = _
    rw [List.getElem?_set_ne (fun e => h (by rw [e]; simp))]
    exact dWipe_out (fun z => h (by simp [z]))
theorem dWipe_in {ρ : DEnv} : ∀ {vs : List Nat} {j : Nat} {s : Slot}, j ∈ vs → (dWipe ρ vs)[j]? = some s → s = .no
  | v :: vs, j, s, h, hs => by
    replace hs : ((dWipe ρ vs).set v .no)[j]? = some s := hs
    by_cases e : v = j
    · subst e
      rw [List.getElem?_set] at hs
      split at hs
      · split at hs
        · cases hs; rfl
        · cases hs
      · exact absurd rfl ‹_›
    · rw [List.getElem?_set_ne e] at hs
      refine dWipe_in ?_ hs
      rcases List.mem_cons.mp h with q | q
      · exact absurd q.symm e
      · exact q
/-- the frame behind: the dict of the slot is another, all else stands -/
theorem REnv.unwipe {K : PySem.W.Frag} {w : Addr} {F F2 : Addr → Prop} {H H2 : Hp} {σ : St} {ρ : DEnv} {vs : List Nat} {i : Nat} {kvs kvs2 : List (D × D)} (e : REnv K w F H σ ρ) (e2 : REnv K w F2 H2 (L2.wipe σ vs) ((dWipe ρ vs).set i (.dic kvs2))) (hi : ρ[i]? = some (.dic kvs)) (nv : i ∉ vs)
    (no : ∀ j s, j ∈ vs → ρ[j]? = some s → s.ow = false) (sub : ∀ a, F a → F2 a) (kp : ∀ a o, F a → H a = some o → H2 a = some o) : REnv K w F2 H2 σ (ρ.set i (.dic kvs2)) := by
  have il : i < ρ.length := (List.getElem?_eq_some_iff.mp hi).1
  have get : ∀ j s, (ρ.set i (.dic kvs2))[j]? = some s → s.ow = true → j ∉ vs ∧ ((dWipe ρ vs).set i (.dic kvs2))[j]? = some s := fun j s h ho => by
    rw [set_get] at h ⊢
    split at h
    · rename_i z
      subst z
      rw [if_pos il] at h
      exact ⟨nv, by rw [if_pos rfl, if_pos (by rw [dWipe_len]; exact il)]; exact h⟩
    · rename_i z
      have hj : j ∉ vs := fun hm => by
        have := no j s hm h
        rw [ho] at this
        cases this
      exact ⟨hj, by rw [if_neg z, dWipe_out hj]; exact h⟩
  refine ⟨by rw [List.length_set]; exact e.len, fun j d h => ?_, fun j s h ho => ?_, fun j k s t a ne h1 o1 h2 o2 h3 => ?_⟩
  · rw [set_get] at h
    split at h
    · split at h <;> cases h
    · obtain ⟨v, h1, h2⟩ := e.sh j d h
      exact ⟨v, h1, h2.fz sub kp⟩
  · obtain ⟨hj, hg⟩ := get j s h ho
    obtain ⟨a, q1, q2, q3, q4⟩ := e2.own j s hg ho
    exact ⟨a, by rw [← q1, wipe_out hj], q2, q3, q4⟩
  · obtain ⟨hj, hg⟩ := get j s h1 o1
    obtain ⟨hk, hg2⟩ := get k t h2 o2
    have := e2.apart j k s t a ne hg o1 hg2 o2 (by rw [wipe_out hj]; exact h3)
    rw [wipe_out hk] at this
    exact this
theorem lcD_read {i : Nat} {fi : DEnv → T (List D)} {is : List Nat} {fb : D → DEnv → T DEnv} {fe : DEnv → T (D × List (D × D))} {vs : List Nat} (his : ∀ j ∈ is, j ∈ vs) {σ : St} {H : Hp} {Q : VK} (h : tEK X.K X.mg W i (dLcD i fi fb fe vs) σ H Q) :
    tLc (tI X.K X.mg gFz W fi) (tG X.K is fb) (tDT X.K X.mg W0 dYes) (tEK X.K X.mg W0 i fe) vs σ H Q := by
  obtain ⟨w, F, ρ, n, c, ⟨kvs, hi⟩, q⟩ := h
  unfold dLcD at q
  rw [hi] at q
  dsimp only at q
  refine ⟨w, F, ρ, n, c, T.wp_mono (fun xs m q1 F1 H1 J s1 b1 it L hL => ?_) (fun _ _ h => h) (T.wp_bind _ _ |>.mp q)⟩
  split at q1
  rotate_left
  · exact q1.elim
  rename_i hok
  have c1 := c.step s1 b1
  have hHD : H L = none := s1.dom L hL
  have Lw : L ≠ w := c1.toBase.pne hL
  have nO : ¬ Own σ ρ L := fun ho => by
    obtain ⟨_, _, o, hu⟩ := c.env.own_fz ho
    rw [hHD] at hu
    cases hu
  have il : i < ρ.length := (List.getElem?_eq_some_iff.mp hi).1
  have hw0 : (dWipe ρ vs).set i (.dic kvs) = dWipe ρ vs := set_same (by rw [dWipe_out hok.nv]; exact hi)
  -- what is one's own behind the wiping was so ahead of it
  have ownw : ∀ kv a, Own (L2.wipe σ vs) ((dWipe ρ vs).set i (.dic kv)) a → Own σ ρ a := fun kv a ⟨j, s, h1, ho, h2⟩ => by
    have hj : j ∉ vs := fun hm => by
      rw [List.getElem?_set_ne (fun e => hok.nv (by rw [e]; exact hm))] at h1
      have := dWipe_in hm h1
      subst this
      cases ho
    rw [wipe_out hj] at h2
    rw [set_get] at h1
    split at h1
    · rename_i z
      exact ⟨i, _, hi, rfl, by rw [z]; exact h2⟩
    · rw [dWipe_out hj] at h1
      exact ⟨j, s, h1, ho, h2⟩
  refine ⟨fun j k H2 => ∃ (F2 : Addr → Prop) (n2 : Nat) (acc : List V) (ds : List D) (kv : List (D × D)), j + k = xs.length ∧ StepS w F H (Own σ ρ) F2 H2 (Own σ ρ) ∧ Base w F2 H2 n2 ∧ (∀ b, F1 b → F2 b) ∧ (∀ b o, F1 b → H1 b = some o → H2 b = some o) ∧ ¬ F2 L ∧ H2 L = some (.lst acc) ∧ Reps X.K w F2 H2 acc ds ∧
    REnv X.K w F2 H2 (L2.wipe σ vs) ((dWipe ρ vs).set i (.dic kv)) ∧ acc.length ≤ j ∧
    (lcGoD i fb fe vs (dWipe ρ vs) (xs.drop j) kv).wp (fun ys m => ∀ F' H' v, StepS w F H (Own σ ρ) F' H' (Own σ ρ) → Cur X.K w F' H' σ (ρ.set i (.dic ys.2)) m → Rep X.K w F' H' v (.lst (ds ++ ys.1)) → Q v H') (PostX X.K X.mg w F H fun c dd H' => W c dd σ H') n2,
    ⟨xs.length, F1, m, [], [], kvs, Nat.zero_add _, (s1.trans (.layOwn hL)).s, b1.layOwn hL, fun _ z => z, fun b o f z => ?_, b1.pnf hL, upd_same, .nil, ?_, Nat.le_refl _, ?_⟩, fun j k H2 hW => ?_⟩
  · rw [upd_ne (ne_of_none z hL)]
    exact z
  · rw [hw0]
    exact (c1.env.wipe vs).step (.layOwn hL) b1
  · rw [List.drop_zero]
    exact T.wp_mono (fun ys m q => q) (fun _ _ h => h) (T.wp_bind _ _ |>.mp q1)
  obtain ⟨F2, n2, acc, ds, kv, hjk, s2, b2, f12, k12, nfL, hLa, ra, env, hal, q2⟩ := hW
  have IT := it F2 H2 n2 f12 k12 (fun _ _ z => z.elim) b2
  by_cases hj : j < xs.length
  · have hx : xs[j]? = some xs[j] := List.getElem?_eq_getElem hj
    obtain ⟨go, yl⟩ := IT.1 j _ hx
    rw [List.drop_eq_getElem_cons hj] at q2
    simp only [lcGoD] at q2
    refine .inr ⟨go, fun H' => ∃ (F2 : Addr → Prop) (n2 : Nat) (acc : List V) (ds : List D) (kv : List (D × D)), StepS w F H (Own σ ρ) F2 H' (Own σ ρ) ∧ Base w F2 H' n2 ∧ (∀ b, F1 b → F2 b) ∧ (∀ b o, F1 b → H1 b = some o → H' b = some o) ∧ ¬ F2 L ∧ H' L = some (.lst acc) ∧ Reps X.K w F2 H' acc ds ∧
      REnv X.K w F2 H' (L2.wipe σ vs) ((dWipe ρ vs).set i (.dic kv)) ∧ acc.length ≤ j + 1 ∧
      (lcGoD i fb fe vs (dWipe ρ vs) (xs.drop (j + 1)) kv).wp (fun ys m => ∀ F' H' v, StepS w F H (Own σ ρ) F' H' (Own σ ρ) → Cur X.K w F' H' σ (ρ.set i (.dic ys.2)) m → Rep X.K w F' H' v (.lst (ds ++ ys.1)) → Q v H') (PostX X.K X.mg w F H fun c dd H' => W c dd σ H') n2,
      fun H' hN => ?_, fun v H3 y => ?_⟩
    · obtain ⟨F2, n2, acc, ds, kv, r⟩ := hN
      exact ⟨k - 1, by omega, F2, n2, acc, ds, kv, by omega, r⟩
    · obtain ⟨F3, s3, b3, rx⟩ := yl v H3 y
      have hL3 : H3 L = some (.lst acc) := s3.keep L _ Lw hLa
      have nfL3 : ¬ F3 L := fun f => (s3.new L f).elim nfL fun z => by rw [hLa] at z; cases z
      have env3 := env.step s3 b2
      refine ⟨w, F3, (dWipe ρ vs).set i (.dic kv), n2, _, ⟨b3, env3⟩, rx, T.wp_mono (fun ρ4 m4 q4 σ4 c4 o4 z4 => ?_) (fun _ _ h => h.elim) (T.wp_nox (E' := fun _ _ => False) (T.wp_bind _ _ |>.mp q2))⟩
      have wq := wipe_eq (z4.1.trans (wipe_length σ vs)) fun j hj => z4.2 j fun hm => hj (his j hm)
      refine ⟨wq, ?_⟩
      split at q4
      rotate_left
      · exact q4.elim
      rename_i bk
      refine ⟨w, F3, ρ4, m4, c4, fun F5 H5 s5 b5 => iteT ?_⟩
      have c5 := c4.step s5 b5
      refine ⟨w, F5, ρ4, m4, c5, ⟨kv, bk.at_⟩, T.wp_mono (fun dy m6 q6 F6 H6 vy s6 c6 ry => ?_) (fun _ _ h => h.elim) (T.wp_nox (E' := fun _ _ => False) (T.wp_bind _ _ |>.mp q4))⟩
      have O4 : ∀ b, Own σ4 ρ4 b → Own σ ρ b := fun b h => ownw kv b (o4 b h)
      have s35 := s3.trans s5
      have s6' : StepS w F5 H5 (Own σ ρ) F6 H6 (Own σ ρ) := ⟨fun a o na no hh t => s6.keep a o na (fun z => no (O4 a z)) hh, s6.sub, fun a hh => (s6.new a hh).imp id fun z => z.imp id (O4 a), fun b hh => .inl hh, s6.dom⟩
      have hL5 : H5 L = some (.lst acc) := s5.keep L _ Lw hL3
      have hL6 : H6 L = some (.lst acc) := s6'.keep L _ Lw nO hL5
      have nfL5 : ¬ F5 L := fun f => (s5.new L f).elim nfL3 fun z => by rw [hL3] at z; cases z
      have nf6 : ¬ F6 L := fun f => by
        rcases s6'.new L f with z | z | z
        · exact nfL5 z
        · rw [hL5] at z; cases z
        · exact nO z
      have kp25 : ∀ b o, F2 b → H2 b = some o → H6 b = some o := fun b o f z => s6.fz c5 b o (s35.sub b f) (s35.keep b o (fun e => b2.nw (e ▸ f)) z (b2.nt f z))
      have sub26 : ∀ b, F2 b → F6 b := fun b f => s6.sub b (s35.sub b f)
      have kp6 : ∀ b o, F6 b → H6 b = some o → (upd H6 L (.lst (acc ++ [vy]))) b = some o := fun b o f z => by
        have nb : b ≠ L := fun e => nf6 (by rw [← e]; exact f)
        rw [upd_ne nb]
        exact z
      have s26 : StepS w F H (Own σ ρ) F6 H6 (Own σ ρ) := (s2.trans s35.s).trans s6'
      refine ⟨acc, hL6, by have := hok.len; omega, F6, m6, acc ++ [vy], ds ++ [dy.1], dy.2, ?_, ?_, fun b z => sub26 b (f12 b z), fun b o f z => ?_, nf6, upd_same, ?_, ?_, ?_, ?_⟩
      · refine ⟨fun a o na no z t => ?_, s26.sub, s26.new, fun a z => .inl z, fun a z => ?_⟩
        · rw [upd_ne (ne_of_none z hHD)]
          exact s26.keep a o na no z
        · by_cases e : a = L
          · rw [e]; exact hHD
          · rw [upd_ne e] at z
            exact s26.dom a z
      · exact c6.toBase.put nf6 Lw hL6
      · exact kp6 b o (sub26 b (f12 b f)) (kp25 b o (f12 b f) (k12 b o f z))
      · exact ((ra.fz sub26 kp25).fz (fun _ z => z) kp6).append (.cons (ry.fz (fun _ z => z) kp6) .nil)
      · have e6 := c6.env.wipe vs
        have ew : dWipe (ρ4.set i (.dic dy.2)) vs = (dWipe ρ vs).set i (.dic dy.2) := by
          apply List.ext_getElem?
          intro l
          by_cases hl : l ∈ vs
          · have hli : l ≠ i := fun e => hok.nv (e ▸ hl)
            have hlen : ρ4.length = (dWipe ρ vs).length := by
              have := congrArg List.length bk.wipe
              rw [dWipe_len, List.length_set] at this
              exact this
            rw [List.getElem?_set_ne (fun e => hli e.symm)]
            cases h1 : (dWipe (ρ4.set i (.dic dy.2)) vs)[l]? with
            | none =>
              rw [List.getElem?_eq_none_iff, dWipe_len, List.length_set, hlen] at h1
              rw [List.getElem?_eq_none_iff.mpr h1]
            | some s =>
              have e1 := dWipe_in hl h1
              have hlt : l < (dWipe ρ vs).length := by
                have := (List.getElem?_eq_some_iff.mp h1).1
                rw [dWipe_len, List.length_set, hlen] at this
                exact this
              have h2 := List.getElem?_eq_getElem hlt
              rw [h2, dWipe_in hl h2, e1]
          · rw [dWipe_out hl, set_get, set_get]
            have hlen : ρ4.length = (dWipe ρ vs).length := by
              have := congrArg List.length bk.wipe
              rw [dWipe_len, List.length_set] at this
              exact this
            rw [hlen]
            split
            · rfl
            · rename_i ne
              have := congrArg (fun (l2 : DEnv) => l2[l]?) bk.wipe
              rw [dWipe_out hl, List.getElem?_set_ne ne] at this
              exact this
        rw [ew, wq] at e6
        refine ⟨e6.len, fun l d hl => ?_, fun l zs hl hz => ?_, e6.apart⟩
        · obtain ⟨v', h1, h2⟩ := e6.sh l d hl
          exact ⟨v', h1, h2.fz (fun _ z => z) kp6⟩
        · obtain ⟨a, h1, h2, h3, h4⟩ := e6.own l zs hl hz
          have na : a ≠ L := by
            intro e
            subst e
            refine nO (ownw dy.2 a ⟨l, zs, hl, hz, ?_⟩)
            cases q : (L2.wipe σ vs)[l]? with
            | none => rw [q] at h1; cases h1
            | some o => rw [q] at h1; exact congrArg some h1
          exact ⟨a, h1, h2, h3, h4.fz (fun _ z => z) kp6 (upd_ne na)⟩
      · rw [List.length_append]
        exact Nat.succ_le_succ hal
      · refine T.wp_mono (fun ys m7 q7 F' H' v t1 t2 t3 => ?_) (fun _ _ h => h) (T.wp_bind _ _ |>.mp q6)
        refine q7 F' H' v t1 t2 ?_
        rw [List.append_assoc] at t3
        exact t3
  · have e : j = xs.length := by omega
    subst e
    refine .inl ⟨IT.2, ?_⟩
    rw [List.drop_length] at q2
    have kpF : ∀ b o, F b → H b = some o → H2 b = some o := fun b o f z => s2.fz c b o f z
    have eF := REnv.unwipe c.env env hi hok.nv hok.no s2.sub kpF
    have q3 := q2 (fun b => F2 b ∨ b = L) H2 (.ref L) ⟨s2.keep', fun b f => .inl (s2.sub b f), fun b f => f.elim (s2.new b) fun e => .inr (.inl (e ▸ hHD)), s2.onew, s2.dom⟩
    refine q3 ⟨b2.fz Lw hLa, ?_⟩ (.lst (.inr rfl) hLa (by rw [List.append_nil]; exact ra.sub fun _ => .inl))
    refine ⟨eF.len, fun l d hl => ?_, fun l zs hl hz => ?_, eF.apart⟩
    · obtain ⟨v', h1, h2⟩ := eF.sh l d hl
      exact ⟨v', h1, h2.sub fun _ => .inl⟩
    · obtain ⟨a, h1, h2, h3, h4⟩ := eF.own l zs hl hz
      refine ⟨a, h1, fun f => f.elim h2 fun e => ?_, h3, h4.sub fun _ => .inl⟩
      subst e
      refine nO ?_
      have h1' : σ[l]? = some (some (.ref a)) := by
        cases q : σ[l]? with
        | none => rw [q] at h1; cases h1
        | some o => rw [q] at h1; exact congrArg some h1
      exact Own.putOw hi rfl ⟨l, zs, hl, hz, h1'⟩
end
end
end AL
namespace AL
open PySem PySem.Spec PyProof.Rows L2
noncomputable section
variable [Tb]
section
variable {X : Cx} {W : WX}
/-- a name gets what an expression gives that changes the dict of a slot -/
def gSetE (j i : Nat) (f : DEnv → T (D × List (D × D))) : DEnv → T Fl := fun ρ => match ρ[i]? with
  | some (.dic _) => (f ρ).ex ρ fun r => .ok (.nx ((ρ.set i (.dic r.2)).set j (.sh r.1)))
  | _ => .fail
theorem setE_read {j i : Nat} {f : DEnv → T (D × List (D × D))} {D : Ends} {σ : St} {H : Hp} (h : sD X.K X.mg W (gSetE j i f) D σ H) : tEK X.K X.mg W i f σ H fun x H1 => D.nx (σ.set j (some x)) H1 := by
  obtain ⟨w, F, ρ, n, c, q⟩ := h
  unfold gSetE at q
  split at q
  rotate_left
  · exact q.elim
  rename_i kvs hi
  refine ⟨w, F, ρ, n, c, ⟨kvs, hi⟩, T.wp_mono (fun r m q1 F1 H1 v s1 c1 rv => ?_) (fun e m h => PostS.exc c h) (T.wp_ex q)⟩
  refine q1 F1 H1 _ ⟨s1.keep', s1.sub, s1.new, fun a h => .inl (Own.putOw hi rfl h.setSh), s1.dom⟩ ⟨c1.toBase, c1.env.setSh j rv⟩
theorem ds_setE {j i : Nat} {x : Str} {e : Expr} {f : DEnv → T (D × List (D × D))} {pos pos' : Pos} (hN : X.N.Nodup) (hj : X.N[j]? = some x) (hx : Loc X.env.scope x) (h : PE X e (tEK X.K X.mg W i f)) (hs : swapsWith e (some (.Name x pos')) pos.line X.env = pure false := by rfl)
    (hf : X.fn x = true ∨ X.env.scope.names.lookup x = some .local := by first | exact .inl rfl | exact .inr rfl | assumption) : PS X (.Assign [.Name x pos'] e pos) (sD X.K X.mg W (gSetE j i f)) := PS.of (ps_set hN hj hx h hs hf) fun D σ H q => setE_read q
theorem de_lcD {i : Nat} {elt tg iter : Expr} {scope : Scope} {own : List (Str × Nat)} {pos : Pos} {fi : DEnv → T (List D)} {is : List Nat} {fb : D → DEnv → T DEnv} {fe : DEnv → T (D × List (D × D))} (hc : X.calm = true) (hN : X.N.Nodup) (hi : PI X tg iter (tI X.K X.mg gFz W fi))
    (ok : BlkOk X.N X.env.scope scope own) (his : ∀ i ∈ is, i ∈ own.map (·.2))
    (hg : ∀ (s : Shared) (H : Hp) (C : Addr) (cl : List (Str × Addr)) (fp : List Addr), PG (X.blk s H scope (compEnvC scope cl C X.env) fp) tg (tG X.K is fb))
    (ht : ∀ (s : Shared) (H : Hp) (C : Addr) (cl : List (Str × Addr)) (fp : List Addr), PTs (X.blk s H scope (compEnvC scope cl C X.env) fp) [] (tDT X.K X.mg W0 dYes))
    (he : ∀ (s : Shared) (H : Hp) (C : Addr) (cl : List (Str × Addr)) (fp : List Addr), PE (X.blk s H scope (compEnvC scope cl C X.env) fp) elt (tEK X.K X.mg W0 i fe)) (hs : ∀ x, foldedSetIterable iter X.env x = pure x := by intro _; rfl) :
    PE X (.ListComp elt [⟨tg, iter, [], 0⟩] scope pos) (tEK X.K X.mg W i (dLcD i fi fb fe (own.map (·.2)))) := PE.of (pe_lc hc hN hi ok hg ht he hs) fun σ H Q h => lcD_read his h
theorem ds_setLcD {j i : Nat} {y : Str} {py : Pos} {elt tg iter : Expr} {scope : Scope} {own : List (Str × Nat)} {pos spos : Pos} {fi : DEnv → T (List D)} {is : List Nat} {fb : D → DEnv → T DEnv} {fe : DEnv → T (D × List (D × D))} (hc : X.calm = true) (hN : X.N.Nodup) (hy : X.N[j]? = some y) (hyl : X.env.scope.names.lookup y = some .local)
    (hsw : swapsWith (.ListComp elt [⟨tg, iter, [], 0⟩] scope pos) (some (.Name y py)) spos.line X.env = pure true) (hi : PI X tg iter (tI X.K X.mg gFz W fi)) (ok : BlkOk X.N X.env.scope scope own) (his : ∀ i ∈ is, i ∈ own.map (·.2))
    (hg : ∀ (s : Shared) (H : Hp) (C : Addr) (cl : List (Str × Addr)) (fp : List Addr), PG (X.blk s H scope (compEnvC scope cl C X.env) fp) tg (tG X.K is fb))
    (ht : ∀ (s : Shared) (H : Hp) (C : Addr) (cl : List (Str × Addr)) (fp : List Addr), PTs (X.blk s H scope (compEnvC scope cl C X.env) fp) [] (tDT X.K X.mg W0 dYes))
    (he : ∀ (s : Shared) (H : Hp) (C : Addr) (cl : List (Str × Addr)) (fp : List Addr), PE (X.blk s H scope (compEnvC scope cl C X.env) fp) elt (tEK X.K X.mg W0 i fe)) (hs : ∀ x, foldedSetIterable iter X.env x = pure x := by intro _; rfl) :
    PS X (.Assign [.Name y py] (.ListComp elt [⟨tg, iter, [], 0⟩] scope pos) spos) (sD X.K X.mg W (gSetE j i (dLcD i fi fb fe (own.map (·.2))))) := PS.of (ps_setLc hc hN hy hyl hsw hi ok hg ht he hs) fun D σ H q => lcD_read his (setE_read q)
end
end
end AL
namespace AL
open PySem PySem.Spec PyProof.Rows L2
noncomputable section
variable [Tb]
section
variable {X : Cx} {W : WX}
/-! ## three names at once -/
def gPar3 (i j l : Nat) (f g h : DEnv → T Slot) : DEnv → T Fl := fun ρ => (f ρ).ex ρ fun s => (g ρ).ex ρ fun t => (h ρ).ex ρ fun u => .ok (.nx (((ρ.set i s).set j t).set l u))
theorem par3_end {K : PySem.W.Frag} {w : Addr} {F F1 F2 F3 : Addr → Prop} {H H1 H2 H3 : Hp} {σ : St} {ρ : DEnv} {n m1 m2 m3 : Nat} {x y z : V} {s t u : Slot} {i j l : Nat} (c : Cur K w F H σ ρ n) (s1 : StepE w F H F1 H1) (c1 : Cur K w F1 H1 σ ρ m1) (r1 : RepM K w H F1 H1 x s)
    (s2 : StepE w F1 H1 F2 H2) (c2 : Cur K w F2 H2 σ ρ m2) (r2 : RepM K w H1 F2 H2 y t) (s3 : StepE w F2 H2 F3 H3) (c3 : Cur K w F3 H3 σ ρ m3) (r3 : RepM K w H2 F3 H3 z u) :
    StepS w F H (Own σ ρ) F3 H3 (Own (((σ.set i (some x)).set j (some y)).set l (some z)) (((ρ.set i s).set j t).set l u)) ∧ Cur K w F3 H3 (((σ.set i (some x)).set j (some y)).set l (some z)) (((ρ.set i s).set j t).set l u) m3 := by
  have nw : ∀ p, H p = none → p ≠ w := fun p hp => c.toBase.pne hp
  have nw1 : ∀ p, H1 p = none → p ≠ w := fun p hp => c1.toBase.pne hp
  have nw2 : ∀ p, H2 p = none → p ≠ w := fun p hp => c2.toBase.pne hp
  have no : ∀ p, H p = none → ¬ Own σ ρ p := fun p hp ho => by
    obtain ⟨_, _, us, hu⟩ := c.env.own_fz ho
    rw [hp] at hu
    cases hu
  have no2 : ∀ p, H2 p = none → ¬ Own σ ρ p := fun p hp => no p (s1.dom p (s2.dom p hp))
  have r2' := r2.step s3 c2.toBase s2.dom nw1
  obtain ⟨st2, c12⟩ := par_end (i := i) (j := j) c s1 c1 r1 (s2.trans s3) c3 r2'
  have o12 : ∀ p, H2 p = none → ¬ Own ((σ.set i (some x)).set j (some y)) ((ρ.set i s).set j t) p := fun p hp ho => by
    obtain ⟨_, _, o, hu⟩ := c12.env.own_fz ho
    -- an own thing was there at H2: the new ones lie in H1, H2
    rcases st2.onew p ho with q | q
    · exact no2 p hp q
    · -- p is new since H: it is the thing of s or of t
      obtain ⟨k, sl, h1, h2, h3⟩ := ho
      rw [set_get] at h1 h3
      split at h1
      · rename_i e
        rw [if_pos e] at h3
        split at h1
        · cases h1
          split at h3
          · have h3' := Option.some.inj (Option.some.inj h3)
            cases t with
            | no => cases h2
            | sh d => cases h2
            | own xs =>
              obtain ⟨p', e', _, _, g⟩ := r2
              obtain ⟨o', g'⟩ := g.some_
              rw [h3'] at e'
              cases e'
              rw [hp] at g'
              cases g'
            | dic kvs =>
              obtain ⟨p', e', _, _, g⟩ := r2
              obtain ⟨o', g'⟩ := g.some_
              rw [h3'] at e'
              cases e'
              rw [hp] at g'
              cases g'
          · cases h3
        · cases h1
      · rename_i e
        rw [if_neg e] at h3
        rw [set_get] at h1 h3
        split at h1
        · rename_i e2
          rw [if_pos e2] at h3
          split at h1
          · cases h1
            split at h3
            · have h3' := Option.some.inj (Option.some.inj h3)
              cases s with
              | no => cases h2
              | sh d => cases h2
              | own xs =>
                obtain ⟨p', e', _, _, g⟩ := r1
                obtain ⟨o', g'⟩ := g.some_
                rw [h3'] at e'
                cases e'
                have := s2.dom p hp
                rw [g'] at this
                cases this
              | dic kvs =>
                obtain ⟨p', e', _, _, g⟩ := r1
                obtain ⟨o', g'⟩ := g.some_
                rw [h3'] at e'
                cases e'
                have := s2.dom p hp
                rw [g'] at this
                cases this
            · cases h3
          · cases h1
        · rename_i e2
          rw [if_neg e2] at h3
          exact no2 p hp ⟨k, sl, h1, h2, h3⟩
  obtain ⟨c4, o4⟩ := c12.setM l nw2 o12 r3
  refine ⟨⟨st2.keep', st2.sub, st2.new, fun a h => ?_, st2.dom⟩, c4⟩
  rcases o4 a h with q | ⟨q, _⟩
  · exact st2.onew a q
  · exact .inr (s1.dom a (s2.dom a q))
theorem ds_par3 {i j l : Nat} {x y z : Str} {a b e3 : Expr} {f g h : DEnv → T Slot} {px py pz pt pos : Pos} {kt k2 pt2} (hc : X.calm = true) (hN : X.N.Nodup) (hi : X.N[i]? = some x) (hj : X.N[j]? = some y) (hl : X.N[l]? = some z) (hij : i ≠ j) (hil : i ≠ l) (hjl : j ≠ l)
    (hx : X.env.scope.names.lookup x = some .local) (hy : X.env.scope.names.lookup y = some .local) (hz : X.env.scope.names.lookup z = some .local) (ha : PE X a (tM X.K X.mg W f)) (hb : PE X b (tM X.K X.mg W g)) (h3 : PE X e3 (tM X.K X.mg W h))
    (hw : swappedStores [.Tuple [.Name x px, .Name y py, .Name z pz] kt pt] (.Tuple [a, b, e3] k2 pt2) X.env = pure (some [x, y, z]))
    (he : starEach (a :: [b, e3]) X.env = (false, eval a X.env) :: starEach [b, e3] X.env := by rfl) (he2 : starEach (b :: [e3]) X.env = (false, eval b X.env) :: starEach [e3] X.env := by rfl) (he3 : starEach (e3 :: []) X.env = (false, eval e3 X.env) :: starEach [] X.env := by rfl)
    (hs : swapsWithSole [.Tuple [.Name x px, .Name y py, .Name z pz] kt pt] (.Tuple [a, b, e3] k2 pt2) pos.line X.env = pure false := by rfl) :
    PS X (.Assign [.Tuple [.Name x px, .Name y py, .Name z pz] kt pt] (.Tuple [a, b, e3] k2 pt2) pos) (sD X.K X.mg W (gPar3 i j l f g h)) := PS.of (ps_par3 hc hN hi hj hl hij hil hjl hx hy hz (pa_cons ha (pa_cons hb (pa_cons h3 pa_nil he3) he2) he) hw hs) fun D σ H ⟨w, F, ρ, n, c, q⟩ => by
  refine tM.go c (T.wp_ex q) (fun e m h => PostS.exc c h) fun s m q1 F1 H1 v s1 c1 r1 => ?_
  refine tM.go c1 (T.wp_ex q1) (fun e m h => PostX.back s1 (PostS.exc c h)) fun t m2 q2 F2 H2 u s2 c2 r2 => ?_
  refine tM.go c2 (T.wp_ex q2) (fun e m h => PostX.back (s1.trans s2) (PostS.exc c h)) fun t3 m3 q3 F3 H3 u3 s3 c3 r3 => ⟨v, u, u3, rfl, ?_⟩
  obtain ⟨h1, h2⟩ := par3_end c s1 c1 r1 s2 c2 r2 s3 c3 r3
  exact q3 F3 H3 _ h1 h2
/-- the same through a tuple -/
theorem ds_par3U {i j l : Nat} {x y z : Str} {a b e3 : Expr} {f g h : DEnv → T Slot} {px py pz pt pos : Pos} {kt k2 pt2} (hc : X.calm = true) (hN : X.N.Nodup) (hi : X.N[i]? = some x) (hj : X.N[j]? = some y) (hl : X.N[l]? = some z) (hx : Loc X.env.scope x) (hy : Loc X.env.scope y) (hz : Loc X.env.scope z)
    (ha : PE X a (tM X.K X.mg W f)) (hb : PE X b (tM X.K X.mg W g)) (h3 : PE X e3 (tM X.K X.mg W h))
    (hw : swappedStores [.Tuple [.Name x px, .Name y py, .Name z pz] kt pt] (.Tuple [a, b, e3] k2 pt2) X.env = pure none := by rfl)
    (he : starEach (a :: [b, e3]) X.env = (false, eval a X.env) :: starEach [b, e3] X.env := by rfl) (he2 : starEach (b :: [e3]) X.env = (false, eval b X.env) :: starEach [e3] X.env := by rfl) (he3 : starEach (e3 :: []) X.env = (false, eval e3 X.env) :: starEach [] X.env := by rfl)
    (hs : swapsWithSole [.Tuple [.Name x px, .Name y py, .Name z pz] kt pt] (.Tuple [a, b, e3] k2 pt2) pos.line X.env = pure false := by rfl)
    (h1 : (assignEach [.Tuple [.Name x px, .Name y py, .Name z pz] kt pt] X.env).map (·.2) = [assign (.Tuple [.Name x px, .Name y py, .Name z pz] kt pt) X.env] := by rfl)
    (hf : X.fn x = true ∨ X.env.scope.names.lookup x = some .local := by first | exact .inl rfl | exact .inr rfl | assumption) (hf2 : X.fn y = true ∨ X.env.scope.names.lookup y = some .local := by first | exact .inl rfl | exact .inr rfl | assumption) (hf3 : X.fn z = true ∨ X.env.scope.names.lookup z = some .local := by first | exact .inl rfl | exact .inr rfl | assumption) :
    PS X (.Assign [.Tuple [.Name x px, .Name y py, .Name z pz] kt pt] (.Tuple [a, b, e3] k2 pt2) pos) (sD X.K X.mg W (gPar3 i j l f g h)) :=
  PS.of (ps_asg (pe_tup (pa_cons ha (pa_cons hb (pa_cons h3 pa_nil he3) he2) he)) (pg_tup (n := 3) hc (pgs_cons (pg_name hN hi hx hf) (pgs_cons (pg_name hN hj hy hf2) (pgs_cons (pg_name hN hl hz hf3) pgs_nil (by rfl)) (by rfl)) (by rfl)) (by rfl) (by rfl)) hs hw h1) fun D σ H ⟨w, F, ρ, n, c, q⟩ => by
  refine tM.go c (T.wp_ex q) (fun e m h => PostS.exc c h) fun s m q1 F1 H1 v s1 c1 r1 => ?_
  refine tM.go c1 (T.wp_ex q1) (fun e m h => PostX.back s1 (PostS.exc c h)) fun t m2 q2 F2 H2 u s2 c2 r2 => ?_
  refine tM.go c2 (T.wp_ex q2) (fun e m h => PostX.back (s1.trans s2) (PostS.exc c h)) fun t3 m3 q3 F3 H3 u3 s3 c3 r3 => ⟨by show 3 ≤ sizeLine; decide, fun p hp => ?_⟩
  have s4 := StepE.layOwn (w := w) (F := F3) (o := .tup [v, u, u3]) hp
  refine ⟨p, [v, u, u3], rfl, .inl (.inl upd_same), rfl, v, [u, u3], rfl, u, [u3], rfl, u3, [], rfl, rfl, ?_⟩
  have nw2 : ∀ p, H2 p = none → p ≠ w := fun p hp => c2.toBase.pne hp
  have r3' := r3.step s4 c3.toBase s3.dom nw2
  have c4 := c3.step s4 (c3.toBase.layOwn hp)
  obtain ⟨h1, h2⟩ := par3_end (i := i) (j := j) (l := l) c s1 c1 r1 s2 c2 r2 (s3.trans s4) c4 r3'
  exact q3 F3 _ _ h1 h2
end
end
end AL
namespace AL
open PySem PySem.Spec PyProof.Rows L2
noncomputable section
/-! ## equations of the dict layer -/
@[simp] theorem s_dNewD (ρ : DEnv) : dNewD ρ = .ok (.dic []) := rfl
@[simp] theorem s_gSetM (i : Nat) (f : DEnv → T Slot) (ρ : DEnv) : gSetM i f ρ = (f ρ).ex ρ fun s => .ok (.nx (ρ.set i s)) := rfl
@[simp] theorem s_dKget (i : Nat) (f : DEnv → T D) (ρ : DEnv) : dKget i f ρ = (match ρ[i]? with
  | some (.dic kvs) => (f ρ).bind fun d => if dicOk kvs d = true then (match dget kvs d with | some x => .ok x | none => .fail) else .fail
  | _ => .fail) := rfl
@[simp] theorem s_dKin (g : Bool) (i : Nat) (f : DEnv → T D) (ρ : DEnv) : dKin g i f ρ = (match ρ[i]? with
  | some (.dic kvs) => (f ρ).bind fun d => if dicOk kvs d = true then .ok (.bl ((dget kvs d).isSome == g)) else .fail
  | _ => .fail) := rfl
@[simp] theorem s_dKlen (i : Nat) (ρ : DEnv) : dKlen i ρ = (match ρ[i]? with
  | some (.dic kvs) => .ok (.int ((kvs.length : Nat) : Int))
  | _ => .fail) := rfl
@[simp] theorem s_gKput (i : Nat) (fk fv : DEnv → T D) (ρ : DEnv) : gKput i fk fv ρ = (match ρ[i]? with
  | some (.dic kvs) => (fv ρ).ex ρ fun v => (fk ρ).ex ρ fun d => if dicOk kvs d = true ∧ kvs.length < sizeLine then .ok (.nx (ρ.set i (.dic (dput kvs d v)))) else .fail
  | _ => .fail) := rfl
@[simp] theorem s_dKsetd (i : Nat) (fk fv : DEnv → T D) (ρ : DEnv) : dKsetd i fk fv ρ = (match ρ[i]? with
  | some (.dic kvs) => (fk ρ).bind fun d => (fv ρ).bind fun v => if dicOk kvs d = true ∧ kvs.length < sizeLine then (match dget kvs d with | some x => .ok (x, kvs) | none => .ok (v, dput kvs d v)) else .fail
  | _ => .fail) := rfl
@[simp] theorem s_dDispI (fk fv : DEnv → T D) (ρ : DEnv) : dDispI fk fv ρ = (fk ρ).bind fun d => (fv ρ).bind fun v => match d with
  | .int j => .ok (.dic [(.int j, v)])
  | _ => .fail := rfl
@[simp] theorem s_gSetE (j i : Nat) (f : DEnv → T (D × List (D × D))) (ρ : DEnv) : gSetE j i f ρ = (match ρ[i]? with
  | some (.dic _) => (f ρ).ex ρ fun r => .ok (.nx ((ρ.set i (.dic r.2)).set j (.sh r.1)))
  | _ => .fail) := rfl
@[simp] theorem s_gPar3 (i j l : Nat) (f g h : DEnv → T Slot) (ρ : DEnv) : gPar3 i j l f g h ρ = (f ρ).ex ρ fun s => (g ρ).ex ρ fun t => (h ρ).ex ρ fun u => .ok (.nx (((ρ.set i s).set j t).set l u)) := rfl
end
end AL
namespace AL
open PySem PySem.Spec PyProof.Rows L2
noncomputable section
variable [Tb]
/-! ## zip of a list or a tuple with a list or a tuple -/
def IkAt : Bool → Heap → Addr → Addr → Nat → Prop
  | true, h, it, l, i => h.IsTupleIter it l i
  | false, h, it, l, i => h.IsListIter it l i
def SkAt : Bool → Heap → Addr → Array Value → Prop
  | true, h, l, v => h.IsTuple l v
  | false, h, l, v => h.IsList l v
def SkOf (K : PySem.W.Frag) : Bool → Hp → Addr → List V → Prop
  | true, H, a, xs => SqT K H a xs
  | false, H, a, xs => SqL K H a xs
def skObj : Bool → Addr → Obj
  | true, l => { cls := .type "tuple_iterator", data := .fields #[.ref l, .int 0 0] }
  | false, l => { cls := .type "list_iterator", data := .fields #[.ref l, .int 0 0] }
theorem sk_draws {prog : Program} {w : World} {A : Around} (t : Bool) (hh : A.handled = none) (it l : Addr) (hne : l ≠ it) (items : Array Value) :
    Draws prog w A it [it, l] items.size (fun i v => items[i]? = some v) (fun i h => IkAt t h it l i ∧ SkAt t h l items) := by
  cases t
  · exact Draws.list hh it l hne items
  · exact Draws.tuple hh it l hne items
theorem sk_begins (t : Bool) (l : Addr) (items : Array Value) : Begins (.ref l) (skObj t l) fun h => SkAt t h l items := by
  cases t
  · exact begins_list l items
  · exact begins_tuple l items
theorem sk_new (t : Bool) {h : Heap} {it l : Addr} (e : h.get? it = some (skObj t l)) : IkAt t h it l 0 := by
  cases t
  · exact ⟨_, e, rfl, rfl⟩
  · exact ⟨_, e, rfl, rfl⟩
theorem IkAt.obj {t : Bool} {h : Heap} {it l : Addr} {i : Nat} (x : IkAt t h it l i) : ∃ o, h.get? it = some o ∧ ∀ v, o.data ≠ .cell v := by
  cases t <;> obtain ⟨o, e, _, d⟩ := x <;> exact ⟨o, e, fun v q => by rw [d] at q; cases q⟩
theorem IkAt.at {t : Bool} {h h' : Heap} {it l : Addr} {i : Nat} (x : IkAt t h it l i) (k : ∀ o, h.get? it = some o → h'.get? it = some o) : IkAt t h' it l i := by
  cases t
  · exact Heap.IsListIter.at x k
  · exact Heap.IsTupleIter.at x k
section
variable {X : Cx} {pins : List (Addr × Obj)} {σ : St} {H : Hp} {s : Shared} {t : Bool} {a : Addr} {xs ys : List V}
theorem sk_at (I : Inv X pins σ H s) (h : SkOf X.K t H a xs) : ∃ its : List Value, Vals xs its ∧ SkAt t s.heap a its.toArray ∧ a < s.heap.objs.size := by
  cases t
  · obtain ⟨its, rv, p, _⟩ := I.list h
    exact ⟨its, rv, p.isList, p.lt⟩
  · obtain ⟨its, rv, p, _⟩ := I.tuple h
    obtain ⟨o, e, _⟩ := id p
    exact ⟨its, rv, p, Heap.lt_size e⟩
theorem sk_inj (I : Inv X pins σ H s) (h : SkOf X.K t H a xs) (h2 : SkOf X.K t H a ys) : xs = ys := by
  cases t
  · exact I.list_inj h h2
  · exact I.tuple_inj h h2
end
/-- the sequences at a and b as they stand at each turn, the items in new pairs -/
def ItzG (K : PySem.W.Frag) (t1 t2 : Bool) (a b : Addr) : It :=
  ⟨fun i H => ∃ (xs ys : List V) (x y : V), SkOf K t1 H a xs ∧ SkOf K t2 H b ys ∧ xs[i]? = some x ∧ ys[i]? = some y,
    fun i H v H' => ∃ T x y, v = .ref T ∧ H T = none ∧ H' = upd H T (.tup [x, y]) ∧ (∀ xs, SkOf K t1 H a xs → xs[i]? = some x) ∧ ∀ ys, SkOf K t2 H b ys → ys[i]? = some y,
    fun i H => ∃ xs ys : List V, SkOf K t1 H a xs ∧ SkOf K t2 H b ys ∧ (xs.length = i ∧ i ≤ ys.length ∨ ys.length = i ∧ i ≤ xs.length)⟩
theorem turn_zipG {P : Program} {w : World} {K : PySem.W.Frag} {elts : List Expr} {kk : Nat} {tpos : Pos} {t1 t2 : Bool} {a b z TI TO i1 i2 : Addr} (D : ZipApart z TI TO i1 i2 a b) :
    Turn P w K (.Tuple elts kk tpos) (ItzG K t1 t2 a b) [z, TI, TO, i1, i2] z (fun i h => IsZip h z TI TO .none ∧ IsPair h TI (.ref i1) (.ref i2) ∧ (∃ x y, IsPair h TO x y) ∧ IkAt t1 h i1 a i ∧ IkAt t2 h i2 b i) where
  mem := by simp
  obj := fun i h st c hc => by
    obtain ⟨hz, hTI, ⟨x, y, hTO⟩, h1, h2⟩ := st
    have e' : c = z ∨ c = TI ∨ c = TO ∨ c = i1 ∨ c = i2 := by simpa using hc
    rcases e' with q | q | q | q | q
    · rw [q]; exact ⟨_, hz, fun v q => nomatch q⟩
    · rw [q]; exact ⟨_, hTI, fun v q => nomatch q⟩
    · rw [q]; exact ⟨_, hTO, fun v q => nomatch q⟩
    · rw [q]; exact h1.obj
    · rw [q]; exact h2.obj
  keep := fun i h h' st k => by
    obtain ⟨hz, hTI, ⟨x, y, hTO⟩, h1, h2⟩ := st
    exact ⟨k z (by simp) _ hz, k TI (by simp) _ hTI, ⟨x, y, k TO (by simp) _ hTO⟩, h1.at fun o q => k i1 (by simp) o q, h2.at fun o q => k i2 (by simp) o q⟩
  item := by
    intro X hP hw hK hc i pins s σ H E I hf st hg
    subst hP hw hK
    obtain ⟨hz, hTI, ⟨x0, y0, hTO⟩, h1, h2⟩ := st
    obtain ⟨xs, ys, x, y, hqx, hqy, hx, hy⟩ := hg
    obtain ⟨its, rv, p, _⟩ := sk_at I hqx
    obtain ⟨its2, rv2, p2, _⟩ := sk_at I hqy
    obtain ⟨u, hu, ru⟩ := rv.get hx
    obtain ⟨u2, hu2, ru2⟩ := rv2.get hy
    have hh : X.A.in1.handled = none := I.ok.hd hc
    have hzl : z < s.heap.objs.size := Heap.lt_size hz
    have S : ZipSep2 z TI TO i1 i2 [i1, a] [i2, b] := ⟨D.TIz, D.TOz, D.TITO, D.TIi1, by simp, by simp [D.i1z.symm, D.l1z.symm], by simp [D.TOi1, D.l1TO.symm], D.TIi2, by simp, by simp [D.i2z.symm, D.l2z.symm], by simp [D.TOi2, D.l2TO.symm], by simp [D.i12, D.l2i1.symm], by simp [D.i12.symm, D.l1i2.symm]⟩
    have l1 : i < its.toArray.size := by rw [List.size_toArray]; exact (List.getElem?_eq_some_iff.mp hu).1
    have l2 : i < its2.toArray.size := by rw [List.size_toArray]; exact (List.getElem?_eq_some_iff.mp hu2).1
    refine wpAny_pyNext_zipD2_item S (sk_draws t1 hh i1 a D.l1i1 its.toArray) (sk_draws t2 hh i2 b D.l2i2 its2.toArray) hz hTI hTO ⟨h1, p⟩ ⟨h2, p2⟩ l1 l2 fun x1 x2 h' tk e1 e2 z' TO' h1' h2' hT hsz hk => ?_
    have e1' : u = x1 := Option.some.inj (hu.symm.trans (by simpa using e1))
    have e2' : u2 = x2 := Option.some.inj (hu2.symm.trans (by simpa using e2))
    subst e1' e2'
    refine ⟨_, rfl, wpAny_letOwnedTupleGo_zip (s := { s with heap := h', toks := tk }) z' fun h'' z'' sb => ?_⟩
    have hT2 : h''.get? s.heap.objs.size = some { cls := .type "tuple", data := .seq #[u, u2] } := (sb.2 _ (Nat.ne_of_gt hzl)).trans hT
    have new : ObjOk X.prog X.w (upd H s.heap.objs.size (.tup [x, y])) h'' s.heap.objs.size (.tup [x, y]) :=
      ⟨by show 2 ≤ sizeLine; decide, [u, u2], .cons ru (.cons ru2 .nil), ⟨_, hT2, rfl, _, rfl⟩⟩
    have I1 : Inv X pins σ (upd H s.heap.objs.size (.tup [x, y])) { s with heap := h'', toks := tk } :=
      I.turnedNew (t' := tk) (ch := [z, TI, TO, i1, i2]) (fun c o hb q => (sb.2 c (fun q' => hb (by simp [q']))).trans (hk c o (fun q' => hb (by simp [q'])) (fun q' => hb (by simp [q'])) (fun q' => hb (by simp [q'])) (fun q' => hb (by simp [q'])) q)) hf (Nat.le_refl _) new
    refine ⟨.ref s.heap.objs.size, _, I1, rfl, ⟨_, x, y, rfl, I.hok.fresh (Nat.le_refl _), rfl, fun l hl => by rw [sk_inj I hl hqx]; exact hx, fun l hl => by rw [sk_inj I hl hqy]; exact hy⟩, ⟨z'', ?_, ⟨u, u2, ?_⟩, ?_, ?_⟩, fun c hcm => ?_⟩
    · exact (sb.2 _ D.TIz).trans (hk _ _ D.TIz D.TITO D.TIi1 D.TIi2 hTI)
    · exact (sb.2 _ D.TOz).trans TO'
    · exact h1'.1.at fun o q => (sb.2 _ D.i1z).trans q
    · exact h2'.1.at fun o q => (sb.2 _ D.i2z).trans q
    · have hlt : c < s.heap.objs.size := by
        have e' : c = z ∨ c = TI ∨ c = TO ∨ c = i1 ∨ c = i2 := by simpa using hcm
        rcases e' with q | q | q | q | q
        · rw [q]; exact hzl
        · rw [q]; exact Heap.lt_size hTI
        · rw [q]; exact Heap.lt_size hTO
        · rw [q]; obtain ⟨_, e1, _⟩ := h1.obj; exact Heap.lt_size e1
        · rw [q]; obtain ⟨_, e2, _⟩ := h2.obj; exact Heap.lt_size e2
      rw [upd_ne (Nat.ne_of_lt hlt)]
      exact (hf c hcm).1
  done := by
    intro X hP hw hK hc i pins s σ H E I hf st hg
    subst hP hw hK
    obtain ⟨hz, hTI, ⟨x0, y0, hTO⟩, h1, h2⟩ := st
    obtain ⟨xs, ys, hqx, hqy, hend⟩ := hg
    obtain ⟨its, rv, p, _⟩ := sk_at I hqx
    obtain ⟨its2, rv2, p2, _⟩ := sk_at I hqy
    have l1 := rv.length
    have l2 := rv2.length
    have hh : X.A.in1.handled = none := I.ok.hd hc
    have S : ZipSep2 z TI TO i1 i2 [i1, a] [i2, b] := ⟨D.TIz, D.TOz, D.TITO, D.TIi1, by simp, by simp [D.i1z.symm, D.l1z.symm], by simp [D.TOi1, D.l1TO.symm], D.TIi2, by simp, by simp [D.i2z.symm, D.l2z.symm], by simp [D.TOi2, D.l2TO.symm], by simp [D.i12, D.l2i1.symm], by simp [D.i12.symm, D.l1i2.symm]⟩
    refine wpAny_pyNext_zipD2_end S (sk_draws t1 hh i1 a D.l1i1 its.toArray) (sk_draws t2 hh i2 b D.l2i2 its2.toArray) hz hTI hTO ⟨h1, p⟩ ⟨h2, p2⟩ (by simp; omega) (by simp; omega) (by simp; omega) fun h' tk hk => ⟨rfl, I.turnedL (t' := tk) (ch := [z, TI, TO, i1, i2]) (fun c o hb q =>
      hk c o (fun q' => hb (by simp [q'])) (fun q' => hb (by simp [q'])) (fun q' => hb (by simp [q'])) (fun q' => hb (by simp [q'])) q) hf⟩
  self := fun A i s Q E st h => wpAny_pyIter_zip st.1 h

def iZipG (K : PySem.W.Frag) (ta : TA) : TI := fun σ H R => ta σ H fun vs H1 => ∃ t1 t2 a b xs ys, vs = [.ref a, .ref b] ∧ SkOf K t1 H1 a xs ∧ SkOf K t2 H1 b ys ∧ R (ItzG K t1 t2 a b) H1
theorem pi_zipG {X : Cx} {e e2 : Expr} {ta : TA} {p pos tpos : Pos} {elts : List Expr} {kk : Nat} (hg : Gl X "zip") (hm : X.mg "zip" = none) (ha : PA X [e, e2] ta)
    (hs : starEach [e, e2] X.env = (false, eval e X.env) :: starEach [e2] X.env := by rfl) (hpl : (backTo pos (starEach [e2] X.env)).any (·.1) = false := by rfl) :
    PI X (.Tuple elts kk tpos) (.Call (.Name "zip" p) [e, e2] [] pos) (iZipG X.K ta) := by
  refine ⟨fun pins s σ H R I h => ?_⟩
  refine Call_ (ld_blt I hg hm PyProof.Rows.boot_zip (PyProof.Rows.callWith_type1 (thn (ha.run pos pins s σ H _ I h) fun us s1 ⟨vs, H1, I1, r1, q1⟩ => ?_) hs hpl))
  obtain ⟨t1, t2, a, b, xs, ys, ex, hqx, hqy, q⟩ := q1
  subst ex
  cases r1 with
  | cons r rr =>
    cases rr with
    | cons r' rr =>
      cases rr
      cases r
      cases r'
      obtain ⟨its, rv, p1, la⟩ := sk_at I1 hqx
      obtain ⟨its2, rv2, p2, lb⟩ := sk_at I1 hqy
      refine zip_begins2 (sk_begins t1 a its.toArray) (sk_begins t2 b its2.toArray) p1 p2 fun h' hz hTI hTO h1 h2 hsz hk => wpAny_pyIter_zip hz ?_
      have I2 : Inv X pins σ H1 { s1 with heap := h' } := I1.kept (t' := s1.toks) hk
      refine ⟨s1.heap.objs.size + 4, [s1.heap.objs.size + 4, s1.heap.objs.size + 2, s1.heap.objs.size + 3, s1.heap.objs.size, s1.heap.objs.size + 1], _, _, H1, rfl, I2, turn_zipG (PySem.W.ktu_apart s1.heap.objs.size a b la lb), ⟨hz, hTI, ⟨_, _, hTO⟩, sk_new t1 h1, sk_new t2 h2⟩, fun c hcm => ?_, q⟩
      have e' : c = s1.heap.objs.size + 4 ∨ c = s1.heap.objs.size + 2 ∨ c = s1.heap.objs.size + 3 ∨ c = s1.heap.objs.size ∨ c = s1.heap.objs.size + 1 := by simpa using hcm
      have hle : s1.heap.objs.size ≤ c := by
        rcases e' with z | z | z | z | z
        · rw [z]; exact Nat.le_add_right _ _
        · rw [z]; exact Nat.le_add_right _ _
        · rw [z]; exact Nat.le_add_right _ _
        · rw [z]; exact Nat.le_refl _
        · rw [z]; exact Nat.le_add_right _ _
      exact I1.fpOk hle (I1.hok.fresh hle)
/-! ### as data -/
def zipped : List D → List D → List D
  | x :: xs, y :: ys => .tup [x, y] :: zipped xs ys
  | _, _ => []
theorem zipped_get : ∀ (xs ys : List D) (i : Nat) (z : D), (zipped xs ys)[i]? = some z → ∃ x y, xs[i]? = some x ∧ ys[i]? = some y ∧ z = .tup [x, y]
  | [], _, _, _, h => by simp [zipped] at h
  | _ :: _, [], _, _, h => by simp [zipped] at h
  | x :: xs, y :: ys, 0, z, h => by
    simp only [zipped, List.getElem?_cons_zero, Option.some.injEq] at h
    exact ⟨x, y, rfl, rfl, h.symm⟩
  | x :: xs, y :: ys, i + 1, z, h => by
    simp only [zipped, List.getElem?_cons_succ] at h
    obtain ⟨x', y', h1, h2, h3⟩ := zipped_get xs ys i z h
    exact ⟨x', y', by simpa using h1, by simpa using h2, h3⟩
theorem zipped_end : ∀ (xs ys : List D), xs.length = (zipped xs ys).length ∧ (zipped xs ys).length ≤ ys.length ∨ ys.length = (zipped xs ys).length ∧ (zipped xs ys).length ≤ xs.length
  | [], ys => by simp [zipped]
  | _ :: _, [] => by simp [zipped]
  | x :: xs, y :: ys => by
    have := zipped_end xs ys
    simp only [zipped, List.length_cons]
    omega
def dZip (f g : DEnv → T Sq) : DEnv → T (List D) := fun ρ => (f ρ).bind fun s => (g ρ).bind fun t => .ok (zipped s.xs t.xs)
def sqB : Sq → Bool
  | .t _ => true
  | .l _ => false
theorem SqSt.sk {K : PySem.W.Frag} {w : Addr} {F : Addr → Prop} {H : Hp} {G : Addr → Prop} {a : Addr} {vs : List V} {s : Sq} (h : SqSt K w F H G a vs s) {F2 : Addr → Prop} {H2 : Hp}
    (sub : ∀ b, F b → F2 b) (kp : ∀ b o, F b → H b = some o → H2 b = some o) (kg : ∀ b o, G b → NT o → H b = some o → H2 b = some o) : SkOf K (sqB s) H2 a vs := by
  have q := h F2 H2 sub kp kg
  cases s
  · exact TupAt.seq q
  · exact SqL.of q.2
theorem ItOk.zip {K : PySem.W.Frag} {w : Addr} {F : Addr → Prop} {H : Hp} {G : Addr → Prop} {a b : Addr} {vs us : List V} {s t : Sq} (h : SqSt K w F H G a vs s) (r : Reps K w F H vs s.xs) (h' : SqSt K w F H G b us t) (r' : Reps K w F H us t.xs) :
    ItOk K w F H G (ItzG K (sqB s) (sqB t) a b) (zipped s.xs t.xs) := fun F2 H2 n sub kp kg bs => by
  have q1 := h.sk sub kp kg
  have q2 := h'.sk sub kp kg
  refine ⟨fun i x hx => ?_, vs, us, q1, q2, ?_⟩
  · obtain ⟨d, e, hd, he, rfl⟩ := zipped_get s.xs t.xs i x hx
    obtain ⟨v, hv, rv⟩ := r.get hd
    obtain ⟨u, hu, ru⟩ := r'.get he
    refine ⟨⟨vs, us, v, u, q1, q2, hv, hu⟩, fun v' H3 y => ?_⟩
    obtain ⟨T, x, x', rfl, hT, rfl, y, y'⟩ := y
    have e : v = x := Option.some.inj (hv.symm.trans (y vs q1))
    have e' : u = x' := Option.some.inj (hu.symm.trans (y' us q2))
    subst e e'
    exact pair_new bs (rv.fz sub kp) (ru.fz sub kp) hT
  · have l1 := r.length
    have l2 := r'.length
    have := zipped_end s.xs t.xs
    omega
section
variable {X : Cx} {W : WX} {G : Addr → Addr → Prop}
theorem SqSt.up {K : PySem.W.Frag} {w : Addr} {F F2 : Addr → Prop} {H H2 : Hp} {G : Addr → Prop} {a : Addr} {vs : List V} {s : Sq} (h : SqSt K w F H G a vs s) (sub : ∀ b, F b → F2 b) (kp : ∀ b o, F b → H b = some o → H2 b = some o) (kg : ∀ b o, G b → NT o → H b = some o → H2 b = some o) : SqSt K w F2 H2 G a vs s :=
  fun F3 H3 sub' kp' kg' => h F3 H3 (fun b z => sub' b (sub b z)) (fun b o z e => kp' b o (sub b z) (kp b o z e)) fun b o z t e => kg' b o z t (kg b o z t e)
theorem di_zip {a b : Expr} {f g : DEnv → T Sq} {p pos tpos : Pos} {elts : List Expr} {kk : Nat} (hg : Gl X "zip") (hm : X.mg "zip" = none) (ha : PE X a (tQ X.K X.mg G W f)) (hb : PE X b (tQ X.K X.mg G W g))
    (hG : ∀ w b, G w b → b ≠ w := by first | exact fun _ _ h => h | exact fun _ _ h => h.elim)
    (he : starEach (a :: [b]) X.env = (false, eval a X.env) :: starEach [b] X.env := by rfl) (he2 : starEach (b :: []) X.env = (false, eval b X.env) :: starEach [] X.env := by rfl)
    (hpl : (backTo pos (starEach [b] X.env)).any (·.1) = false := by rfl) : PI X (.Tuple elts kk tpos) (.Call (.Name "zip" p) [a, b] [] pos) (tI X.K X.mg G W (dZip f g)) :=
  PI.of (pi_zipG hg hm (pa_cons ha (pa_cons hb pa_nil he2) he) he hpl) fun σ H R ⟨w, F, ρ, n, c, q⟩ => by
    unfold iZipG tCons
    refine tQ.go c (T.wp_bind _ _ |>.mp q) (fun _ _ h => h) fun s m q1 F1 H1 a vs s1 c1 hs r => ?_
    refine tQ.go c1 (T.wp_bind _ _ |>.mp q1) (fun _ _ h => h.back s1) fun t m2 q2 F2 H2 b us s2 c2 hs2 r2 => ?_
    have sub := s2.sub
    have kp : ∀ b o, F1 b → H1 b = some o → H2 b = some o := fun b o z e => s2.keep b o (fun y => c1.nw (y ▸ z)) e (c1.nt z e)
    have hs' := hs.up sub kp fun b o z t e => s2.keep b o (hG w b z) e
    exact ⟨sqB s, sqB t, a, b, vs, us, rfl, hs'.sk (fun _ z => z) (fun _ _ _ z => z) fun _ _ _ _ z => z, hs2.sk (fun _ z => z) (fun _ _ _ z => z) fun _ _ _ _ z => z, q2 F2 H2 _ (s1.trans s2) c2.toBase (ItOk.zip hs' (r.fz sub kp) hs2 r2)⟩
@[simp] theorem s_dZip (f g : DEnv → T Sq) (ρ : DEnv) : dZip f g ρ = (f ρ).bind fun s => (g ρ).bind fun t => .ok (zipped s.xs t.xs) := rfl
end
end
end AL
namespace AL
open PySem
noncomputable section
/-! ## numbering: known.setdefault(x, len(known)) of each -/
section
variable {α : Type} [DecidableEq α]
def addK (ks : List α) (x : α) : List α := if x ∈ ks then ks else ks ++ [x]
def allK (ks xs : List α) : List α := xs.foldl addK ks
/-- the place of a thing in a list, the list's length if it is not there -/
def plc (x : α) : List α → Nat
  | [] => 0
  | k :: r => if k = x then 0 else plc x r + 1
theorem plc_cons (x k : α) (r : List α) : plc x (k :: r) = if k = x then 0 else plc x r + 1 := rfl
def numb (xs : List α) : List Nat := xs.map fun x => plc x (allK [] xs)
theorem plc_lt {x : α} : ∀ {ks : List α}, x ∈ ks → plc x ks < ks.length
  | k :: r, h => by
    rw [plc_cons]
    by_cases e : k = x
    · rw [if_pos e]; exact Nat.succ_pos _
    · rw [if_neg e]
      have : x ∈ r := by rcases List.mem_cons.mp h with q | q; exact absurd q.symm e; exact q
      exact Nat.succ_lt_succ (plc_lt this)
theorem plc_not {x : α} : ∀ {ks : List α}, x ∉ ks → plc x ks = ks.length
  | [], _ => rfl
  | k :: r, h => by
    rw [plc_cons]
    rw [if_neg fun e => h (by rw [e]; simp), plc_not fun z => h (List.mem_cons_of_mem _ z)]
    rfl
theorem plc_app {x : α} : ∀ {ks : List α} (r : List α), x ∈ ks → plc x (ks ++ r) = plc x ks
  | k :: ks, r, h => by
    rw [List.cons_append, plc_cons, plc_cons]
    by_cases e : k = x
    · rw [if_pos e, if_pos e]
    · have : x ∈ ks := by rcases List.mem_cons.mp h with q | q; exact absurd q.symm e; exact q
      rw [if_neg e, if_neg e, plc_app r this]
theorem plc_get {x : α} : ∀ {ks : List α}, x ∈ ks → ks[plc x ks]? = some x
  | k :: r, h => by
    rw [plc_cons]
    by_cases e : k = x
    · rw [if_pos e, e]; rfl
    · rw [if_neg e]
      have : x ∈ r := by rcases List.mem_cons.mp h with q | q; exact absurd q.symm e; exact q
      rw [List.getElem?_cons_succ]
      exact plc_get this
theorem addK_mem (ks : List α) (x : α) : x ∈ addK ks x := by
  unfold addK
  by_cases h : x ∈ ks
  · rw [if_pos h]; exact h
  · rw [if_neg h]; simp
theorem addK_pre (ks : List α) (x : α) : ∃ r, addK ks x = ks ++ r := by
  unfold addK
  by_cases h : x ∈ ks
  · rw [if_pos h]; exact ⟨[], by simp⟩
  · rw [if_neg h]; exact ⟨_, rfl⟩
theorem allK_pre : ∀ (xs ks : List α), ∃ r, allK ks xs = ks ++ r
  | [], ks => ⟨[], by simp [allK]⟩
  | x :: xs, ks => by
    obtain ⟨r, e⟩ := addK_pre ks x
    obtain ⟨r2, e2⟩ := allK_pre xs (addK ks x)
    exact ⟨r ++ r2, by show allK (addK ks x) xs = _; rw [e2, e, List.append_assoc]⟩
theorem allK_cons (ks : List α) (x : α) (xs : List α) : allK ks (x :: xs) = allK (addK ks x) xs := rfl
theorem allK_mem : ∀ {xs ks : List α} {x : α}, x ∈ allK ks xs ↔ x ∈ ks ∨ x ∈ xs
  | [], ks, x => by simp [allK]
  | y :: xs, ks, x => by
    rw [allK_cons, allK_mem]
    unfold addK
    by_cases h : y ∈ ks
    · rw [if_pos h, List.mem_cons]
      constructor
      · rintro (q | q)
        · exact .inl q
        · exact .inr (.inr q)
      · rintro (q | rfl | q)
        · exact .inl q
        · exact .inl h
        · exact .inr q
    · rw [if_neg h, List.mem_append, List.mem_singleton, List.mem_cons, or_assoc]
theorem allK_len : ∀ (xs ks : List α), (allK ks xs).length ≤ ks.length + xs.length
  | [], ks => by simp [allK]
  | x :: xs, ks => by
    rw [allK_cons]
    have := allK_len xs (addK ks x)
    have : (addK ks x).length ≤ ks.length + 1 := by
      unfold addK
      by_cases h : x ∈ ks
      · rw [if_pos h]; omega
      · rw [if_neg h]; simp
    simp only [List.length_cons]
    omega
theorem addK_nodup {ks : List α} {x : α} (h : ks.Nodup) : (addK ks x).Nodup := by
  unfold addK
  by_cases e : x ∈ ks
  · rw [if_pos e]; exact h
  · rw [if_neg e]
    rw [List.nodup_append]
    refine ⟨h, by simp, fun a ha b hb => ?_⟩
    rw [List.mem_singleton.mp hb]
    exact fun q => e (q ▸ ha)
theorem allK_nodup : ∀ {xs ks : List α}, ks.Nodup → (allK ks xs).Nodup
  | [], _, h => h
  | x :: xs, ks, h => by rw [allK_cons]; exact allK_nodup (addK_nodup h)
theorem plc_inj {x y : α} {ks : List α} (hx : x ∈ ks) (hy : y ∈ ks) (h : plc x ks = plc y ks) : x = y := by
  have e1 := plc_get hx
  have e2 := plc_get hy
  rw [h] at e1
  exact Option.some.inj (e1.symm.trans e2)
theorem plc_nodup : ∀ {ks : List α} {i : Nat} {x : α}, ks.Nodup → ks[i]? = some x → plc x ks = i
  | k :: r, 0, x, _, h => by
    have : k = x := by simpa using h
    rw [plc_cons]
    rw [if_pos this]
  | k :: r, i + 1, x, n, h => by
    rw [List.getElem?_cons_succ] at h
    have hx := List.mem_of_getElem? h
    have n2 := List.nodup_cons.mp n
    rw [plc_cons, if_neg fun (e : k = x) => n2.1 (by rw [e]; exact hx), plc_nodup n2.2 h]
/-- the dict of things that were numbered -/
def dicN (e : α → D) : Nat → List α → List (D × D)
  | _, [] => []
  | n, k :: r => (e k, .int (n : Nat)) :: dicN e (n + 1) r
theorem dicN_len (e : α → D) : ∀ (ks : List α) (n : Nat), (dicN e n ks).length = ks.length
  | [], _ => rfl
  | _ :: r, n => congrArg Nat.succ (dicN_len e r (n + 1))
theorem dicN_mem (e : α → D) : ∀ {ks : List α} {n : Nat} {p : D × D}, p ∈ dicN e n ks → ∃ k ∈ ks, p.1 = e k
  | k :: r, n, p, h => by
    rcases List.mem_cons.mp h with q | q
    · exact ⟨k, by simp, by rw [q]⟩
    · obtain ⟨k', h1, h2⟩ := dicN_mem e q
      exact ⟨k', List.mem_cons_of_mem _ h1, h2⟩
theorem dicN_app (e : α → D) (x : α) : ∀ (ks : List α) (n : Nat), dicN e n (ks ++ [x]) = dicN e n ks ++ [(e x, .int ((n + ks.length : Nat) : Int))]
  | [], n => rfl
  | k :: r, n => by
    simp only [List.cons_append, dicN, dicN_app e x r (n + 1), List.length_cons]
    rw [show n + 1 + r.length = n + (r.length + 1) by omega]
/-- a way to write things as keys -/
structure KeyW (e : α → D) : Prop where
  eq : ∀ x y, (e x).keq (e y) = decide (x = y)
  ok : ∀ (ks : List α) (n : Nat) (x : α), dicOk (dicN e n ks) (e x) = true
theorem dget_N {e : α → D} (w : KeyW e) (x : α) : ∀ (ks : List α) (n : Nat), dget (dicN e n ks) (e x) = if x ∈ ks then some (.int ((n + plc x ks : Nat) : Int)) else none
  | [], n => rfl
  | k :: r, n => by
    simp only [dicN, dget_cons, w.eq, decide_eq_true_eq]
    by_cases h : k = x
    · subst h; simp [plc]
    · rw [if_neg h, dget_N w x r (n + 1)]
      by_cases h2 : x ∈ r
      · rw [if_pos h2, if_pos (List.mem_cons_of_mem _ h2)]
        rw [plc_cons]
        rw [if_neg h, show n + 1 + plc x r = n + (plc x r + 1) by omega]
      · rw [if_neg h2, if_neg fun z => by rcases List.mem_cons.mp z with q | q; exact h q.symm; exact h2 q]
def setdN (kvs : List (D × D)) (d : D) : T (D × List (D × D)) := if dicOk kvs d = true ∧ kvs.length < sizeLine then (match dget kvs d with | some x => .ok (x, kvs) | none => .ok (.int (kvs.length : Nat), dput kvs d (.int (kvs.length : Nat)))) else .fail
theorem setdN_eq {e : α → D} (w : KeyW e) (ks : List α) (x : α) (hl : ks.length < sizeLine) : setdN (dicN e 0 ks) (e x) = .ok (.int (plc x ks : Nat), dicN e 0 (addK ks x)) := by
  unfold setdN
  rw [if_pos ⟨w.ok ks 0 x, by rw [dicN_len]; exact hl⟩, dget_N w]
  unfold addK
  by_cases h : x ∈ ks
  · rw [if_pos h, if_pos h, Nat.zero_add]
  · rw [if_neg h, if_neg h, dicN_app, dicN_len, plc_not h, Nat.zero_add]
    unfold dput
    rw [dget_N w, if_neg h]
    rfl
theorem lcD_numb {e : α → D} (w : KeyW e) {i : Nat} {fb : D → DEnv → T DEnv} {fe : DEnv → T (D × List (D × D))} {vs : List Nat} {ρ0 : DEnv} (hs : ∀ (x : α) (kvs : List (D × D)), ∃ ρ1, fb (e x) (ρ0.set i (.dic kvs)) = .ok ρ1 ∧ BackTo vs i ρ1 ρ0 kvs ∧ fe ρ1 = setdN kvs (e x)) :
    ∀ (xs ks : List α), ks.length + xs.length ≤ 1000000 → lcGoD i fb fe vs ρ0 (xs.map e) (dicN e 0 ks) = .ok (xs.map fun x => .int (plc x (allK ks xs) : Nat), dicN e 0 (allK ks xs))
  | [], ks, _ => rfl
  | x :: xs, ks, hl => by
    obtain ⟨ρ1, h1, h2, h3⟩ := hs x (dicN e 0 ks)
    have hk : (addK ks x).length ≤ ks.length + 1 := by
      unfold addK
      by_cases h : x ∈ ks
      · rw [if_pos h]; omega
      · rw [if_neg h]; simp
    simp only [List.length_cons] at hl
    have ih := lcD_numb w hs xs (addK ks x) (by omega)
    have h4 := setdN_eq w ks x (szt (by omega))
    obtain ⟨r, e1⟩ := addK_pre ks x
    obtain ⟨r2, e2⟩ := allK_pre xs (addK ks x)
    have e3 : plc x (allK ks (x :: xs)) = plc x ks := by
      rw [allK_cons, e2, plc_app _ (addK_mem ks x)]
      unfold addK
      by_cases h : x ∈ ks
      · rw [if_pos h]
      · rw [if_neg h, plc_not h]
        exact plc_len h
    rw [List.map_cons, lcGoD, h1, T.nox_ok, T.bind_ok, if_pos h2, h3, h4, T.nox_ok, T.bind_ok, ih, T.bind_ok, List.map_cons, e3]
    rfl
where
  plc_len {x : α} {ks : List α} (h : x ∉ ks) : plc x (ks ++ [x]) = ks.length := by
    induction ks with
    | nil => simp [plc]
    | cons k r ih =>
      rw [List.cons_append, plc_cons, if_neg fun e => h (by rw [e]; simp), ih fun z => h (List.mem_cons_of_mem _ z)]
      rfl
end
/-! ### ints, and pairs of an int with a tuple of ints, as keys -/
theorem nD_keq (m n : Nat) : (nD m).keq (nD n) = decide (m = n) := by
  simp only [nD, keq_int]
  exact decide_eq_decide.mpr (by omega)
theorem keyW_nD : KeyW nD where
  eq := nD_keq
  ok := fun ks n x => by
    show (dicN nD n ks).all (fun p => p.1.isInt) = true
    exact List.all_eq_true.mpr fun p hp => by
      obtain ⟨k, _, e⟩ := dicN_mem nD hp
      rw [e]; rfl
def pkD (p : Nat × List Nat) : D := .tup [nD p.1, rD p.2]
theorem nks_nD : ∀ l : List Nat, D.nks (l.map nD) = some (l.map fun n : Nat => NestedKey.num (n : Int))
  | [] => rfl
  | n :: r => by simp only [List.map_cons, D.nks, nks_nD r, nD, D.nk]
theorem nk_pkD (p : Nat × List Nat) : (pkD p).nk = some (.tup [.num (p.1 : Nat), .tup (p.2.map fun n : Nat => NestedKey.num (n : Int))]) := by
  have := nks_nD p.2
  simp only [pkD, nD, rD, D.nk, D.nks] at this ⊢
  rw [this]
  rfl
theorem map_num_inj : ∀ {a b : List Nat}, (a.map fun n : Nat => NestedKey.num (n : Int)) = b.map (fun n : Nat => NestedKey.num (n : Int)) → a = b
  | [], [], _ => rfl
  | [], _ :: _, h => by cases h
  | _ :: _, [], h => by cases h
  | x :: a, y :: b, h => by
    simp only [List.map_cons, List.cons.injEq, NestedKey.num.injEq] at h
    rw [map_num_inj h.2, show x = y by omega]
theorem depth_nums : ∀ l : List Nat, NestedKey.depthAll (l.map fun n : Nat => NestedKey.num (n : Int)) = 0
  | [] => by simp [NestedKey.depthAll]
  | n :: r => by simp [NestedKey.depthAll, NestedKey.depth, depth_nums r]
theorem keyW_pkD : KeyW pkD where
  eq := fun x y => by
    unfold D.keq
    rw [nk_pkD, nk_pkD]
    refine decide_eq_decide.mpr ⟨fun h => ?_, fun h => by rw [h]⟩
    simp only [Option.some.injEq, NestedKey.tup.injEq, List.cons.injEq, NestedKey.num.injEq, and_true] at h
    obtain ⟨h1, h2⟩ := h
    exact Prod.ext (show x.1 = y.1 by omega) (map_num_inj h2)
  ok := fun ks n x => by
    have e : (match (pkD x).nk with | some q => decide (q.depth ≤ 8) | none => false) = true := by
      rw [nk_pkD]
      simp [NestedKey.depth, NestedKey.depthAll, depth_nums]
    have e2 : (dicN pkD n ks).all (fun p => p.1.isTup) = true := List.all_eq_true.mpr fun p hp => by
      obtain ⟨k, _, e⟩ := dicN_mem pkD hp
      rw [e]; rfl
    show (_ && _) = true
    rw [e2, Bool.and_true]
    exact e
end
end AL
namespace AL
open PySem
noncomputable section
/-! ## kinds of states: equal numbers for states with equal marks behind all logs -/
def kindsW : DEnv → T Fl :=
  (gSeq (gPar 5 2 (dSh (dKlen 2)) dNewD)
  (gSeq (gSetN 6 (dLc (dZip (dSqV 3) (dSqV 0)) (bTup 2 (bCons (bName 8) (bCons (bName 9) bNil))) dYes (dTup (dCons (dV 8) (dCons (dTupOf (dSqN (dLc (dItems (dSqV 9)) (bName 7) dYes (dIx (dSqV 3) (dV 7)) [7]))) dNil))) [8, 9]))
  (gSeq (gFreeze 6 (gSetE 3 2 (dLcD 2 (dItems (dSq (dV 6))) (bName 10) (dKsetd 2 (dV 10) (dKlen 2)) [10])))
  (gIf (dT (dB opEq (dKlen 2) (dV 5)))
  (gRet (dV 3))
  gNil))))
def kindsG (n : Nat) : DEnv → T Fl :=
  (gSeq (gSetM 2 dNewD)
  (gSeq (gSetE 3 2 (dLcD 2 (dItems (dSq (dV 1))) (bName 4) (dKsetd 2 (dV 4) (dKlen 2)) [4]))
  (gWhile n (dT (dC (.bl true))) kindsW)))
def nth (l : List Nat) (i : Nat) : Nat := l.getD i 0
theorem nth_get {l : List Nat} {i : Nat} (h : i < l.length) : l[i]? = some (nth l i) := by
  unfold nth
  rw [List.getD_eq_getElem?_getD, List.getElem?_eq_getElem h]
  rfl
def keysOf (kinds : List Nat) (mv : List (List Nat)) : List (Nat × List Nat) := (kinds.zip mv).map fun p => (p.1, p.2.map (nth kinds))
def cnt {α : Type} [DecidableEq α] (xs : List α) : Nat := (allK [] xs).length
def kloop (mv : List (List Nat)) : Nat → List Nat → Nat → List Nat
  | 0, kinds, _ => kinds
  | n + 1, kinds, many => if cnt (keysOf kinds mv) = many then numb (keysOf kinds mv) else kloop mv n (numb (keysOf kinds mv)) (cnt (keysOf kinds mv))
/-- moves of states: rows of states -/
structure Mvs (mv : List (List Nat)) : Prop where
  row : ∀ r ∈ mv, ∀ x ∈ r, x < mv.length
  len : mv.length ≤ 1000
  wid : ∀ r ∈ mv, r.length ≤ 1000
/-- a sequence, a list or a tuple -/
def IsSq (d : D) (xs : List D) : Prop := d = .tup xs ∨ d = .lst xs
theorem numb_len {α : Type} [DecidableEq α] (xs : List α) : (numb xs).length = xs.length := by unfold numb; rw [List.length_map]
theorem keysOf_len {kinds : List Nat} {mv : List (List Nat)} (h : kinds.length = mv.length) : (keysOf kinds mv).length = mv.length := by
  unfold keysOf
  rw [List.length_map, List.length_zip]
  omega
theorem zipped_map : ∀ (kinds : List Nat) (mv : List (List Nat)), zipped (kinds.map nD) (mv.map rD) = (kinds.zip mv).map fun p => .tup [nD p.1, rD p.2]
  | [], mv => by simp [zipped]
  | k :: kinds, [] => by simp [zipped]
  | k :: kinds, r :: mv => by simp [zipped, zipped_map kinds mv]
theorem setdN_dK {ρ : DEnv} {i j : Nat} {kvs : List (D × D)} {d : D} (h : ρ[i]? = some (.dic kvs)) (h2 : ρ[j]? = some (.sh d)) : dKsetd i (dV j) (dKlen i) ρ = setdN kvs d := by
  have e : dV j ρ = .ok d := by simp [h2]
  have e2 : dKlen i ρ = .ok (.int (kvs.length : Nat)) := by rw [s_dKlen, h]
  rw [s_dKsetd, h, e]
  dsimp only
  rw [T.bind_ok, e2, T.bind_ok]
  rfl
section
variable {mv : List (List Nat)}
theorem kinds_keys (m : Mvs mv) {dm dk : D} {kinds : List Nat} (hd : IsSq dm (mv.map rD)) (hk : dk = .lst (kinds.map nD)) (hl : kinds.length = mv.length) (s2 s4 s5 s6 s10 : AL.Slot) :
    dLc (dZip (dSqV 3) (dSqV 0)) (bTup 2 (bCons (bName 8) (bCons (bName 9) bNil))) dYes (dTup (dCons (dV 8) (dCons (dTupOf (dSqN (dLc (dItems (dSqV 9)) (bName 7) dYes (dIx (dSqV 3) (dV 7)) [7]))) dNil))) [8, 9] [.sh dm, s1, s2, .sh dk, s4, s5, s6, .no, .no, .no, s10] = .ok ((keysOf kinds mv).map pkD) := by
  subst hk
  have hz : dZip (dSqV 3) (dSqV 0) [.sh dm, s1, s2, .sh (.lst (kinds.map nD)), s4, s5, s6, .no, .no, .no, s10] = .ok ((kinds.zip mv).map fun p => .tup [nD p.1, rD p.2]) := by
    rw [← zipped_map]
    rcases hd with h | h <;> subst h <;> simp [Sq.xs]
  have hL := lc_map (fb := bTup 2 (bCons (bName 8) (bCons (bName 9) bNil))) (fe := dTup (dCons (dV 8) (dCons (dTupOf (dSqN (dLc (dItems (dSqV 9)) (bName 7) dYes (dIx (dSqV 3) (dV 7)) [7]))) dNil)))
    (ρ := [.sh dm, s1, s2, .sh (.lst (kinds.map nD)), s4, s5, s6, .no, .no, .no, s10]) (g := fun d => match d with | .tup [.int k, .tup r] => .tup [.int k, .tup (r.map fun s => match s with | .int i => nD (nth kinds i.toNat) | _ => .non)] | _ => .non)
    (xs := (kinds.zip mv).map fun p => .tup [nD p.1, rD p.2]) fun x hx => by
    obtain ⟨⟨k, r⟩, hp, rfl⟩ := List.mem_map.mp hx
    have hr := (List.of_mem_zip hp).2
    have hi := lc_map (fb := bName 7) (fe := dIx (dSqV 3) (dV 7)) (ρ := [.sh dm, s1, s2, .sh (.lst (kinds.map nD)), s4, s5, s6, .no, .sh (nD k), .sh (rD r), s10]) (g := fun s => match s with | .int i => nD (nth kinds i.toNat) | _ => .non) (xs := r.map nD) fun y hy => by
      obtain ⟨s, hs, rfl⟩ := List.mem_map.mp hy
      have := m.row r hr s hs
      have e : opIx (.l (kinds.map nD)) (.int (s : Nat)) = .ok (nD (nth kinds s)) := opIx_l (i := s) (by rw [List.getElem?_map, nth_get (by omega)]; rfl)
      exact ⟨_, rfl, by simp [nD, e]⟩
    have hw := m.wid r hr
    have z : r.length ≤ sizeLine := szl (by omega)
    refine ⟨_, rfl, ?_⟩
    simp only [rD, nD] at hi
    simp [rD, nD, Sq.xs, dWipe, hi, z]
  have z : (kinds.zip mv).length ≤ sizeLine := szl (by rw [List.length_zip]; have := m.len; omega)
  rw [s_dLc, hz, T.bind_ok, List.length_map, if_pos z]
  have ew : dWipe [.sh dm, s1, s2, .sh (.lst (kinds.map nD)), s4, s5, s6, .no, .no, .no, s10] [8, 9] = [.sh dm, s1, s2, .sh (.lst (kinds.map nD)), s4, s5, s6, .no, .no, .no, s10] := rfl
  rw [ew, hL]
  unfold keysOf
  rw [List.map_map, List.map_map]
  congr 1
  refine List.map_congr_left fun p hp => ?_
  simp [pkD, nD, rD]
theorem kinds_turn (m : Mvs mv) {dm : D} {kinds : List Nat} (hd : IsSq dm (mv.map rD)) (hl : kinds.length = mv.length) (kvs : List (D × D)) (s5 s6 : AL.Slot) :
    kindsW [.sh dm, s1, .dic kvs, .sh (.lst (kinds.map nD)), .no, s5, s6, .no, .no, .no, .no] =
      if cnt (keysOf kinds mv) = kvs.length then .ok (.rt (.lst ((numb (keysOf kinds mv)).map nD)))
      else .ok (.nx [.sh dm, s1, .dic (dicN pkD 0 (allK [] (keysOf kinds mv))), .sh (.lst ((numb (keysOf kinds mv)).map nD)), .no, .sh (nD kvs.length), .sh (.lst ((keysOf kinds mv).map pkD)), .no, .no, .no, .no]) := by
  have h1 := kinds_keys (s1 := s1) m hd rfl hl (.dic []) .no (.sh (nD kvs.length)) s6 .no
  have h2 := lcD_numb keyW_pkD (i := 2) (fb := bName 10) (fe := dKsetd 2 (dV 10) (dKlen 2)) (vs := [10]) (ρ0 := [.sh dm, s1, .dic [], .sh (.lst (kinds.map nD)), .no, .sh (nD kvs.length), .sh (.lst ((keysOf kinds mv).map pkD)), .no, .no, .no, .no])
    (fun x kvs2 => ⟨[.sh dm, s1, .dic kvs2, .sh (.lst (kinds.map nD)), .no, .sh (nD kvs.length), .sh (.lst ((keysOf kinds mv).map pkD)), .no, .no, .no, .sh (pkD x)], rfl, ⟨rfl, rfl⟩, setdN_dK rfl rfl⟩) (keysOf kinds mv) [] (by rw [keysOf_len hl]; have := m.len; simp; omega)
  have z : (keysOf kinds mv).length ≤ sizeLine := szl (by rw [keysOf_len hl]; have := m.len; omega)
  have hok : LcOk [10] 2 [.sh dm, s1, .dic [], .sh (.lst (kinds.map nD)), .no, .sh (nD kvs.length), .sh (.lst ((keysOf kinds mv).map pkD)), .no, .no, .no, .no] ((keysOf kinds mv).map pkD) := ⟨by decide, by rw [List.length_map]; exact z, fun j s hj hs => by
    rw [List.mem_singleton.mp hj] at hs
    cases hs
    rfl⟩
  have h3 : dLcD 2 (dItems (dSq (dV 6))) (bName 10) (dKsetd 2 (dV 10) (dKlen 2)) [10] [.sh dm, s1, .dic [], .sh (.lst (kinds.map nD)), .no, .sh (nD kvs.length), .sh (.lst ((keysOf kinds mv).map pkD)), .no, .no, .no, .no] = .ok (.lst ((numb (keysOf kinds mv)).map nD), dicN pkD 0 (allK [] (keysOf kinds mv))) := by
    have e : dItems (dSq (dV 6)) [.sh dm, s1, .dic [], .sh (.lst (kinds.map nD)), .no, .sh (nD kvs.length), .sh (.lst ((keysOf kinds mv).map pkD)), .no, .no, .no, .no] = .ok ((keysOf kinds mv).map pkD) := by simp [Sq.xs]
    unfold dLcD
    show (dItems (dSq (dV 6)) _).bind _ = _
    rw [e, T.bind_ok, if_pos hok]
    have ew : dWipe [.sh dm, s1, .dic [], .sh (.lst (kinds.map nD)), .no, .sh (nD kvs.length), .sh (.lst ((keysOf kinds mv).map pkD)), .no, .no, .no, .no] [10] = [.sh dm, s1, .dic [], .sh (.lst (kinds.map nD)), .no, .sh (nD kvs.length), .sh (.lst ((keysOf kinds mv).map pkD)), .no, .no, .no, .no] := rfl
    rw [ew]
    have h2' : lcGoD 2 (bName 10) (dKsetd 2 (dV 10) (dKlen 2)) [10] [.sh dm, s1, .dic [], .sh (.lst (kinds.map nD)), .no, .sh (nD kvs.length), .sh (.lst ((keysOf kinds mv).map pkD)), .no, .no, .no, .no] ((keysOf kinds mv).map pkD) [] = _ := h2
    rw [h2', T.bind_ok]
    unfold numb
    rw [List.map_map]
    rfl
  unfold kindsW
  have hc : (dicN pkD 0 (allK [] (keysOf kinds mv))).length = cnt (keysOf kinds mv) := dicN_len _ _ _
  have e0 : gPar 5 2 (dSh (dKlen 2)) dNewD [.sh dm, s1, .dic kvs, .sh (.lst (kinds.map nD)), .no, s5, s6, .no, .no, .no, .no] = .ok (.nx [.sh dm, s1, .dic [], .sh (.lst (kinds.map nD)), .no, .sh (nD kvs.length), s6, .no, .no, .no, .no]) := by simp [nD]
  rw [s_gSeq, e0, T.bind_ok]
  dsimp only
  rw [s_gSeq, s_gSetN, h1, T.ex_ok, T.bind_ok]
  dsimp only
  rw [s_gSeq, s_gFreeze]
  have ef : dFreeze 6 (List.set [.sh dm, s1, .dic [], .sh (.lst (kinds.map nD)), .no, .sh (nD kvs.length), s6, .no, .no, .no, .no] 6 (.own ((keysOf kinds mv).map pkD))) = [.sh dm, s1, .dic [], .sh (.lst (kinds.map nD)), .no, .sh (nD kvs.length), .sh (.lst ((keysOf kinds mv).map pkD)), .no, .no, .no, .no] := rfl
  rw [ef, s_gSetE]
  dsimp only [List.getElem?_cons_succ, List.getElem?_cons_zero]
  rw [h3, T.ex_ok, T.bind_ok]
  dsimp only [List.set]
  by_cases h : cnt (keysOf kinds mv) = kvs.length
  · rw [if_pos h]
    simp [nD, hc, h]
  · rw [if_neg h]
    have h' : ¬ ((cnt (keysOf kinds mv) : Int) = (kvs.length : Int)) := by omega
    simp [nD, hc, h']
end
end
end AL
namespace AL
open PySem
noncomputable section
/-! ## the loop of the kinds ends -/
theorem sub_len {α : Type} [DecidableEq α] : ∀ {xs ys : List α}, xs.Nodup → (∀ x ∈ xs, x ∈ ys) → xs.length ≤ ys.length
  | [], ys, _, _ => Nat.zero_le _
  | x :: xs, ys, n, h => by
    have n2 := List.nodup_cons.mp n
    have hx := h x (by simp)
    have := sub_len (xs := xs) (ys := ys.erase x) n2.2 fun y hy => (List.mem_erase_of_ne fun (e : y = x) => n2.1 (by rw [← e]; exact hy)).mpr (h y (by simp [hy]))
    rw [List.length_erase_of_mem hx] at this
    have := List.length_pos_of_mem hx
    simp only [List.length_cons]
    omega
theorem cnt_le {α : Type} [DecidableEq α] (xs : List α) : cnt xs ≤ xs.length := by
  have := allK_len xs []
  simpa [cnt] using this
theorem numb_lt {α : Type} [DecidableEq α] {xs : List α} {j : Nat} (h : j ∈ numb xs) : j < cnt xs := by
  obtain ⟨x, hx, rfl⟩ := List.mem_map.mp h
  exact plc_lt (allK_mem.mpr (.inr hx))
theorem numb_all {α : Type} [DecidableEq α] {xs : List α} {j : Nat} (h : j < cnt xs) : j ∈ numb xs := by
  have e : (allK [] xs)[j]? = some (allK [] xs)[j] := List.getElem?_eq_getElem h
  have hm := allK_mem.mp (List.mem_of_getElem? e)
  refine List.mem_map.mpr ⟨(allK [] xs)[j], ?_, plc_nodup (allK_nodup (by simp)) e⟩
  rcases hm with q | q
  · cases q
  · exact q
theorem numb_eq {α : Type} [DecidableEq α] {xs : List α} {i j : Nat} {x y : α} (h1 : xs[i]? = some x) (h2 : xs[j]? = some y) : nth (numb xs) i = nth (numb xs) j ↔ x = y := by
  have e1 : nth (numb xs) i = plc x (allK [] xs) := by unfold nth numb; rw [List.getD_eq_getElem?_getD, List.getElem?_map, h1]; rfl
  have e2 : nth (numb xs) j = plc y (allK [] xs) := by unfold nth numb; rw [List.getD_eq_getElem?_getD, List.getElem?_map, h2]; rfl
  rw [e1, e2]
  exact ⟨fun h => plc_inj (allK_mem.mpr (.inr (List.mem_of_getElem? h1))) (allK_mem.mpr (.inr (List.mem_of_getElem? h2))) h, fun h => by rw [h]⟩
/-- kinds that are numbered: all of 0 .. many - 1 -/
structure Nbd (mv : List (List Nat)) (kinds : List Nat) (many : Nat) : Prop where
  len : kinds.length = mv.length
  lt : ∀ k ∈ kinds, k < many
  all : ∀ j, j < many → j ∈ kinds
theorem Nbd.le {mv : List (List Nat)} {kinds : List Nat} {many : Nat} (h : Nbd mv kinds many) : many ≤ mv.length := by
  have := sub_len (xs := List.range many) (ys := kinds) List.nodup_range fun x hx => h.all x (List.mem_range.mp hx)
  rw [List.length_range, h.len] at this
  exact this
theorem nbd_numb {α : Type} [DecidableEq α] {mv : List (List Nat)} {xs : List α} (h : xs.length = mv.length) : Nbd mv (numb xs) (cnt xs) :=
  ⟨by rw [numb_len, h], fun _ => numb_lt, fun _ => numb_all⟩
theorem keysOf_get {kinds : List Nat} {mv : List (List Nat)} {i : Nat} {r : List Nat} (hl : kinds.length = mv.length) (h : mv[i]? = some r) : (keysOf kinds mv)[i]? = some (nth kinds i, r.map (nth kinds)) := by
  unfold keysOf
  have hi := (List.getElem?_eq_some_iff.mp h).1
  rw [List.getElem?_map, List.getElem?_zip_eq_some (z := (nth kinds i, r)) |>.mpr ⟨nth_get (by omega), h⟩]
  rfl
theorem Nbd.fst {mv : List (List Nat)} {kinds : List Nat} {many : Nat} (h : Nbd mv kinds many) : ∀ j, j < many → j ∈ (allK [] (keysOf kinds mv)).map (·.1) := fun j hj => by
  obtain ⟨i, hi, e⟩ := List.mem_iff_getElem.mp (h.all j hj)
  have hm : i < mv.length := by rw [← h.len]; exact hi
  have hk := keysOf_get h.len (List.getElem?_eq_getElem hm)
  have ej : nth kinds i = j := by
    have := nth_get hi
    rw [List.getElem?_eq_getElem hi, e] at this
    exact (Option.some.inj this).symm
  exact List.mem_map.mpr ⟨_, allK_mem.mpr (.inr (List.mem_of_getElem? hk)), ej⟩
theorem Nbd.mono {mv : List (List Nat)} {kinds : List Nat} {many : Nat} (h : Nbd mv kinds many) : many ≤ cnt (keysOf kinds mv) := by
  have := sub_len (xs := List.range many) (ys := (allK [] (keysOf kinds mv)).map (·.1)) List.nodup_range fun x hx => h.fst x (List.mem_range.mp hx)
  rw [List.length_range, List.length_map] at this
  exact this
theorem Nbd.next {mv : List (List Nat)} {kinds : List Nat} {many : Nat} (h : Nbd mv kinds many) : Nbd mv (numb (keysOf kinds mv)) (cnt (keysOf kinds mv)) := nbd_numb (keysOf_len h.len)
theorem kloop_nbd {mv : List (List Nat)} : ∀ {n : Nat} {kinds : List Nat} {many : Nat}, Nbd mv kinds many → ∃ m, Nbd mv (kloop mv n kinds many) m
  | 0, _, _, h => ⟨_, h⟩
  | n + 1, kinds, many, h => by
    unfold kloop
    by_cases e : cnt (keysOf kinds mv) = many
    · rw [if_pos e]; exact ⟨_, h.next⟩
    · rw [if_neg e]; exact kloop_nbd h.next
theorem kinds_loop {mv : List (List Nat)} (m : Mvs mv) {dm : D} {s1 : AL.Slot} (hd : IsSq dm (mv.map rD)) : ∀ (n : Nat) (kinds : List Nat) (kvs : List (D × D)) (s5 s6 : AL.Slot), Nbd mv kinds kvs.length → mv.length < n + kvs.length →
    whileGo (dT (dC (.bl true))) kindsW n [.sh dm, s1, .dic kvs, .sh (.lst (kinds.map nD)), .no, s5, s6, .no, .no, .no, .no] = .ok (.rt (.lst ((kloop mv n kinds kvs.length).map nD)))
  | 0, kinds, kvs, s5, s6, h, hn => by
    have := h.le
    omega
  | n + 1, kinds, kvs, s5, s6, h, hn => by
    have h1 := kinds_turn (s1 := s1) m hd h.len kvs s5 s6
    have ht : dT (dC (.bl true)) [.sh dm, s1, .dic kvs, .sh (.lst (kinds.map nD)), .no, s5, s6, .no, .no, .no, .no] = .ok true := by simp
    rw [whileGo, ht, T.ex_ok, if_pos rfl, h1]
    unfold kloop
    by_cases e : cnt (keysOf kinds mv) = kvs.length
    · rw [if_pos e, if_pos e, T.bind_ok]
    · rw [if_neg e, if_neg e, T.bind_ok]
      have hc : (dicN pkD 0 (allK [] (keysOf kinds mv))).length = cnt (keysOf kinds mv) := dicN_len _ _ _
      have hm := h.mono
      have ih := kinds_loop (s1 := s1) m hd n (numb (keysOf kinds mv)) (dicN pkD 0 (allK [] (keysOf kinds mv))) (.sh (nD kvs.length)) (.sh (.lst ((keysOf kinds mv).map pkD))) (by rw [hc]; exact h.next) (by rw [hc]; omega)
      rw [hc] at ih
      exact ih
/-- what kinds_of tells -/
def kindsOf {α : Type} [DecidableEq α] (n : Nat) (mv : List (List Nat)) (xs : List α) : List Nat := kloop mv n (numb xs) (cnt xs)
theorem kinds_eq {α : Type} [DecidableEq α] {e : α → D} (w : KeyW e) {mv : List (List Nat)} (m : Mvs mv) {dm dx : D} {xs : List α} (hd : IsSq dm (mv.map rD)) (hx : IsSq dx (xs.map e)) (hl : xs.length = mv.length) {n : Nat} (hn : mv.length < n) :
    bodyT 11 (kindsG n) [dm, dx] = .ok (.lst ((kindsOf n mv xs).map nD)) := by
  have h2 := lcD_numb w (i := 2) (fb := bName 4) (fe := dKsetd 2 (dV 4) (dKlen 2)) (vs := [4]) (ρ0 := [.sh dm, .sh dx, .dic [], .no, .no, .no, .no, .no, .no, .no, .no])
    (fun x kvs2 => ⟨[.sh dm, .sh dx, .dic kvs2, .no, .sh (e x), .no, .no, .no, .no, .no, .no], rfl, ⟨rfl, rfl⟩, setdN_dK rfl rfl⟩) xs [] (by rw [hl]; have := m.len; simp; omega)
  have z : xs.length ≤ sizeLine := szl (by rw [hl]; have := m.len; omega)
  have hok : LcOk [4] 2 [.sh dm, .sh dx, .dic [], .no, .no, .no, .no, .no, .no, .no, .no] (xs.map e) := ⟨by decide, by rw [List.length_map]; exact z, fun j s hj hs => by
    rw [List.mem_singleton.mp hj] at hs
    cases hs
    rfl⟩
  have h3 : dLcD 2 (dItems (dSq (dV 1))) (bName 4) (dKsetd 2 (dV 4) (dKlen 2)) [4] [.sh dm, .sh dx, .dic [], .no, .no, .no, .no, .no, .no, .no, .no] = .ok (.lst ((numb xs).map nD), dicN e 0 (allK [] xs)) := by
    have e1 : dItems (dSq (dV 1)) [.sh dm, .sh dx, .dic [], .no, .no, .no, .no, .no, .no, .no, .no] = .ok (xs.map e) := by rcases hx with h | h <;> subst h <;> simp [Sq.xs]
    unfold dLcD
    show (dItems (dSq (dV 1)) _).bind _ = _
    rw [e1, T.bind_ok, if_pos hok]
    have ew : dWipe [.sh dm, .sh dx, .dic [], .no, .no, .no, .no, .no, .no, .no, .no] [4] = [.sh dm, .sh dx, .dic [], .no, .no, .no, .no, .no, .no, .no, .no] := rfl
    rw [ew]
    have h2' : lcGoD 2 (bName 4) (dKsetd 2 (dV 4) (dKlen 2)) [4] [.sh dm, .sh dx, .dic [], .no, .no, .no, .no, .no, .no, .no, .no] (xs.map e) [] = _ := h2
    rw [h2', T.bind_ok]
    unfold numb
    rw [List.map_map]
    rfl
  have hc : (dicN e 0 (allK [] xs)).length = cnt xs := dicN_len _ _ _
  have hw := kinds_loop m (dm := dm) (s1 := .sh dx) hd n (numb xs) (dicN e 0 (allK [] xs)) .no .no (by rw [hc]; exact nbd_numb hl) (by omega)
  rw [hc] at hw
  have hb : kindsG n [.sh dm, .sh dx, .no, .no, .no, .no, .no, .no, .no, .no, .no] = .ok (.rt (.lst ((kindsOf n mv xs).map nD))) := by
    unfold kindsG
    have e0 : gSetM 2 dNewD [.sh dm, .sh dx, .no, .no, .no, .no, .no, .no, .no, .no, .no] = .ok (.nx [.sh dm, .sh dx, .dic [], .no, .no, .no, .no, .no, .no, .no, .no]) := by simp
    rw [s_gSeq, e0, T.bind_ok]
    dsimp only
    rw [s_gSeq, s_gSetE]
    dsimp only [List.getElem?_cons_succ, List.getElem?_cons_zero]
    rw [h3, T.ex_ok, T.bind_ok]
    dsimp only [List.set]
    exact hw
  have hb' : kindsG n (env0 11 [dm, dx]) = _ := hb
  rw [bodyT_eq, hb', T.nox_ok, T.bind_ok]
end
end AL
namespace AL
open PySem
noncomputable section
/-! ## spread: the kinds that are come to, by first logs -/
def spreadB : DEnv → T Fl := (gSeq (gIf (dT (dKin false 3 (dIx (dSqV 0) (dV 6))))
  (gSeq (gKput 3 (dIx (dSqV 0) (dV 6)) (dLen (dSqV 2)))
  (gAppend 2 (dV 6)))
  gNil)
  (gAppend 5 (dKget 3 (dIx (dSqV 0) (dV 6)))))
def spreadW : DEnv → T Fl :=
  (gSeq (gSetN 5 (dLst dNil))
  (gSeq (gFor (dItems (dSq (dIx (dSqV 1) (dIx (dSqV 2) (dLen (dSqV 4)))))) (bName 6) spreadB)
  (gAppend 4 (dTupOf (dSqV 5)))))
def spreadT : DEnv → T Bool := (dT (dB opLt (dLen (dSqV 4)) (dLen (dSqV 2))))
def spreadG (n : Nat) : DEnv → T Fl :=
  (gSeq (gPar3 2 3 4 (dOwn (dLst (dCons (dC (.int 0)) dNil))) (dDispI (dIx (dSqV 0) (dC (.int 0))) (dC (.int 0))) (dOwn (dLst dNil)))
  (gSeq (gWhile n spreadT spreadW)
  (gFreeze 4 (gFreeze 2 (gRet (dTup (dCons (dV 2) (dCons (dV 4) dNil))))))))
def rowAt (mv : List (List Nat)) (s : Nat) : List Nat := mv.getD s []
theorem rowAt_get {mv : List (List Nat)} {s : Nat} (h : s < mv.length) : mv[s]? = some (rowAt mv s) ∧ rowAt mv s ∈ mv := by
  unfold rowAt
  rw [List.getD_eq_getElem?_getD, List.getElem?_eq_getElem h]
  exact ⟨rfl, List.getElem_mem h⟩
section
variable (R : List Nat)
def kin (ord : List Nat) : List Nat := ord.map (nth R)
def addBy (ord : List Nat) (t : Nat) : List Nat := if nth R t ∈ kin R ord then ord else ord ++ [t]
def allBy (ord ts : List Nat) : List Nat := ts.foldl (addBy R) ord
def rowOf (ord ts : List Nat) : List Nat := ts.map fun t => plc (nth R t) (kin R ord)
def spr (mv : List (List Nat)) : Nat → List Nat → List (List Nat) → List Nat × List (List Nat)
  | 0, ord, rows => (ord, rows)
  | n + 1, ord, rows => if rows.length < ord.length then
      spr mv n (allBy R ord (rowAt mv (nth ord rows.length))) (rows ++ [rowOf R (allBy R ord (rowAt mv (nth ord rows.length))) (rowAt mv (nth ord rows.length))])
    else (ord, rows)
end
section
variable {R : List Nat}
theorem addBy_kin (ord : List Nat) (t : Nat) : kin R (addBy R ord t) = addK (kin R ord) (nth R t) := by
  unfold addBy addK
  by_cases h : nth R t ∈ kin R ord
  · rw [if_pos h, if_pos h]
  · rw [if_neg h, if_neg h]
    unfold kin
    rw [List.map_append]
    rfl
theorem allBy_snoc (ord ts : List Nat) (t : Nat) : allBy R ord (ts ++ [t]) = addBy R (allBy R ord ts) t := by
  unfold allBy
  rw [List.foldl_append]
  rfl
theorem addBy_pre (ord : List Nat) (t : Nat) : ∃ r, addBy R ord t = ord ++ r := by
  unfold addBy
  by_cases h : nth R t ∈ kin R ord
  · rw [if_pos h]; exact ⟨[], by simp⟩
  · rw [if_neg h]; exact ⟨_, rfl⟩
theorem allBy_pre : ∀ (ts ord : List Nat), ∃ r, allBy R ord ts = ord ++ r
  | [], ord => ⟨[], by simp [allBy]⟩
  | t :: ts, ord => by
    obtain ⟨r, e⟩ := addBy_pre (R := R) ord t
    obtain ⟨r2, e2⟩ := allBy_pre ts (addBy R ord t)
    exact ⟨r ++ r2, by show allBy R (addBy R ord t) ts = _; rw [e2, e, List.append_assoc]⟩
theorem allBy_mem : ∀ {ts ord : List Nat} {x : Nat}, x ∈ allBy R ord ts → x ∈ ord ∨ x ∈ ts
  | [], _, _, h => .inl h
  | t :: ts, ord, x, h => by
    rcases allBy_mem (show x ∈ allBy R (addBy R ord t) ts from h) with q | q
    · unfold addBy at q
      by_cases e : nth R t ∈ kin R ord
      · rw [if_pos e] at q; exact .inl q
      · rw [if_neg e] at q
        rcases List.mem_append.mp q with z | z
        · exact .inl z
        · exact .inr (by rw [List.mem_singleton.mp z]; simp)
    · exact .inr (by simp [q])
theorem kin_app (a b : List Nat) : kin R (a ++ b) = kin R a ++ kin R b := List.map_append
theorem kin_mem_all : ∀ {ts ord : List Nat} {t : Nat}, t ∈ ts → nth R t ∈ kin R (allBy R ord ts)
  | s :: ts, ord, t, h => by
    show nth R t ∈ kin R (allBy R (addBy R ord s) ts)
    rcases List.mem_cons.mp h with q | q
    · subst q
      obtain ⟨r, e⟩ := allBy_pre (R := R) ts (addBy R ord t)
      rw [e, kin_app, addBy_kin]
      exact List.mem_append.mpr (.inl (addK_mem _ _))
    · exact kin_mem_all q
theorem rowOf_pre {ord r ts : List Nat} (h : ∀ t ∈ ts, nth R t ∈ kin R ord) : rowOf R (ord ++ r) ts = rowOf R ord ts := by
  unfold rowOf
  refine List.map_congr_left fun t ht => ?_
  rw [kin_app, plc_app _ (h t ht)]
theorem rowOf_snoc (ord ts : List Nat) (t : Nat) : rowOf R (allBy R ord (ts ++ [t])) (ts ++ [t]) = rowOf R (allBy R ord ts) ts ++ [plc (nth R t) (kin R (addBy R (allBy R ord ts) t))] := by
  rw [allBy_snoc]
  obtain ⟨r, e⟩ := addBy_pre (R := R) (allBy R ord ts) t
  have h := rowOf_pre (R := R) (ord := allBy R ord ts) (r := r) (ts := ts) fun t ht => kin_mem_all ht
  rw [← e] at h
  show rowOf R (addBy R (allBy R ord ts) t) (ts ++ [t]) = _
  unfold rowOf at h ⊢
  rw [List.map_append, h]
  rfl
/-- how an order stands -/
structure Ord (R : List Nat) (S : Nat) (ord : List Nat) : Prop where
  nd : (kin R ord).Nodup
  lt : ∀ s ∈ ord, s < S
theorem Ord.add {S : Nat} {ord : List Nat} {t : Nat} (o : Ord R S ord) (h : t < S) : Ord R S (addBy R ord t) where
  nd := by rw [addBy_kin]; exact addK_nodup o.nd
  lt := fun s hs => by
    unfold addBy at hs
    by_cases e : nth R t ∈ kin R ord
    · rw [if_pos e] at hs; exact o.lt s hs
    · rw [if_neg e] at hs
      rcases List.mem_append.mp hs with z | z
      · exact o.lt s z
      · rw [List.mem_singleton.mp z]; exact h
theorem Ord.all {S : Nat} : ∀ {ts ord : List Nat}, Ord R S ord → (∀ t ∈ ts, t < S) → Ord R S (allBy R ord ts)
  | [], _, o, _ => o
  | t :: ts, ord, o, h => Ord.all (ts := ts) (o.add (h t (by simp))) fun x hx => h x (by simp [hx])
theorem nodup_of_map {α β : Type} (f : α → β) : ∀ {xs : List α}, (xs.map f).Nodup → xs.Nodup
  | [], _ => by simp
  | x :: xs, h => by
    rw [List.map_cons, List.nodup_cons] at h
    exact List.nodup_cons.mpr ⟨fun z => h.1 (List.mem_map.mpr ⟨x, z, rfl⟩), nodup_of_map f h.2⟩
theorem Ord.len {S : Nat} {ord : List Nat} (o : Ord R S ord) : ord.length ≤ S := by
  have := sub_len (xs := ord) (ys := List.range S) (nodup_of_map _ o.nd) fun x hx => List.mem_range.mpr (o.lt x hx)
  rwa [List.length_range] at this
theorem kin_len (ord : List Nat) : (kin R ord).length = ord.length := List.length_map _
theorem spread_in {mv : List (List Nat)} {dm : D} {S : Nat} (hS : S ≤ 1000) (hR : R.length = S) {ord : List Nat} (o : Ord R S ord) {rows : List D} {ts : List Nat} (ht : ∀ t ∈ ts, t < S) (hl : ts.length ≤ 1000) (s6 : AL.Slot) :
    ∃ t6, forGo (bName 6) spreadB (ts.map nD) [.sh (.lst (R.map nD)), .sh dm, .own (ord.map nD), .dic (dicN nD 0 (kin R ord)), .own rows, .own [], s6] =
      .ok (.nx [.sh (.lst (R.map nD)), .sh dm, .own ((allBy R ord ts).map nD), .dic (dicN nD 0 (kin R (allBy R ord ts))), .own rows, .own ((rowOf R (allBy R ord ts) ts).map nD), t6]) := by
  obtain ⟨ρ1, h1, t6, rfl⟩ := for_steps (fb := bName 6) (g := spreadB)
    (fun i ρ => ∃ t6, ρ = [.sh (.lst (R.map nD)), .sh dm, .own ((allBy R ord (ts.take i)).map nD), .dic (dicN nD 0 (kin R (allBy R ord (ts.take i)))), .own rows, .own ((rowOf R (allBy R ord (ts.take i)) (ts.take i)).map nD), t6])
    (xs := ts.map nD) (ρ := [.sh (.lst (R.map nD)), .sh dm, .own (ord.map nD), .dic (dicN nD 0 (kin R ord)), .own rows, .own [], s6]) ⟨_, rfl⟩ fun i x ρ hx hI => by
    obtain ⟨t6, rfl⟩ := hI
    rw [List.getElem?_map] at hx
    obtain ⟨t, hti, rfl⟩ : ∃ t, ts[i]? = some t ∧ x = nD t := by
      cases e : ts[i]? with
      | none => rw [e] at hx; cases hx
      | some t => rw [e] at hx; exact ⟨t, rfl, (Option.some.inj hx).symm⟩
    have hts := ht t (List.mem_of_getElem? hti)
    have hi := (List.getElem?_eq_some_iff.mp hti).1
    have et : ts.take (i + 1) = ts.take i ++ [t] := by rw [List.take_add_one, hti]; rfl
    have oi := o.all (ts := ts.take i) fun t h => ht t (List.mem_of_mem_take h)
    have ol := oi.len
    have hix : opIx (.l (R.map nD)) (.int (t : Nat)) = .ok (nD (nth R t)) := opIx_l (i := t) (by rw [List.getElem?_map, nth_get (by omega)]; rfl)
    rw [et, rowOf_snoc, allBy_snoc]
    generalize hq : allBy R ord (ts.take i) = od at oi ol
    have hrl : (rowOf R od (ts.take i)).length ≤ 1000 := by unfold rowOf; rw [List.length_map, List.length_take]; omega
    refine ⟨_, rfl, [.sh (.lst (R.map nD)), .sh dm, .own ((addBy R od t).map nD), .dic (dicN nD 0 (kin R (addBy R od t))), .own rows, .own ((rowOf R od (ts.take i) ++ [plc (nth R t) (kin R (addBy R od t))]).map nD), .sh (nD t)], .inl ?_, _, rfl⟩
    have d1 := dget_N keyW_nD (nth R t) (kin R od) 0
    have k1 : ∀ ks : List Nat, dicOk (dicN nD 0 ks) (D.int (nth R t : Nat)) = true := fun ks => keyW_nD.ok ks 0 (nth R t)
    have z1 : (dicN nD 0 (kin R od)).length < sizeLine := by rw [dicN_len, kin_len]; exact szt (by omega)
    have z2 : od.length < sizeLine := szt (by omega)
    have z3 : (rowOf R od (ts.take i)).length < sizeLine := szt (by omega)
    simp only [nD] at d1 hix
    by_cases h : nth R t ∈ kin R od
    · rw [if_pos h, Nat.zero_add] at d1
      have ea : addBy R od t = od := by unfold addBy; rw [if_pos h]
      rw [ea]
      simp only [spreadB]
      simp [nD, hix, k1, d1, z3]
    · rw [if_neg h] at d1
      have ea : addBy R od t = od ++ [t] := by unfold addBy; rw [if_neg h]
      have ek : kin R (od ++ [t]) = kin R od ++ [nth R t] := by rw [kin_app]; rfl
      have ep : dput (dicN nD 0 (kin R od)) (D.int (nth R t : Nat)) (.int (od.length : Nat)) = dicN nD 0 (kin R od ++ [nth R t]) := by
        unfold dput
        rw [d1, dicN_app, kin_len, Nat.zero_add]
        rfl
      have d2 := dget_N keyW_nD (nth R t) (kin R od ++ [nth R t]) 0
      rw [if_pos (by simp), Nat.zero_add] at d2
      simp only [nD] at d2 ep k1 z1
      rw [ea, ek]
      simp only [spreadB]
      simp [nD, hix, k1, d1, z1, z2, z3, ep, d2, Sq.xs]
  rw [List.length_map, List.take_length] at h1
  exact ⟨t6, h1⟩
end
end
end AL
namespace AL
open PySem
noncomputable section
section
variable {R : List Nat}
/-- what spread leaves -/
structure Spr (R : List Nat) (mv : List (List Nat)) (ord : List Nat) (rows : List (List Nat)) : Prop where
  ok : Ord R mv.length ord
  le : rows.length ≤ ord.length
  row : ∀ (i : Nat) (r : List Nat), rows[i]? = some r → ∃ s : Nat, ord[i]? = some s ∧ r = rowOf R ord (rowAt mv s) ∧ ∀ t ∈ rowAt mv s, nth R t ∈ kin R ord
theorem Spr.next {mv : List (List Nat)} (m : Mvs mv) {ord : List Nat} {rows : List (List Nat)} (h : Spr R mv ord rows) (hlt : rows.length < ord.length) :
    Spr R mv (allBy R ord (rowAt mv (nth ord rows.length))) (rows ++ [rowOf R (allBy R ord (rowAt mv (nth ord rows.length))) (rowAt mv (nth ord rows.length))]) := by
  have hs := nth_get hlt
  generalize nth ord rows.length = s at hs ⊢
  have hS := h.ok.lt s (List.mem_of_getElem? hs)
  obtain ⟨r0, e0⟩ := allBy_pre (R := R) (rowAt mv s) ord
  have hp : ∀ i x, ord[i]? = some x → (allBy R ord (rowAt mv s))[i]? = some x := fun i x e => by
    rw [e0, List.getElem?_append_left (List.getElem?_eq_some_iff.mp e).1, e]
  refine ⟨h.ok.all fun t ht => m.row _ (rowAt_get hS).2 t ht, ?_, fun i r hr => ?_⟩
  · rw [e0]
    simp only [List.length_append, List.length_singleton]
    omega
  · by_cases hi : i < rows.length
    · rw [List.getElem?_append_left hi] at hr
      obtain ⟨s', e1, e2, e3⟩ := h.row i r hr
      refine ⟨s', hp i s' e1, ?_, fun t ht => ?_⟩
      · rw [e2, e0, rowOf_pre e3]
      · rw [e0, kin_app]
        exact List.mem_append.mpr (.inl (e3 t ht))
    · have : i = rows.length := by
        have := (List.getElem?_eq_some_iff.mp hr).1
        simp at this
        omega
      subst this
      rw [List.getElem?_append_right (Nat.le_refl _), Nat.sub_self] at hr
      have hr' : rowOf R (allBy R ord (rowAt mv s)) (rowAt mv s) = r := by simpa using hr
      exact ⟨s, hp _ _ hs, hr'.symm, fun t ht => kin_mem_all ht⟩
theorem spread_loop {mv : List (List Nat)} (m : Mvs mv) {dm : D} (hd : IsSq dm (mv.map rD)) (hR : R.length = mv.length) : ∀ (n : Nat) (ord : List Nat) (rows : List (List Nat)) (s5 s6 : AL.Slot), Spr R mv ord rows → mv.length < n + rows.length →
    ∃ s5' s6', whileGo spreadT spreadW n [.sh (.lst (R.map nD)), .sh dm, .own (ord.map nD), .dic (dicN nD 0 (kin R ord)), .own (rows.map rD), s5, s6] =
      .ok (.nx [.sh (.lst (R.map nD)), .sh dm, .own ((spr R mv n ord rows).1.map nD), .dic (dicN nD 0 (kin R (spr R mv n ord rows).1)), .own ((spr R mv n ord rows).2.map rD), s5', s6']) ∧
      Spr R mv (spr R mv n ord rows).1 (spr R mv n ord rows).2 ∧ (spr R mv n ord rows).2.length = (spr R mv n ord rows).1.length ∧ ∃ q, (spr R mv n ord rows).1 = ord ++ q
  | 0, ord, rows, s5, s6, h, hn => by
    have := h.ok.len
    have := h.le
    omega
  | n + 1, ord, rows, s5, s6, h, hn => by
    have ht : spreadT [.sh (.lst (R.map nD)), .sh dm, .own (ord.map nD), .dic (dicN nD 0 (kin R ord)), .own (rows.map rD), s5, s6] = .ok (decide (rows.length < ord.length)) := by
      simp [spreadT, Sq.xs]
    rw [whileGo, ht, T.ex_ok]
    unfold spr
    by_cases hlt : rows.length < ord.length
    · rw [if_pos (decide_eq_true hlt), if_pos hlt]
      have hs := nth_get hlt
      have hnx := h.next m hlt
      generalize nth ord rows.length = s at hs hnx ⊢
      have hS := h.ok.lt s (List.mem_of_getElem? hs)
      have ha := rowAt_get hS
      obtain ⟨t6, hi⟩ := spread_in (mv := mv) (R := R) (dm := dm) m.len hR h.ok (rows := rows.map rD) (ts := rowAt mv s) (fun t ht => m.row _ ha.2 t ht) (m.wid _ ha.2) s6
      have e1 : opIx (.l (ord.map nD)) (.int (rows.length : Nat)) = .ok (nD s) := opIx_l (i := rows.length) (by rw [List.getElem?_map, hs]; rfl)
      have e2 : ∀ q : Sq, q.xs = mv.map rD → opIx q (nD s) = .ok (rD (rowAt mv s)) := fun q hq => by
        cases q with
        | t xs => simp only [Sq.xs] at hq; subst hq; exact opIx_t (i := s) (by rw [List.getElem?_map, ha.1]; rfl)
        | l xs => simp only [Sq.xs] at hq; subst hq; exact opIx_l (i := s) (by rw [List.getElem?_map, ha.1]; rfl)
      have z1 : (rowOf R (allBy R ord (rowAt mv s)) (rowAt mv s)).length ≤ sizeLine := by
        have := m.wid _ ha.2
        unfold rowOf; rw [List.length_map]; exact szl (by omega)
      have z2 : rows.length < sizeLine := by
        have := h.ok.len
        have := m.len
        exact szt (by omega)
      have hb : spreadW [.sh (.lst (R.map nD)), .sh dm, .own (ord.map nD), .dic (dicN nD 0 (kin R ord)), .own (rows.map rD), s5, s6] =
          .ok (.nx [.sh (.lst (R.map nD)), .sh dm, .own ((allBy R ord (rowAt mv s)).map nD), .dic (dicN nD 0 (kin R (allBy R ord (rowAt mv s)))), .own ((rows ++ [rowOf R (allBy R ord (rowAt mv s)) (rowAt mv s)]).map rD), .own ((rowOf R (allBy R ord (rowAt mv s)) (rowAt mv s)).map nD), t6]) := by
        rcases hd with q | q
        · subst q
          have e3 := e2 (.t (mv.map rD)) rfl
          simp only [nD, rD] at e1 e3 hi z1 ⊢
          simp [spreadW, Sq.xs, e1, e3, hi, z1, z2, rD, nD]
        · subst q
          have e3 := e2 (.l (mv.map rD)) rfl
          simp only [nD, rD] at e1 e3 hi z1 ⊢
          simp [spreadW, Sq.xs, e1, e3, hi, z1, z2, rD, nD]
      rw [hb, T.bind_ok]
      dsimp only
      obtain ⟨s5', s6', g1, g2, g3, q, g4⟩ := spread_loop m hd hR n _ _ (.own ((rowOf R (allBy R ord (rowAt mv s)) (rowAt mv s)).map nD)) t6 hnx (by simp; omega)
      obtain ⟨r0, e0⟩ := allBy_pre (R := R) (rowAt mv s) ord
      exact ⟨s5', s6', g1, g2, g3, r0 ++ q, by rw [g4, e0, List.append_assoc]⟩
    · rw [if_neg (by simp [hlt]), if_neg hlt]
      exact ⟨s5, s6, rfl, h, by have := h.le; exact (show rows.length = ord.length by omega), [], by simp⟩
theorem rowAt_wid {mv : List (List Nat)} {E : Nat} (hw : ∀ r ∈ mv, r.length = E) {s : Nat} (h : s < mv.length) : (rowAt mv s).length = E := hw _ (rowAt_get h).2
def spr0 (R : List Nat) (mv : List (List Nat)) (n : Nat) : List Nat × List (List Nat) := spr R mv n [0] []
theorem spread_eq {mv : List (List Nat)} (m : Mvs mv) (h0 : 0 < mv.length) {dm : D} (hd : IsSq dm (mv.map rD)) (hR : R.length = mv.length) {n : Nat} (hn : mv.length < n) :
    bodyT 7 (spreadG n) [.lst (R.map nD), dm] = .ok (.tup [.lst ((spr0 R mv n).1.map nD), .lst ((spr0 R mv n).2.map rD)]) ∧
    Spr R mv (spr0 R mv n).1 (spr0 R mv n).2 ∧ (spr0 R mv n).2.length = (spr0 R mv n).1.length ∧ ∃ q, (spr0 R mv n).1 = 0 :: q := by
  have hi : Spr R mv [0] [] := ⟨⟨by simp [kin], fun s hs => by rw [List.mem_singleton.mp hs]; exact h0⟩, by simp, fun i r h => by simp at h⟩
  obtain ⟨s5', s6', g1, g2, g3, q, g4⟩ := spread_loop m hd hR n [0] [] .no .no hi (by simpa using hn)
  refine ⟨?_, g2, g3, q, g4⟩
  have e1 : opIx (.l (R.map nD)) (.int ((0 : Nat) : Int)) = .ok (nD (nth R 0)) := opIx_l (i := 0) (by rw [List.getElem?_map, nth_get (by omega)]; rfl)
  rw [show ((0 : Nat) : Int) = 0 from rfl] at e1
  have g1' : gWhile n spreadT spreadW [.sh (.lst (R.map nD)), .sh dm, .own [.int 0], .dic [(.int (nth R 0 : Nat), .int 0)], .own [], .no, .no] = _ := g1
  have hb : spreadG n [.sh (.lst (R.map nD)), .sh dm, .no, .no, .no, .no, .no] = .ok (.rt (.tup [.lst ((spr0 R mv n).1.map nD), .lst ((spr0 R mv n).2.map rD)])) := by
    simp only [nD, rD] at e1 g1' ⊢
    simp [spreadG, e1, g1', spr0, nD, rD, dFreeze]
  have hb' : spreadG n (env0 7 [.lst (R.map nD), dm]) = _ := hb
  rw [bodyT_eq, hb', T.nox_ok, T.bind_ok]
end
def mergedG (k n : Nat) : DEnv → T Fl :=
  (gSeq (gAsg (dCall 2 (bodyT 7 (spreadG n)) (dCons (dCall 2 (bodyT 11 (kindsG k)) (dCons (dV 1) (dCons (dV 2) dNil))) (dCons (dV 1) dNil))) (bTup 2 (bCons (bName 3) (bCons (bName 4) bNil))))
  (gRet (dTup (dCons (dV 0) (dCons (dTupOf (dSqV 4)) (dCons (dTupOf (dSqN (dLc (dItems (dSqV 3)) (bName 5) dYes (dIx (dSqV 2) (dV 5)) [5]))) dNil))))))
def mOrd (k n : Nat) (mv : List (List Nat)) (an : List Nat) : List Nat := (spr0 (kindsOf k mv an) mv n).1
def mRows (k n : Nat) (mv : List (List Nat)) (an : List Nat) : List (List Nat) := (spr0 (kindsOf k mv an) mv n).2
theorem kindsOf_nbd (k : Nat) {mv : List (List Nat)} {an : List Nat} (hl : an.length = mv.length) : ∃ c, Nbd mv (kindsOf k mv an) c := kloop_nbd (nbd_numb hl)
theorem merged_eq {mv : List (List Nat)} {an : List Nat} (m : Mvs mv) (h0 : 0 < mv.length) {dm dE dx : D} (hd : IsSq dm (mv.map rD)) (hx : IsSq dx (an.map nD)) (hl : an.length = mv.length) {k n : Nat} (hk : mv.length < k) (hn : mv.length < n) :
    bodyT 6 (mergedG k n) [dE, dm, dx] = .ok (.tup [dE, .tup ((mRows k n mv an).map rD), rD ((mOrd k n mv an).map (nth an))]) ∧
    Spr (kindsOf k mv an) mv (mOrd k n mv an) (mRows k n mv an) ∧ (mRows k n mv an).length = (mOrd k n mv an).length ∧ ∃ q, mOrd k n mv an = 0 :: q := by
  obtain ⟨c, hc⟩ := kindsOf_nbd k hl
  have h1 := kinds_eq keyW_nD m hd hx hl hk
  obtain ⟨h2, h3, h4, h5⟩ := spread_eq (R := kindsOf k mv an) m h0 hd hc.len hn
  refine ⟨?_, h3, h4, h5⟩
  have e1 : (mRows k n mv an) = (spr0 (kindsOf k mv an) mv n).2 := rfl
  have e2 : (mOrd k n mv an) = (spr0 (kindsOf k mv an) mv n).1 := rfl
  rw [← e1, ← e2] at h2
  have ol : (mOrd k n mv an).length ≤ mv.length := h3.ok.len
  have rl : (mRows k n mv an).length ≤ mv.length := Nat.le_trans (Nat.le_of_eq h4) ol
  have ml := m.len
  have z1 : (mRows k n mv an).length ≤ sizeLine := szl (by omega)
  have z2 : (mOrd k n mv an).length ≤ sizeLine := szl (by omega)
  have hL : ∀ s3 s4, lcGo (bName 5) dYes (dIx (dSqV 2) (dV 5)) [.sh dE, .sh dm, .sh dx, s3, s4, .no] ((mOrd k n mv an).map nD) = .ok (((mOrd k n mv an).map (nth an)).map nD) := fun s3 s4 => by
    rw [lc_map (g := fun d => match d with | .int i => nD (nth an i.toNat) | _ => .non)]
    · rw [List.map_map, List.map_map]; rfl
    · intro y hy
      obtain ⟨s, hs, rfl⟩ := List.mem_map.mp hy
      have := h3.ok.lt s hs
      have e : ∀ q : Sq, q.xs = an.map nD → opIx q (.int (s : Nat)) = .ok (nD (nth an s)) := fun q hq => by
        cases q with
        | t xs => simp only [Sq.xs] at hq; subst hq; exact opIx_t (i := s) (by rw [List.getElem?_map, nth_get (by omega)]; rfl)
        | l xs => simp only [Sq.xs] at hq; subst hq; exact opIx_l (i := s) (by rw [List.getElem?_map, nth_get (by omega)]; rfl)
      refine ⟨_, rfl, ?_⟩
      rcases hx with q | q
      · subst q
        have e3 := e (.t (an.map nD)) rfl
        simp [nD, e3]
      · subst q
        have e3 := e (.l (an.map nD)) rfl
        simp [nD, e3]
  have hb : mergedG k n (env0 6 [dE, dm, dx]) = .ok (.rt (.tup [dE, .tup ((mRows k n mv an).map rD), rD ((mOrd k n mv an).map (nth an))])) := by
    have ee : env0 6 [dE, dm, dx] = [.sh dE, .sh dm, .sh dx, .no, .no, .no] := rfl
    rw [ee]
    have ha : bTup 2 (bCons (bName 3) (bCons (bName 4) bNil)) (.tup [.lst ((mOrd k n mv an).map nD), .lst ((mRows k n mv an).map rD)]) [.sh dE, .sh dm, .sh dx, .no, .no, .no] = .ok [.sh dE, .sh dm, .sh dx, .sh (.lst ((mOrd k n mv an).map nD)), .sh (.lst ((mRows k n mv an).map rD)), .no] := rfl
    simp [mergedG, -bodyT_eq, h1, ha, h2, Sq.xs, z1, z2, dWipe, hL, rD]
  rw [bodyT_eq, hb, T.nox_ok, T.bind_ok]
end
end AL
namespace AL
open PySem
noncomputable section
/-! ## summaries: the judges and the going, as data -/
def y_is_integer : DEnv → T Fl :=
  (gRet (dAnd (dIsi "int" (dV 0)) (dNot (dIsi "bool" (dV 0)))))
def x_is_integer : List D → T D := bodyT 1 y_is_integer
def y_is_from : DEnv → T Fl :=
  (gRet (dAnd (dCall 1 x_is_integer (dCons (dV 1) dNil)) (dB opGe (dV 1) (dV 0))))
def x_is_from : List D → T D := bodyT 2 y_is_from
def y_is_below : DEnv → T Fl :=
  (gRet (dAnd (dCall 2 x_is_from (dCons (dC (.int 0)) (dCons (dV 1) dNil))) (dB opLt (dV 1) (dV 0))))
def x_is_below : List D → T D := bodyT 2 y_is_below
def y_is_tuple : DEnv → T Fl :=
  (gRet (dAnd (dIsi "tuple" (dV 1)) (dOr (dB (opIs id) (dV 0) (dC .non)) (dB opEq (dLen (dSqV 1)) (dV 0)))))
def x_is_tuple : List D → T D := bodyT 2 y_is_tuple
def y_is_row : DEnv → T Fl :=
  (gRet (dAnd (dIsi "tuple" (dV 1)) (dQuant (·.all id) (dSqN (dLc (dItems (dSqV 1)) (bName 2) dYes (dCall 2 x_is_below (dCons (dV 0) (dCons (dV 2) dNil))) [2])))))
def x_is_row : List D → T D := bodyT 3 y_is_row
def y_row_fault : DEnv → T Fl :=
  (gSeq (gIf (dTNot (dT (dIsi "tuple" (dV 1))))
  (gRet (dNeg (dC (.int 1))))
  gNil)
  (gSeq (gFor (dEnum (dSq (dV 1))) (bTup 2 (bCons (bName 2) (bCons (bName 3) bNil)))
  (gIf (dTNot (dT (dCall 2 x_is_below (dCons (dV 0) (dCons (dV 3) dNil)))))
  (gRet (dV 2))
  gNil))
  (gRet (dC .non))))
def x_row_fault : List D → T D := bodyT 4 y_row_fault
def y_led : DEnv → T Fl :=
  (gSeq (gFor (dItems (dSq (dV 2))) (bName 3)
  (gSet 1 (dIx (dSq (dIx (dSq (dIx (dSqV 0) (dC (.int 1)))) (dV 1))) (dV 3))))
  (gRet (dV 1)))
def x_led : List D → T D := bodyT 4 y_led
def y_answer_in : DEnv → T Fl :=
  (gRet (dIx (dSq (dIx (dSqV 0) (dC (.int 2)))) (dCall 3 x_led (dCons (dV 0) (dCons (dC (.int 0)) (dCons (dV 1) dNil))))))
def x_answer_in : List D → T D := bodyT 2 y_answer_in
def y_summary_fault : DEnv → T Fl :=
  (gSeq (gIf (dTNot (dT (dCall 2 x_is_tuple (dCons (dC (.int 3)) (dCons (dV 0) dNil)))))
  (gRet (dTup dNil))
  gNil)
  (gSeq (gIf (dTNot (dT (dCall 2 x_is_from (dCons (dC (.int 1)) (dCons (dIx (dSqV 0) (dC (.int 0))) dNil)))))
  (gRet (dTup (dCons (dC (.int 0)) dNil)))
  gNil)
  (gSeq (gIf (dTOr (dTNot (dT (dIsi "tuple" (dIx (dSqV 0) (dC (.int 1)))))) (dT (dB opEq (dIx (dSqV 0) (dC (.int 1))) (dTup dNil))))
  (gRet (dTup (dCons (dC (.int 1)) dNil)))
  gNil)
  (gSeq (gFor (dEnum (dSq (dIx (dSqV 0) (dC (.int 1))))) (bTup 2 (bCons (bName 1) (bCons (bName 2) bNil)))
  (gIf (dTOr (dTNot (dT (dCall 2 x_is_tuple (dCons (dIx (dSqV 0) (dC (.int 0))) (dCons (dV 2) dNil))))) (dTNot (dT (dCall 2 x_is_row (dCons (dLen (dSq (dIx (dSqV 0) (dC (.int 1))))) (dCons (dV 2) dNil))))))
  (gRet (dTup (dCons (dC (.int 1)) (dCons (dV 1) dNil))))
  gNil))
  (gSeq (gIf (dTNot (dT (dCall 2 x_is_tuple (dCons (dLen (dSq (dIx (dSqV 0) (dC (.int 1))))) (dCons (dIx (dSqV 0) (dC (.int 2))) dNil)))))
  (gRet (dTup (dCons (dC (.int 2)) dNil)))
  gNil)
  (gSeq (gFor (dEnum (dSq (dIx (dSqV 0) (dC (.int 2))))) (bTup 2 (bCons (bName 1) (bCons (bName 3) bNil)))
  (gIf (dTNot (dT (dCall 2 x_is_from (dCons (dC (.int 0)) (dCons (dV 3) dNil)))))
  (gRet (dTup (dCons (dC (.int 2)) (dCons (dV 1) dNil))))
  gNil))
  (gRet (dC .non))))))))
def x_summary_fault : List D → T D := bodyT 4 y_summary_fault
def y_check_summary : DEnv → T Fl :=
  (gSeq (gSet 1 (dCall 1 x_summary_fault (dCons (dV 0) dNil)))
  (gIf (dT (dB (opIs not) (dV 1) (dC .non)))
  (gRaise1 "InvalidSummary" "place" (dV 1))
  gNil))
def x_check_summary : List D → T D := bodyT 2 y_check_summary
def x_merged : List D → T D := bodyT 6 (mergedG 100 100)
def y_least_in : DEnv → T Fl :=
  (gRet (dCall 3 x_merged (dCons (dIx (dSqV 0) (dC (.int 0))) (dCons (dIx (dSqV 0) (dC (.int 1))) (dCons (dFz (dListOf (dSq (dIx (dSqV 0) (dC (.int 2)))))) dNil)))))
def x_least_in : List D → T D := bodyT 1 y_least_in
@[simp] theorem q_is_integer (d : D) : x_is_integer [d] = if d.known then .ok (.bl (match d with | .int _ => true | _ => false)) else .fail := by
  cases d <;> simp [x_is_integer, y_is_integer, env0]
@[simp] theorem q_is_from (lo : Int) (d : D) : x_is_from [.int lo, d] = if d.known then .ok (.bl (match d with | .int i => decide (lo ≤ i) | _ => false)) else .fail := by
  cases d <;> simp [x_is_from, y_is_from, env0]
@[simp] theorem q_is_below (m : Int) (d : D) : x_is_below [.int m, d] = if d.known then .ok (.bl (match d with | .int i => decide (0 ≤ i) && decide (i < m) | _ => false)) else .fail := by
  cases d with
  | int i => by_cases h : 0 ≤ i <;> simp [x_is_below, y_is_below, env0, h]
  | _ => simp [x_is_below, y_is_below, env0]
@[simp] theorem q_is_tuple (m : Int) (d : D) : x_is_tuple [.int m, d] = if d.known then .ok (.bl (match d with | .tup xs => decide ((xs.length : Int) = m) | _ => false)) else .fail := by
  cases d <;> simp [x_is_tuple, y_is_tuple, env0, Sq.xs]
/-- all of a row are below m -/
def belowB (m : Int) (d : D) : Bool := match d with | .int i => decide (0 ≤ i) && decide (i < m) | _ => false
theorem asBools_map (f : D → Bool) : ∀ xs : List D, asBools (xs.map fun x => D.bl (f x)) = some (xs.map f)
  | [] => rfl
  | x :: r => by simp [asBools, asBools_map f r]
theorem q_is_row (m : Int) (xs : List D) (hk : ∀ x ∈ xs, x.known = true) (hz : xs.length ≤ sizeLine) : x_is_row [.int m, .tup xs] = .ok (.bl (xs.all (belowB m))) := by
  have h : lcGo (bName 2) dYes (dCall 2 x_is_below (dCons (dV 0) (dCons (dV 2) dNil))) [.sh (.int m), .sh (.tup xs), .no] xs = .ok (xs.map fun x => .bl (belowB m x)) := by
    refine lc_map fun x hx => ⟨_, rfl, ?_⟩
    simp [hk x hx, belowB]
  simp [x_is_row, y_is_row, env0, Sq.xs, dWipe, h, hz, asBools_map, List.all_map]
/-- the first index that is not below -/
def rowFault (m : Int) (xs : List D) : D := match xs.findIdx? fun d => !belowB m d with
  | none => .non
  | some i => .int (i : Nat)
theorem q_row_fault (m : Int) (xs : List D) (hk : ∀ x ∈ xs, x.known = true) : x_row_fault [.int m, .tup xs] = .ok (rowFault m xs) := by
  obtain ⟨ρ', h, _⟩ := for_find (fb := bTup 2 (bCons (bName 2) (bCons (bName 3) bNil))) (g := gIf (dTNot (dT (dCall 2 x_is_below (dCons (dV 0) (dCons (dV 3) dNil))))) (gRet (dV 2)) gNil) (I := fun ρ => ∃ s2 s3, ρ = [.sh (.int m), .sh (.tup xs), s2, s3])
    (p := fun d => match d with | .tup [_, y] => !belowB m y | _ => false) (r := fun d => match d with | .tup [i, _] => i | _ => .non) (xs := numbered 0 xs) (ρ := [.sh (.int m), .sh (.tup xs), .no, .no]) ⟨_, _, rfl⟩ fun x hx ρ hI => by
    obtain ⟨s2, s3, rfl⟩ := hI
    obtain ⟨i, y, hy, rfl⟩ := numbered_mem hx
    refine ⟨_, rfl, ?_⟩
    cases hb : belowB m y with
    | true => exact .inr ⟨by simp [hb], [.sh (.int m), .sh (.tup xs), .sh (.int i), .sh y], .inl (by
        have hb' := hb; unfold belowB at hb'
        simp [hk y hy, hb']), _, _, rfl⟩
    | false => exact .inl ⟨by simp [hb], by
        have hb' := hb; unfold belowB at hb'
        simp [hk y hy, hb']⟩
  simp only [x_row_fault, y_row_fault]
  simp [env0, Sq.xs, h, rowFault]
  rw [numbered_find (q := fun d => !belowB m d) fun _ _ => rfl]
  cases e : xs.findIdx? fun d => !belowB m d with
  | none => simp
  | some i =>
    have hi : i < xs.length := (List.findIdx?_eq_some_iff_findIdx_eq.mp e).1
    simp [List.getElem?_eq_getElem hi]
/-- a summary as data -/
def sD3 (E : Nat) (mv : List (List Nat)) (an : List Nat) : D := .tup [nD E, .tup (mv.map rD), rD an]
structure Val (E : Nat) (mv : List (List Nat)) (an : List Nat) : Prop where
  e1 : 1 ≤ E
  ne : mv ≠ []
  row : ∀ r ∈ mv, r.length = E ∧ ∀ x ∈ r, x < mv.length
  an : an.length = mv.length
  se : E ≤ 1000
  sm : mv.length ≤ 1000
theorem below_nD {m n : Nat} (h : n < m) : belowB (m : Nat) (nD n) = true := by simp [belowB, nD]; omega
theorem q_summary_fault {E : Nat} {mv : List (List Nat)} {an : List Nat} (v : Val E mv an) : x_summary_fault [sD3 E mv an] = .ok .non := by
  have hp : D.plains (mv.map rD) = true := plains_iff.mpr fun d hd => by
    obtain ⟨x, _, rfl⟩ := List.mem_map.mp hd
    exact plain_rD x
  have hne : (mv.map rD).isEmpty = false := by
    cases mv with
    | nil => exact absurd rfl v.ne
    | cons x r => rfl
  obtain ⟨ρ1, h1, s1, s2, s3, rfl⟩ := for_all (fb := bTup 2 (bCons (bName 1) (bCons (bName 2) bNil))) (g := gIf (dTOr (dTNot (dT (dCall 2 x_is_tuple (dCons (dIx (dSqV 0) (dC (.int 0))) (dCons (dV 2) dNil))))) (dTNot (dT (dCall 2 x_is_row (dCons (dLen (dSq (dIx (dSqV 0) (dC (.int 1))))) (dCons (dV 2) dNil))))))
    (gRet (dTup (dCons (dC (.int 1)) (dCons (dV 1) dNil)))) gNil) (fun ρ => ∃ s1 s2 s3, ρ = [.sh (sD3 E mv an), s1, s2, s3]) (xs := numbered 0 (mv.map rD)) (ρ := [.sh (sD3 E mv an), .no, .no, .no]) ⟨_, _, _, rfl⟩ fun x hx ρ hI => by
    obtain ⟨s1, s2, s3, rfl⟩ := hI
    obtain ⟨i, y, hy, rfl⟩ := numbered_mem hx
    obtain ⟨r, hr, rfl⟩ := List.mem_map.mp hy
    have hv := v.row r hr
    have hrow : x_is_row [.int (mv.length : Nat), .tup (r.map nD)] = .ok (.bl true) := by
      rw [q_is_row]
      · have : (r.map nD).all (belowB (mv.length : Nat)) = true := List.all_eq_true.mpr fun d hd => by
          obtain ⟨x, hx, rfl⟩ := List.mem_map.mp hd
          exact below_nD (hv.2 x hx)
        rw [this]
      · intro x hx
        obtain ⟨y, _, rfl⟩ := List.mem_map.mp hx
        rfl
      · rw [List.length_map, hv.1]; have := v.se; exact szl (by omega)
    refine ⟨_, rfl, [.sh (sD3 E mv an), .sh (.int i), .sh (rD r), s3], .inl ?_, _, _, _, rfl⟩
    simp [sD3, rD, nD, Sq.xs, hv.1]
    simp [hrow]
  obtain ⟨ρ2, h2, _⟩ := for_all (fb := bTup 2 (bCons (bName 1) (bCons (bName 3) bNil))) (g := gIf (dTNot (dT (dCall 2 x_is_from (dCons (dC (.int 0)) (dCons (dV 3) dNil)))))
    (gRet (dTup (dCons (dC (.int 2)) (dCons (dV 1) dNil)))) gNil) (fun ρ => ∃ s1 s2 s3, ρ = [.sh (sD3 E mv an), s1, s2, s3]) (xs := numbered 0 (an.map nD)) (ρ := [.sh (sD3 E mv an), s1, s2, s3]) ⟨_, _, _, rfl⟩ fun x hx ρ hI => by
    obtain ⟨s1, s2, s3, rfl⟩ := hI
    obtain ⟨i, y, hy, rfl⟩ := numbered_mem hx
    obtain ⟨r, hr, rfl⟩ := List.mem_map.mp hy
    refine ⟨_, rfl, [.sh (sD3 E mv an), .sh (.int i), s2, .sh (nD r)], .inl ?_, _, _, _, rfl⟩
    simp [nD]
  simp only [x_summary_fault, y_summary_fault]
  have e1 : ¬ ((E : Int) < 1) := by have := v.e1; omega
  have ea := v.an
  simp only [sD3, rD, nD] at h1 h2
  simp [env0, sD3, rD, nD, Sq.xs, e1, opEq_nil hp, hne, h1, h2, ea]
theorem q_check_summary {E : Nat} {mv : List (List Nat)} {an : List Nat} (v : Val E mv an) : x_check_summary [sD3 E mv an] = .ok .non := by
  simp [x_check_summary, y_check_summary, env0, q_summary_fault v]
/-! the going -/
def stepM (mv : List (List Nat)) (s e : Nat) : Nat := (mv.getD s []).getD e 0
def ledM (mv : List (List Nat)) (s : Nat) (log : List Nat) : Nat := log.foldl (stepM mv) s
theorem Val.step {E : Nat} {mv : List (List Nat)} {an : List Nat} (v : Val E mv an) {s e : Nat} (hs : s < mv.length) (he : e < E) : ∃ r, mv[s]? = some r ∧ r[e]? = some (stepM mv s e) ∧ stepM mv s e < mv.length := by
  have h1 : mv[s]? = some mv[s] := List.getElem?_eq_getElem hs
  have hv := v.row mv[s] (List.getElem_mem hs)
  have h2 : e < mv[s].length := by rw [hv.1]; exact he
  refine ⟨mv[s], h1, ?_, ?_⟩
  · unfold stepM
    rw [show mv.getD s [] = mv[s] by rw [List.getD_eq_getElem?_getD, h1]; rfl, List.getD_eq_getElem?_getD, List.getElem?_eq_getElem h2]
    rfl
  · unfold stepM
    rw [show mv.getD s [] = mv[s] by rw [List.getD_eq_getElem?_getD, h1]; rfl, List.getD_eq_getElem?_getD, List.getElem?_eq_getElem h2]
    exact hv.2 _ (List.getElem_mem h2)
theorem Val.led {E : Nat} {mv : List (List Nat)} {an : List Nat} (v : Val E mv an) : ∀ {log : List Nat} {s : Nat}, s < mv.length → (∀ e ∈ log, e < E) → ledM mv s log < mv.length
  | [], _, hs, _ => hs
  | e :: r, s, hs, h => v.led (log := r) (v.step hs (h e (by simp))).choose_spec.2.2 fun x hx => h x (by simp [hx])
/-- one step of the going, over data -/
theorem q_step {E : Nat} {mv : List (List Nat)} {an : List Nat} (v : Val E mv an) {s e : Nat} (hs : s < mv.length) (he : e < E) :
    ∃ r : List Nat, opIx (.t (mv.map rD)) (.int s) = .ok (.tup (r.map nD)) ∧ opIx (.t (r.map nD)) (.int e) = .ok (.int (stepM mv s e : Nat)) := by
  obtain ⟨r, h1, h2, _⟩ := v.step hs he
  exact ⟨r, opIx_t (i := s) (by rw [List.getElem?_map, h1]; rfl), opIx_t (nD_map_get h2)⟩
theorem take_snoc {log : List Nat} {i e : Nat} (h : log[i]? = some e) : log.take (i + 1) = log.take i ++ [e] := by
  rw [List.take_add_one, h]; rfl
theorem log_get {log : List Nat} {i : Nat} {x : D} (h : (log.map nD)[i]? = some x) : ∃ e, log[i]? = some e ∧ x = nD e ∧ e ∈ log := by
  rw [List.getElem?_map] at h
  cases e : log[i]? with
  | none => rw [e] at h; cases h
  | some y => rw [e] at h; exact ⟨y, rfl, (Option.some.inj h).symm, List.mem_of_getElem? e⟩
theorem led_snoc (mv : List (List Nat)) (s e : Nat) (log : List Nat) : ledM mv s (log ++ [e]) = stepM mv (ledM mv s log) e := by
  unfold ledM
  rw [List.foldl_append]
  rfl
theorem q_led {E : Nat} {mv : List (List Nat)} {an log : List Nat} (v : Val E mv an) {s : Nat} (hs : s < mv.length) (h : ∀ e ∈ log, e < E) : x_led [sD3 E mv an, nD s, rD log] = .ok (nD (ledM mv s log)) := by
  obtain ⟨ρ1, h1, s3, rfl⟩ := for_steps (fb := bName 3) (g := gSet 1 (dIx (dSq (dIx (dSq (dIx (dSqV 0) (dC (.int 1)))) (dV 1))) (dV 3))) (fun i ρ => ∃ s3, ρ = [.sh (sD3 E mv an), .sh (nD (ledM mv s (log.take i))), .sh (rD log), s3])
    (xs := log.map nD) (ρ := [.sh (sD3 E mv an), .sh (nD s), .sh (rD log), .no]) ⟨_, rfl⟩ fun i x ρ hx hI => by
    obtain ⟨s3, rfl⟩ := hI
    obtain ⟨e, he, rfl, hm⟩ := log_get hx
    have hl := v.led hs (log := log.take i) fun e he => h e (List.mem_of_mem_take he)
    refine ⟨_, rfl, [.sh (sD3 E mv an), .sh (nD (ledM mv s (log.take (i + 1)))), .sh (rD log), .sh (nD e)], .inl ?_, _, rfl⟩
    obtain ⟨r, e1, e2⟩ := q_step v hl (h e hm)
    rw [take_snoc he, led_snoc]
    simp [sD3, nD, e1, e2]
  rw [List.length_map, List.take_length] at h1
  simp only [x_led, y_led]
  simp only [sD3, rD, nD] at h1
  simp [env0, sD3, rD, nD, Sq.xs, h1]
def ansM (an : List Nat) (s : Nat) : Nat := an.getD s 0
theorem an_get {E : Nat} {mv : List (List Nat)} {an : List Nat} (v : Val E mv an) {s : Nat} (hs : s < mv.length) : opIx (.t (an.map nD)) (.int s) = .ok (nD (ansM an s)) := by
  have h : s < an.length := by rw [v.an]; exact hs
  refine opIx_t (i := s) ?_
  unfold ansM
  rw [List.getElem?_map, List.getD_eq_getElem?_getD, List.getElem?_eq_getElem h]
  rfl
theorem Val.pos {E : Nat} {mv : List (List Nat)} {an : List Nat} (v : Val E mv an) : 0 < mv.length := List.length_pos_iff.mpr v.ne
theorem q_answer_in {E : Nat} {mv : List (List Nat)} {an log : List Nat} (v : Val E mv an) (h : ∀ e ∈ log, e < E) : x_answer_in [sD3 E mv an, rD log] = .ok (nD (ansM an (ledM mv 0 log))) := by
  have h1 := q_led v v.pos h
  have h2 := an_get v (v.led v.pos h)
  simp only [sD3, nD, rD] at h1
  rw [show ((0 : Nat) : Int) = 0 from rfl] at h1
  simp [x_answer_in, y_answer_in, env0, sD3, rD, nD, h1] at h2 ⊢
  simp [h2]

end
end AL
namespace AL
open PySem
noncomputable section
theorem Val.mvs {E : Nat} {mv : List (List Nat)} {an : List Nat} (v : Val E mv an) : Mvs mv := ⟨fun r hr x hx => (v.row r hr).2 x hx, v.sm, fun r hr => by rw [(v.row r hr).1]; exact v.se⟩
theorem q_least_in {E : Nat} {mv : List (List Nat)} {an : List Nat} (v : Val E mv an) (h : mv.length < 100) : x_least_in [sD3 E mv an] = .ok (sD3 E (mRows 100 100 mv an) ((mOrd 100 100 mv an).map (nth an))) := by
  have hz : an.length ≤ sizeLine := by have := v.an; exact szl (by omega)
  obtain ⟨h1, h2, h3, h4⟩ := merged_eq (dE := nD E) (dm := .tup (mv.map rD)) (dx := .lst (an.map nD)) v.mvs v.pos (.inl rfl) (.inr rfl) v.an h h
  have h1' : x_merged [nD E, .tup (mv.map rD), .lst (an.map nD)] = _ := h1
  simp only [nD] at h1'
  simp [x_least_in, y_least_in, env0, sD3, rD, nD, Sq.xs, hz, h1']
theorem Spr.all_in {R : List Nat} {mv : List (List Nat)} {ord : List Nat} {rows : List (List Nat)} (h : Spr R mv ord rows) : ∀ r ∈ rows, ∀ x ∈ r, x < ord.length := fun r hr x hx => by
  obtain ⟨i, hi⟩ := List.mem_iff_getElem?.mp hr
  obtain ⟨s, e1, e2, e3⟩ := h.row i r hi
  subst e2
  obtain ⟨t, ht, rfl⟩ := List.mem_map.mp hx
  have := plc_lt (e3 t ht)
  rwa [kin_len] at this
theorem Spr.wid {R : List Nat} {mv : List (List Nat)} {ord : List Nat} {rows : List (List Nat)} (h : Spr R mv ord rows) {E : Nat} (hw : ∀ r ∈ mv, r.length = E) : ∀ r ∈ rows, r.length = E := fun r hr => by
  obtain ⟨i, hi⟩ := List.mem_iff_getElem?.mp hr
  obtain ⟨s, e1, e2, e3⟩ := h.row i r hi
  rw [e2]
  unfold rowOf
  rw [List.length_map]
  exact rowAt_wid hw (h.ok.lt s (List.mem_of_getElem? e1))
/-- the least summary is one -/
theorem least_val {E : Nat} {mv : List (List Nat)} {an : List Nat} (v : Val E mv an) (h : mv.length < 100) : Val E (mRows 100 100 mv an) ((mOrd 100 100 mv an).map (nth an)) ∧ (mRows 100 100 mv an).length ≤ mv.length := by
  obtain ⟨h1, h2, h3, q, h4⟩ := merged_eq (dE := nD E) (dm := .tup (mv.map rD)) (dx := .lst (an.map nD)) v.mvs v.pos (.inl rfl) (.inr rfl) v.an h h
  have hl : (mRows 100 100 mv an).length ≤ mv.length := by rw [h3]; exact h2.ok.len
  refine ⟨⟨v.e1, fun z => ?_, fun r hr => ⟨h2.wid (fun r hr => (v.row r hr).1) r hr, fun x hx => by rw [h3]; exact h2.all_in r hr x hx⟩, by rw [List.length_map, h3], v.se, by have := v.sm; omega⟩, hl⟩
  rw [z, h4] at h3
  simp at h3
/-! ## wide and plain values -/
mutual
def wide (m : Nat) : D → Bool
  | .tup xs | .lst xs => decide (xs.length ≤ m) && wides m xs
  | _ => true
def wides (m : Nat) : List D → Bool
  | [] => true
  | x :: r => wide m x && wides m r
end
theorem wides_iff {m : Nat} : ∀ {ds : List D}, wides m ds = true ↔ ∀ d ∈ ds, wide m d = true
  | [] => by simp [wides]
  | d :: r => by simp [wides, wides_iff (ds := r)]
/-- a value of data, at most m wide at every depth -/
structure Ok (m : Nat) (d : D) : Prop where
  plain : d.plain = true
  wide : AL.wide m d = true
section
variable {m : Nat}
theorem Ok.tup {xs : List D} (hl : xs.length ≤ m) (h : ∀ x ∈ xs, Ok m x) : Ok m (.tup xs) :=
  ⟨by simp only [D.plain]; exact plains_iff.mpr fun x hx => (h x hx).plain, by simp only [AL.wide, Bool.and_eq_true, decide_eq_true_eq]; exact ⟨hl, wides_iff.mpr fun x hx => (h x hx).wide⟩⟩
theorem Ok.lst {xs : List D} (hl : xs.length ≤ m) (h : ∀ x ∈ xs, Ok m x) : Ok m (.lst xs) :=
  ⟨by simp only [D.plain]; exact plains_iff.mpr fun x hx => (h x hx).plain, by simp only [AL.wide, Bool.and_eq_true, decide_eq_true_eq]; exact ⟨hl, wides_iff.mpr fun x hx => (h x hx).wide⟩⟩
theorem Ok.int (i : Int) : Ok m (.int i) := ⟨by simp only [D.plain], by simp only [AL.wide]⟩
theorem Ok.nat (i : Nat) : Ok m (nD i) := Ok.int _
theorem Ok.non : Ok m .non := ⟨by simp only [D.plain], by simp only [AL.wide]⟩
theorem Ok.bl (b : Bool) : Ok m (.bl b) := ⟨by simp only [D.plain], by simp only [AL.wide]⟩
theorem Ok.str {s : Str} (h : PyData.strOk s = true) : Ok m (.str s) := ⟨by simp only [D.plain, h], by simp only [AL.wide]⟩
theorem Ok.mem {xs : List D} (h : Ok m (.tup xs)) {x : D} (hx : x ∈ xs) : Ok m x := by
  have h1 := h.plain
  have h2 := h.wide
  simp only [D.plain] at h1
  simp only [AL.wide, Bool.and_eq_true] at h2
  exact ⟨plains_iff.mp h1 x hx, wides_iff.mp h2.2 x hx⟩
theorem Ok.len {xs : List D} (h : Ok m (.tup xs)) : xs.length ≤ m := by
  have h2 := h.wide
  simp only [AL.wide, Bool.and_eq_true, decide_eq_true_eq] at h2
  exact h2.1
theorem Ok.known {d : D} (h : Ok m d) : d.known = true := plain_known h.plain
theorem Ok.plains {xs : List D} (h : Ok m (.tup xs)) : D.plains xs = true := by simpa only [D.plain] using h.plain
theorem Ok.row {l : List Nat} (h : l.length ≤ m) : Ok m (rD l) := Ok.tup (by rwa [List.length_map]) fun x hx => by
  obtain ⟨y, _, rfl⟩ := List.mem_map.mp hx
  exact Ok.nat y
end
/-! ## where a value is no summary -/
def lenIs (a : D) (n : Nat) : Bool := match a with
  | .int i => decide ((n : Int) = i)
  | _ => false
def from0 (lo : Int) (d : D) : Bool := match d with | .int i => decide (lo ≤ i) | _ => false
theorem from_get {lo : Int} {a : D} (h : from0 lo a = true) : ∃ i, a = .int i ∧ lo ≤ i := by
  cases a with
  | int i => exact ⟨i, rfl, by simpa [from0] using h⟩
  | _ => simp [from0] at h
def rowOk (i : Int) (n : Nat) (d : D) : Bool := match d with
  | .tup xs => decide ((xs.length : Int) = i) && xs.all (belowB (n : Nat))
  | _ => false
def faultOf : D → D
  | .tup [a, b, c] => match a with
    | .int i => if 1 ≤ i then (match b with
        | .tup rows => if rows.isEmpty then .tup [.int 1] else match rows.findIdx? (fun r => !rowOk i rows.length r) with
          | some k => .tup [.int 1, .int (k : Nat)]
          | none => match c with
            | .tup as => if as.length = rows.length then (match as.findIdx? (fun x => !from0 0 x) with
                | some k => .tup [.int 2, .int (k : Nat)]
                | none => .non) else .tup [.int 2]
            | _ => .tup [.int 2]
        | _ => .tup [.int 1]) else .tup [.int 0]
    | _ => .tup [.int 0]
  | _ => .tup []
theorem q_from (lo : Int) {d : D} (h : d.known = true) : x_is_from [.int lo, d] = .ok (.bl (from0 lo d)) := by rw [q_is_from, if_pos h]; rfl
def faultR : DEnv → T Fl := (gIf (dTOr (dTNot (dT (dCall 2 x_is_tuple (dCons (dIx (dSqV 0) (dC (.int 0))) (dCons (dV 2) dNil))))) (dTNot (dT (dCall 2 x_is_row (dCons (dLen (dSq (dIx (dSqV 0) (dC (.int 1))))) (dCons (dV 2) dNil))))))
  (gRet (dTup (dCons (dC (.int 1)) (dCons (dV 1) dNil))))
  gNil)
def faultA : DEnv → T Fl := (gIf (dTNot (dT (dCall 2 x_is_from (dCons (dC (.int 0)) (dCons (dV 3) dNil)))))
  (gRet (dTup (dCons (dC (.int 2)) (dCons (dV 1) dNil))))
  gNil)
theorem fault_row {m : Nat} {i : Int} {rows : List D} {c : D} (hm : m ≤ 1000000) (h : Ok m (.tup rows)) {y : D} (hy : y ∈ rows) (k : Nat) (s3 : AL.Slot) :
    faultR [.sh (.tup [.int i, .tup rows, c]), .sh (.int (k : Nat)), .sh y, s3] = if rowOk i rows.length y then .ok (.nx [.sh (.tup [.int i, .tup rows, c]), .sh (.int (k : Nat)), .sh y, s3]) else .ok (.rt (.tup [.int 1, .int (k : Nat)])) := by
  have oy := h.mem hy
  have ky := oy.known
  cases y with
  | tup ys =>
    have hz : ys.length ≤ sizeLine := by have := oy.len; exact szl (by omega)
    have hr := q_is_row (rows.length : Nat) ys (fun x hx => (oy.mem hx).known) hz
    by_cases h1 : (ys.length : Int) = i
    · cases h2 : ys.all (belowB (rows.length : Nat)) <;> simp [faultR, Sq.xs, rowOk, hr, h1, h2]
    · simp [faultR, Sq.xs, rowOk, h1]
  | well => cases oy.plain
  | raw a => cases oy.plain
  | exc a d c f xs => cases oy.plain
  | err c f xs => cases oy.plain
  | dic ks vs => cases oy.plain
  | fn i vs => cases oy.plain
  | pf i cl => cases oy.plain
  | _ => simp [faultR, Sq.xs, rowOk]
theorem fault_rows {m : Nat} {i : Int} {rows : List D} {c : D} (hm : m ≤ 1000000) (h : Ok m (.tup rows)) : ∃ t1 t2, forGo (bTup 2 (bCons (bName 1) (bCons (bName 2) bNil))) faultR (numbered 0 rows) [.sh (.tup [.int i, .tup rows, c]), .no, .no, .no] =
    (match rows.findIdx? (fun r => !rowOk i rows.length r) with | some k => .ok (.rt (.tup [.int 1, .int (k : Nat)])) | none => .ok (.nx [.sh (.tup [.int i, .tup rows, c]), t1, t2, .no])) := by
  obtain ⟨ρ', h1, t1, t2, rfl⟩ := for_find (fb := bTup 2 (bCons (bName 1) (bCons (bName 2) bNil))) (g := faultR) (I := fun ρ => ∃ t1 t2, ρ = [.sh (.tup [.int i, .tup rows, c]), t1, t2, .no])
    (p := fun d => match d with | .tup [_, y] => !rowOk i rows.length y | _ => false) (r := fun d => match d with | .tup [k, _] => .tup [.int 1, k] | _ => .non) (xs := numbered 0 rows) (ρ := [.sh (.tup [.int i, .tup rows, c]), .no, .no, .no]) ⟨_, _, rfl⟩ fun x hx ρ hI => by
    obtain ⟨t1, t2, rfl⟩ := hI
    obtain ⟨k, y, hy, rfl⟩ := numbered_mem hx
    have hr := fault_row (i := i) (c := c) hm h hy k .no
    refine ⟨_, rfl, ?_⟩
    cases hb : rowOk i rows.length y with
    | true => exact .inr ⟨by simp [hb], _, .inl (by rw [hb] at hr; simpa using hr), _, _, rfl⟩
    | false => exact .inl ⟨by simp [hb], by rw [hb] at hr; simpa using hr⟩
  refine ⟨t1, t2, ?_⟩
  rw [h1, numbered_find (q := fun r => !rowOk i rows.length r) fun _ _ => rfl]
  cases e : rows.findIdx? fun r => !rowOk i rows.length r with
  | none => simp
  | some k =>
    have hi := (List.findIdx?_eq_some_iff_findIdx_eq.mp e).1
    simp [List.getElem?_eq_getElem hi]
theorem fault_answers {m : Nat} {d : D} {as : List D} (h : Ok m (.tup as)) (t1 t2 : AL.Slot) : ∃ u1 u3, forGo (bTup 2 (bCons (bName 1) (bCons (bName 3) bNil))) faultA (numbered 0 as) [.sh d, t1, t2, .no] =
    (match as.findIdx? (fun x => !from0 0 x) with | some k => .ok (.rt (.tup [.int 2, .int (k : Nat)])) | none => .ok (.nx [.sh d, u1, t2, u3])) := by
  obtain ⟨ρ', h1, u1, u3, rfl⟩ := for_find (fb := bTup 2 (bCons (bName 1) (bCons (bName 3) bNil))) (g := faultA) (I := fun ρ => ∃ u1 u3, ρ = [.sh d, u1, t2, u3])
    (p := fun d => match d with | .tup [_, y] => !from0 0 y | _ => false) (r := fun d => match d with | .tup [k, _] => .tup [.int 2, k] | _ => .non) (xs := numbered 0 as) (ρ := [.sh d, t1, t2, .no]) ⟨_, _, rfl⟩ fun x hx ρ hI => by
    obtain ⟨u1, u3, rfl⟩ := hI
    obtain ⟨k, y, hy, rfl⟩ := numbered_mem hx
    have hf := q_from 0 (h.mem hy).known
    refine ⟨_, rfl, ?_⟩
    cases hb : from0 0 y with
    | true => exact .inr ⟨by simp [hb], [.sh d, .sh (.int k), t2, .sh y], .inl (by simp [faultA, hf, hb, -q_is_from]), _, _, rfl⟩
    | false => exact .inl ⟨by simp [hb], by simp [faultA, hf, hb, -q_is_from]⟩
  refine ⟨u1, u3, ?_⟩
  rw [h1, numbered_find (q := fun r => !from0 0 r) fun _ _ => rfl]
  cases e : as.findIdx? fun r => !from0 0 r with
  | none => simp
  | some k =>
    have hi := (List.findIdx?_eq_some_iff_findIdx_eq.mp e).1
    simp [List.getElem?_eq_getElem hi]
theorem q_fault {m : Nat} (hm : m ≤ 1000000) {d : D} (g : Ok m d) : x_summary_fault [d] = .ok (faultOf d) := by
  have hk := g.known
  cases d with
  | tup xs =>
    rcases xs with _ | ⟨a, _ | ⟨b, _ | ⟨c, _ | ⟨e, r⟩⟩⟩⟩
    · simp [x_summary_fault, y_summary_fault, env0, faultOf]
    · simp [x_summary_fault, y_summary_fault, env0, faultOf]
    · simp [x_summary_fault, y_summary_fault, env0, faultOf]
    · have ga := g.mem (x := a) (by simp)
      have gb := g.mem (x := b) (by simp)
      have gc := g.mem (x := c) (by simp)
      have hf := q_from 1 ga.known
      cases a with
      | int i =>
        simp only [from0] at hf
        by_cases h1 : 1 ≤ i
        · rw [decide_eq_true h1] at hf
          cases b with
          | tup rows =>
            have hn := opEq_nil (xs := rows) gb.plains
            cases h2 : rows.isEmpty with
            | true => simp [x_summary_fault, y_summary_fault, env0, faultOf, hf, h1, -q_is_from, hn, h2]
            | false =>
              obtain ⟨t1, t2, hr⟩ := fault_rows (i := i) (c := c) hm gb
              unfold faultR at hr
              rw [h2] at hn
              cases h3 : rows.findIdx? (fun r => !rowOk i rows.length r) with
              | some k =>
                rw [h3] at hr
                simp [x_summary_fault, y_summary_fault, env0, faultOf, hf, h1, -q_is_from, hn, h2, Sq.xs, hr, h3]
              | none =>
                rw [h3] at hr
                cases c with
                | tup as =>
                  by_cases h4 : as.length = rows.length
                  · obtain ⟨u1, u3, ha⟩ := fault_answers (d := .tup [.int i, .tup rows, .tup as]) gc t1 t2
                    unfold faultA at ha
                    cases h5 : as.findIdx? (fun x => !from0 0 x) with
                    | some k =>
                      rw [h5] at ha
                      simp [x_summary_fault, y_summary_fault, env0, faultOf, hf, h1, -q_is_from, hn, h2, Sq.xs, hr, h3, h4, ha, h5]
                    | none =>
                      rw [h5] at ha
                      simp [x_summary_fault, y_summary_fault, env0, faultOf, hf, h1, -q_is_from, hn, h2, Sq.xs, hr, h3, h4, ha, h5]
                  · have h4' : ¬ ((as.length : Int) = (rows.length : Int)) := by omega
                    simp [x_summary_fault, y_summary_fault, env0, faultOf, hf, h1, -q_is_from, hn, h2, Sq.xs, hr, h3, h4, h4']
                | well => cases gc.plain
                | raw a => cases gc.plain
                | exc a d c f xs => cases gc.plain
                | err c f xs => cases gc.plain
                | dic ks vs => cases gc.plain
                | fn i vs => cases gc.plain
                | pf i cl => cases gc.plain
                | _ => simp [x_summary_fault, y_summary_fault, env0, faultOf, hf, h1, -q_is_from, hn, h2, Sq.xs, hr, h3]
          | well => cases gb.plain
          | raw a => cases gb.plain
          | exc a d c f xs => cases gb.plain
          | err c f xs => cases gb.plain
          | dic ks vs => cases gb.plain
          | fn i vs => cases gb.plain
          | pf i cl => cases gb.plain
          | _ => simp [x_summary_fault, y_summary_fault, env0, faultOf, hf, h1, -q_is_from]
        · rw [decide_eq_false h1] at hf
          simp [x_summary_fault, y_summary_fault, env0, faultOf, hf, h1, -q_is_from]
      | well => cases ga.plain
      | raw a => cases ga.plain
      | exc a d c f xs => cases ga.plain
      | err c f xs => cases ga.plain
      | dic ks vs => cases ga.plain
      | fn i vs => cases ga.plain
      | pf i cl => cases ga.plain
      | _ => simp [x_summary_fault, y_summary_fault, env0, faultOf]
    · have hl : decide ((r.length : Int) + 1 + 1 + 1 + 1 = 3) = false := decide_eq_false (by omega)
      simp [x_summary_fault, y_summary_fault, env0, faultOf, hl]
  | well => cases g.plain
  | raw a => cases g.plain
  | exc a d c f xs => cases g.plain
  | err c f xs => cases g.plain
  | dic ks vs => cases g.plain
  | fn i vs => cases g.plain
  | pf i cl => cases g.plain
  | _ => simp [x_summary_fault, y_summary_fault, env0, faultOf]
end
end AL
namespace AL
open PySem
noncomputable section
/-! ## what laws draw: a choice, a summary -/
theorem cut_to (xs : List D) (i : Nat) : cutD xs none (some (i : Int)) = xs.take i := by
  unfold cutD
  rw [HT.sIx_none, HT.sIx_nat, List.drop_zero, Nat.sub_zero]
  by_cases h : i ≤ xs.length
  · rw [Nat.min_eq_left h]
  · rw [Nat.min_eq_right (by omega), List.take_length, List.take_of_length_le (by omega)]
theorem cut_from (xs : List D) (i : Nat) : cutD xs (some (i : Int)) none = xs.drop i := by
  unfold cutD
  rw [HT.sIx_none, HT.sIx_nat]
  by_cases h : i ≤ xs.length
  · rw [Nat.min_eq_left h, List.take_of_length_le (by rw [List.length_drop]; omega)]
  · rw [Nat.min_eq_right (by omega), List.drop_length, List.drop_of_length_le (by omega)]
    simp
theorem cut_from1 (xs : List D) (i : Nat) : cutD xs (some ((i : Int) + 1)) none = xs.drop (i + 1) := cut_from xs (i + 1)
theorem cut_one (xs : List D) : cutD xs (some 1) none = xs.drop 1 := cut_from xs 1
theorem cut_two (xs : List D) : cutD xs none (some 2) = xs.take 2 := cut_to xs 2
theorem cut_last (xs : List D) : cutD xs none (some (-1)) = xs.take (xs.length - 1) := by
  unfold cutD
  rw [HT.sIx_none, List.drop_zero, Nat.sub_zero]
  have : HT.sIx xs.length xs.length (some (-1)) = xs.length - 1 := by
    show (if (-1 : Int) < 0 then ((-1 : Int) + (xs.length : Int)).toNat else min (-1 : Int).toNat xs.length) = _
    rw [if_pos (by decide)]
    omega
  rw [this]
def chooseG : DEnv → T Fl :=
  (gRet (dIx (dSqV 1) (dCall 2 fTake (dCons (dV 0) (dCons (dLen (dSqV 1)) dNil)))))
theorem run_choose {xs : List D} (h0 : 0 < xs.length) (h1 : xs.length < 1000) : run (bodyT 2 chooseG [.well, .lst xs]) 1 fun d => d ∈ xs := by
  refine run_body ?_
  unfold chooseG
  refine run_imp (run_ret (P := fun d => d ∈ xs) ?_) fun _ z => z
  rw [s_dIx]
  have e1 : dSqV 1 (env0 2 [D.well, .lst xs]) = .ok (.l xs) := rfl
  rw [e1, T.bind_ok]
  refine run_bind0 (run_dCall0 (ds := [.well, .int (xs.length : Nat)]) rfl rfl (run_take' h0 (by omega))) fun d hd => ?_
  obtain ⟨r, rfl, hr⟩ := hd
  have e2 : opIx (.l xs) (nD r) = .ok xs[r] := opIx_l (List.getElem?_eq_getElem hr)
  exact run_eq e2 (List.getElem_mem hr)
def summaryG : DEnv → T Fl :=
  (gSeq (gSetN 4 (dLst dNil))
  (gSeq (gFor (dRange1 (dV 2)) (bName 5)
  (gAppend 4 (dTupOf (dSqN (dLc (dRange1 (dV 1)) (bName 6) dYes (dCall 2 fTake (dCons (dV 0) (dCons (dV 2) dNil))) [6])))))
  (gRet (dTup (dCons (dV 1) (dCons (dTupOf (dSqV 4)) (dCons (dTupOf (dSqN (dLc (dRange1 (dV 2)) (bName 5) dYes (dCall 2 fTake (dCons (dV 0) (dCons (dV 3) dNil))) [5]))) dNil)))))))
theorem run_summary {E S A : Nat} (e1 : 1 ≤ E) (e2 : E ≤ 6) (s1 : 1 ≤ S) (s2 : S ≤ 12) (a1 : 1 ≤ A) (a2 : A ≤ 100) : run (bodyT 7 summaryG [.well, nD E, nD S, nD A]) (E * S + S) fun d => ∃ mv an, d = sD3 E mv an ∧ Val E mv an ∧ mv.length = S ∧ ∀ x ∈ an, x < A := by
  have hr : rangeT (nD S) = .ok ((List.range S).map nD) := rangeT_nat (n := S) (by omega)
  refine run_body ?_
  unfold summaryG
  rw [show env0 7 [.well, nD E, nD S, nD A] = [.sh .well, .sh (nD E), .sh (nD S), .sh (nD A), .no, .no, .no] from rfl]
  refine run_seq0 (ρ' := [.sh .well, .sh (nD E), .sh (nD S), .sh (nD A), .own [], .no, .no]) (by simp) ?_
  refine run_seq (P := fun ρ => ∃ (mv : List (List Nat)) (s5 s6 : AL.Slot), ρ = [.sh .well, .sh (nD E), .sh (nD S), .sh (nD A), .own (mv.map rD), s5, s6] ∧ mv.length = S ∧ ∀ r ∈ mv, r.length = E ∧ ∀ x ∈ r, x < S) ?_ ?_
  · rw [s_gFor, s_dRange1, show dV 2 [Slot.sh .well, .sh (nD E), .sh (nD S), .sh (nD A), .own [], .no, .no] = .ok (nD S) from rfl, T.bind_ok, hr, T.ex_ok]
    have r := run_for (fb := bName 5) (g := gAppend 4 (dTupOf (dSqN (dLc (dRange1 (dV 1)) (bName 6) dYes (dCall 2 fTake (dCons (dV 0) (dCons (dV 2) dNil))) [6])))) (c := 1 * E)
      (fun i ρ => ∃ (mv : List (List Nat)) (s5 s6 : AL.Slot), ρ = [.sh .well, .sh (nD E), .sh (nD S), .sh (nD A), .own (mv.map rD), s5, s6] ∧ mv.length = i ∧ ∀ r ∈ mv, r.length = E ∧ ∀ x ∈ r, x < S) ((List.range S).map nD) 0
      [.sh .well, .sh (nD E), .sh (nD S), .sh (nD A), .own [], .no, .no] ⟨[], _, _, rfl, rfl, by simp⟩ fun i x ρ hx hI => by
      obtain ⟨mv, s5, s6, rfl, l1, l2⟩ := hI
      rw [Nat.zero_add] at l1 ⊢
      have hi : i < S := by
        have := (List.getElem?_eq_some_iff.mp hx).1
        simpa using this
      refine ⟨_, rfl, ?_⟩
      refine run_imp (run_append (P := fun d => ∃ ds, d = .tup ds ∧ ds.length = E ∧ ∀ y ∈ ds, ∃ r : Nat, y = nD r ∧ r < S) (xs := mv.map rD) rfl (by rw [List.length_map]; exact szt (by omega)) (run_tup_draws (n := E) rfl (by omega) fun k hk => ?_)) fun fl ⟨d, ⟨ds, hd, hl, hp⟩, e⟩ => ?_
      · exact run_dCall0 (ds := [.well, nD S]) rfl rfl (run_take' (by omega) (by omega))
      · obtain ⟨rs, e2, hrs⟩ := nats_of hp
        subst hd e2 e
        refine ⟨_, .inl rfl, mv ++ [rs], _, _, by rw [List.map_append]; rfl, by rw [List.length_append, l1]; rfl, fun r hr => ?_⟩
        rcases List.mem_append.mp hr with z | z
        · exact l2 r z
        · rw [List.mem_singleton.mp z]
          exact ⟨by rw [← hl, List.length_map], hrs⟩
    rw [show 1 * E * ((List.range S).map nD).length = E * S by rw [List.length_map, List.length_range, Nat.one_mul]] at r
    refine run_imp r fun fl ⟨ρ2, e, mv, s5, s6, e2, l1, l2⟩ => ⟨ρ2, e, mv, s5, s6, e2, ?_, l2⟩
    rw [l1, List.length_map, List.length_range, Nat.zero_add]
  · rintro ρ ⟨mv, s5, s6, rfl, l1, l2⟩
    refine run_imp (run_ret (P := fun d => ∃ mv an, d = sD3 E mv an ∧ Val E mv an ∧ mv.length = S ∧ ∀ x ∈ an, x < A) ?_) fun _ z => z
    have ra := run_tup_draws (ρ := [.sh .well, .sh (nD E), .sh (nD S), .sh (nD A), .own (mv.map rD), s5, s6]) (i := 5) (n := S) (c := 1) (f := dV 2) (fe := dCall 2 fTake (dCons (dV 0) (dCons (dV 3) dNil))) (vs := [5]) (P := fun d => ∃ r : Nat, d = nD r ∧ r < A) rfl (by omega) fun k hk => run_dCall0 (ds := [.well, nD A]) rfl rfl (run_take' (m := A) (by omega) (by omega))
    rw [Nat.one_mul] at ra
    have hz : mv.length ≤ sizeLine := szl (by omega)
    have ht : dTupOf (dSqV 4) [.sh .well, .sh (nD E), .sh (nD S), .sh (nD A), .own (mv.map rD), s5, s6] = .ok (.tup (mv.map rD)) := by simp [Sq.xs, hz]
    have r := run_dTup (run_cons (run_pure (t := dV 1 [.sh .well, .sh (nD E), .sh (nD S), .sh (nD A), .own (mv.map rD), s5, s6]) rfl) (run_cons (run_pure ht) (run_cons ra run_nil))) fun ds h => by
      obtain ⟨d1, r1, rfl, _, d2, r2, rfl, _, d3, r3, rfl, _, rfl⟩ := h
      simp
    refine run_mono r (by omega) fun d h => ?_
    obtain ⟨_, rfl, d1, r1, rfl, rfl, d2, r2, rfl, rfl, d3, r3, rfl, ⟨ds, rfl, hl, hp⟩, rfl⟩ := h
    obtain ⟨an, rfl, han⟩ := nats_of hp
    rw [List.length_map] at hl
    exact ⟨mv, an, rfl, ⟨e1, fun z => by rw [z] at l1; simp at l1; omega, fun r hr => ⟨(l2 r hr).1, by rw [l1]; exact (l2 r hr).2⟩, by rw [hl, l1], by omega, by omega⟩, l1, han⟩
theorem sum_ok {E : Nat} {mv : List (List Nat)} {an : List Nat} (v : Val E mv an) {m : Nat} (hE : E ≤ m) (hS : mv.length ≤ m) (h3 : 3 ≤ m) : Ok m (sD3 E mv an) :=
  Ok.tup h3 fun x hx => by
    simp only [List.mem_cons, List.mem_nil_iff, or_false] at hx
    rcases hx with h | h | h <;> rw [h]
    · exact Ok.nat _
    · refine Ok.tup (by rwa [List.length_map]) fun y hy => ?_
      obtain ⟨r, hr, rfl⟩ := List.mem_map.mp hy
      exact Ok.row (by rw [(v.row r hr).1]; exact hE)
    · exact Ok.row (by rw [v.an]; exact hS)
theorem sum_show {E : Nat} {mv : List (List Nat)} {an : List Nat} (v : Val E mv an) (hE : E ≤ 100) (hm : mv.length ≤ 100) (ha : ∀ x ∈ an, x < 1000) : (sD3 E mv an).canShow := by
  refine canShow_of ?_ ?_ ?_
  · have h1 : D.nums (mv.map rD) = true := nums_rD fun r hr x hx => by have := (v.row r hr).2 x hx; omega
    have h2 := num_rD (l := an) fun x hx => by have := ha x hx; omega
    simp only [sD3, D.num, D.nums, h1, h2, num_nD (x := E) (by omega), Bool.and_self]
  · have h1 := szs_rD (m := mv) (k := 100) fun r hr => by rw [(v.row r hr).1]; exact hE
    have h2 := sz_rD an
    have h3 := v.an
    simp only [sD3, D.sz, D.szs, h2, sz_nD]
    exact szl (by omega)
  · have h1 := deps_rD mv
    have h2 := dep_rD an
    simp only [sD3, D.dep, D.deps, dep_nD]
    omega
/-- 1 + a draw -/
theorem run_one {m : Nat} (h0 : 0 < m) (h1 : m < 1000) {ρ : DEnv} {i : Nat} (h2 : ρ[i]? = some (.sh .well)) : run (dB opAdd (dC (.int 1)) (dCall 2 fTake (dCons (dV i) (dCons (dC (.int (m : Nat))) dNil))) ρ) 1 fun d => ∃ n : Nat, d = nD n ∧ 1 ≤ n ∧ n ≤ m := by
  refine run_mono (run_dB (c1 := 0) (c2 := 1) (run_pure (t := dC (.int 1) ρ) rfl) (run_dCall0 (ds := [.well, .int (m : Nat)]) (by simp [h2]) rfl (run_take' h0 (by omega))) fun x y hx hy => ?_) (Nat.le_refl _) fun _ z => z
  obtain ⟨r, rfl, hr⟩ := hy
  subst hx
  exact run_ok ⟨r + 1, by simp [nD]; omega, by omega, by omega⟩
end
end AL
namespace AL
open PySem PySem.Spec PyProof.Rows L2
noncomputable section
variable [Tb]
/-! ## errors as values -/
section
variable {X : Cx} {W : WX}
theorem StepE.layF {w : Addr} {F : Addr → Prop} {H : Hp} {n : Nat} {p : Addr} {o : HO} (b : Base w F H n) (hp : H p = none) (t : NT o := by first | assumption | exact AL.nt_lst | exact AL.nt_tup | exact AL.nt_xd | exact AL.nt_dK | exact AL.nt_ext | exact AL.nt_exo | exact AL.nt_exd | exact fun _ h => by cases h) : StepE w F H (fun a => F a ∨ a = p) (upd H p o) ∧ Base w (fun a => F a ∨ a = p) (upd H p o) n :=
  ⟨StepE.lay (w := w) (F := F) (o := o) hp b.well.there, b.lay hp⟩
/-! ### C(e), C without own __init__ -/
def dMk0 (C : Addr) (f : DEnv → T D) : DEnv → T D := fun ρ => (f ρ).bind fun _ => .ok (.err C "" [])
theorem de_mk0 {C : Addr} {bmB : List Value} {B newId initId : String} {x : Str} {p pos : Pos} {e : Expr} {f : DEnv → T D} (F : ExcBaseFacts B newId initId bmB) (q : PySem.W.excIn X.K C bmB newId = true) (gC : X.mg x = some (.ref C))
    (kC : PySem.W.keepIn X.K (.ref C) = true) (hg : Gl X x) (ha : PE X e (tD X.K X.mg W f)) (hdb : (x == ("__debug__" : Str)) = false := by decide)
    (he : starEach (e :: []) X.env = (false, eval e X.env) :: starEach [] X.env := by rfl) (hpl : (backTo pos (starEach [] X.env)).any (·.1) = false := by rfl) :
    PE X (.Call (.Name x p) [e] [] pos) (tD X.K X.mg W (dMk0 C f)) := by
  refine ⟨fun pins s σ H Q I ⟨w, F0, ρ, n, c, q0⟩ => ?_⟩
  refine wpAny_Call_Name_kw (ld_glob I hg gC ?_ hdb)
  refine PySem.W.callWith_K (h₀ := X.base) I.ok.mod.kin kC (thn ((pa_cons ha pa_nil he).run pos pins s σ H (fun vs H1 => ∃ v, vs = [v] ∧ ∀ a, H1 a = none → Q (.ref a) (upd H1 a (exo a C none))) I (arg1 ?_)) fun us s1 ⟨vs, H1, I1, r1, v, ev, q1⟩ => ⟨I1.kIn, ?_⟩) he hpl
  · refine tD.go c (T.wp_bind _ _ |>.mp q0) (fun _ _ h => h) fun d m q1 F1 H1 v s1 c1 r => ⟨v, rfl, fun a na => ?_⟩
    obtain ⟨s2, b2⟩ := StepE.layF (o := exo a C none) c1.toBase na
    exact q1 _ _ _ (s1.trans s2) b2 (.err0 (.inr rfl) upd_same)
  · subst ev
    show wpAny _ _ (call (.ref C) us) _ _ _
    obtain ⟨bm, N, nm, qn, bs, hdct, sn, sub, ab, col, dd, k0, k1, k2, k3, k5, mN, hC, hN, hni, T⟩ := exc_obj I1.kIn q
    refine wpAny_call_exc_subT F T hC hN hni (fun h' a hm => ?_) (by rw [← r1.length]; exact szl_1)
    obtain ⟨t, ht, _, _⟩ := hm.there
    have na := I1.hok.gone hm.new
    exact ⟨.ref a, _, I1.laidN (t' := s1.toks) hm.keeps hm.new na (exo_ok ht), rfl, q1 a na⟩
/-! ### C(e), C's own __init__ keeps e -/
def dMk1 (C : Addr) (fl : Str) (f : DEnv → T D) : DEnv → T D := fun ρ => (f ρ).bind fun d => if RaiseOk d then .ok (.err C fl [d]) else .fail
theorem de_mk1 {x fl : Str} {C fI : Addr} {k : Nat} {fd : FuncData} {ps : List Str} {e : Expr} {g : DEnv → T D} {p pos : Pos} (TC : OexC X.K C) (hno : PySem.W.findIn X.K (.ref C) fl = some none) (iC : PySem.W.findIn X.K (.ref C) "__init__" = some (some (.ref fI))) (tI : PySem.W.typeIn X.K (.ref fI) = some (.type "function"))
    (FI : FnG X.prog X.w X.K X.mg X.base k fI fd ps (spInit X.K C fl)) (hr : Room (k + 1) X.A) (hG : X.A.guards = some []) (hb : Binds X.K fd ps []) (hg : Gl X x) (hm : X.mg x = some (.ref C)) (h : PE X e (tD X.K X.mg W g))
    (hdb : (x == ("__debug__" : Str)) = false := by decide) (he : starEach (e :: []) X.env = (false, eval e X.env) :: starEach [] X.env := by rfl) (hpl : (backTo pos (starEach [] X.env)).any (·.1) = false := by rfl) :
    PE X (.Call (.Name x p) [e] [] pos) (tD X.K X.mg W (dMk1 C fl g)) := by
  refine ⟨fun pins s σ H Q I ⟨w, F0, ρ, n, c, q0⟩ => ?_⟩
  obtain ⟨nm, qn, N, bs, bm, sn, sub, ab, col, dd, k0, k1, k2, k3, k5, hC, hbm⟩ := TC.cls
  refine wpAny_Call_Name_kw (ld_glob I hg hm ?_ hdb)
  refine PySem.W.callWith_K (h₀ := X.base) I.ok.mod.kin TC.kC (thn ((pa_cons h pa_nil he).run pos pins s σ H (fun vs H1 => ∃ v d, vs = [v] ∧ RaiseOk d ∧ (∀ a, H1 a = none → Dp X.K (upd H1 a (exo a C none)) v d.py) ∧
    ∀ a dx, H1 a = none → H1 dx = none → dx ≠ a → Q (.ref a) (upd (upd (upd H1 a (exo a C none)) dx (exd dx [(fl, v)])) a (exo a C (some dx)))) I (arg1 ?_)) ?_) he hpl
  · refine tD.go c (T.wp_bind _ _ |>.mp q0) (fun _ _ h => h) fun d m q1 F1 H1 v s1 c1 r => ?_
    split at q1
    · rename_i hd
      refine ⟨v, d, rfl, hd, fun a na => ?_, fun a dx na ndx nda => ?_⟩
      · have s2 := StepE.layOwn (w := w) (F := F1) (o := exo a C none) na
        exact (r.step s2 c1.toBase).dp hd.1.1
      · have eH : upd (upd (upd H1 a (exo a C none)) dx (exd dx [(fl, v)])) a (exo a C (some dx)) = upd (upd H1 dx (exd dx [(fl, v)])) a (exo a C (some dx)) := by
          funext b
          by_cases e1 : b = a
          · rw [e1, upd_same, upd_same]
          · rw [upd_ne e1, upd_ne e1]
            by_cases e2 : b = dx
            · rw [e2, upd_same, upd_same]
            · rw [upd_ne e2, upd_ne e2, upd_ne e1]
        rw [eH]
        obtain ⟨s2, b2⟩ := StepE.layF (o := exd dx [(fl, v)]) c1.toBase ndx
        have na2 : upd H1 dx (exd dx [(fl, v)]) a = none := by rw [upd_ne nda.symm]; exact na
        obtain ⟨s3, b3⟩ := StepE.layF (o := exo a C (some dx)) b2 na2
        exact q1 _ _ _ ((s1.trans s2).trans s3) b3 (.err1 (.inr rfl) (.inl (.inr rfl)) upd_same (by rw [upd_ne nda]; exact upd_same) ((r.step s2 c1.toBase).step s3 b2))
    · exact q1.elim
  rintro us s1 ⟨vs, H1, I1, r1, v, d, ev, hd, hdp, q1⟩
  subst ev
  refine ⟨I1.kIn, ?_⟩
  show wpAny _ _ (call (.ref C) us) _ _ _
  obtain ⟨hp, g0, dr, tk, os⟩ := s1
  have up : hp.objs.size ≤ hp.objs.size + 1 := Nat.le_succ _
  have free : H1 (hp.objs.size + 1) = none := I1.hok.fresh up
  have keep2 : ∀ b o, hp.get? b = some o → ((hp.push (PySem.W.kdv_tup us)).push (PySem.HandSPX.excO C hp.objs.size)).get? b = some o := fun b o z => Heap.get?_push_of_some _ (Heap.get?_push_of_some _ z)
  have there : ((hp.push (PySem.W.kdv_tup us)).push (PySem.HandSPX.excO C hp.objs.size)).get? (hp.objs.size + 1) = some (PySem.HandSPX.excO C hp.objs.size) := by heap_get
  have I2 : Inv X pins σ (upd H1 (hp.objs.size + 1) (exo (hp.objs.size + 1) C none)) ⟨(hp.push (PySem.W.kdv_tup us)).push (PySem.HandSPX.excO C hp.objs.size), g0, dr, tk, os⟩ :=
    I1.laid (t' := tk) (a := hp.objs.size + 1) (o := exo (hp.objs.size + 1) C none) (h' := (hp.push (PySem.W.kdv_tup us)).push (PySem.HandSPX.excO C hp.objs.size)) keep2 up (exo_ok there)
  have r2 : Vals (V.ref (hp.objs.size + 1) :: [v]) (Value.ref (hp.objs.size + 1) :: us) := .cons rfl r1
  have q3 : spInit X.K C fl (V.ref (hp.objs.size + 1) :: [v]) (upd H1 (hp.objs.size + 1) (exo (hp.objs.size + 1) C none)) (fun r H2 => r = .non ∧ Q (.ref (hp.objs.size + 1)) H2) (fun _ _ _ => False) :=
    ⟨_, v, d.py, rfl, TC, hno, upd_same, hdp _ free, AL.D.canLay d hd.1.1, hd.1.2.1, hd.2.1, hd.2.2, hd.1.2.2.2, fun dx ndx nda => ⟨rfl, q1 _ dx free (by rw [upd_ne nda] at ndx; exact ndx) nda⟩⟩
  have len2 : (Value.ref (hp.objs.size + 1) :: us).length = ps.length := by rw [← r2.length]; exact FI.len _ _ _ _ q3
  have small : us.length ≤ sizeLine := by rw [← Paired.length r1]; exact szl_1
  have bnd := hb ⟨(hp.push (PySem.W.kdv_tup us)).push (PySem.HandSPX.excO C hp.objs.size), g0, dr, tk, os⟩ (Value.ref (hp.objs.size + 1) :: us) I2.kIn (by rw [List.append_nil]; exact len2)
  rw [List.append_nil] at bnd
  refine wpAny_call (PySem.HandSPX.call_own F.excBase_ValueError (fun Y => PySem.HandSPX.refsVE_contains Y bm hbm) (I1.kIn _ _ hC) (PySem.W.looks_findIn I1.kIn iC) (fun self => PySem.W.bind_fn I1.kIn self tI) small
    (codeAny_mono (FI.run _ X.stack _ _ ⟨Value.ref (hp.objs.size + 1) :: us, []⟩ (Value.ref (hp.objs.size + 1) :: us) _ _ (fun _ _ _ => False) (hr.make C us []) (make_guards hG C us []) (I2.env0.make C us []) bnd r2 q3) ?_))
  intro r s' res
  match r, res with
  | .error er, res =>
    obtain ⟨_, _, _, _, _, _, _, _, _, _, _, _, z⟩ := res
    exact z.elim
  | .ok (.ret u), res =>
    obtain ⟨v2, H2, J, rv, ev, qq⟩ := I2.after res
    subst ev
    exact ⟨rv, .ref (hp.objs.size + 1), H2, J, rfl, qq⟩
  | .ok .next, res => exact False.elim res
  | .ok .brk, res => exact False.elim res
  | .ok .cont, res => exact False.elim res
end
end
end AL
namespace AL
open PySem PySem.Spec PyProof.Rows L2 PySem.W
noncomputable section
variable [Tb]
/-! ## isinstance of errors, their fields -/
section
variable {prog : Program} {w : World} {A : Around} {E : Value → Shared → Prop} {s : Shared} {K : Frag} {x D : Addr} {ox : Obj} {od : Option Obj}
theorem findObj_dataG {C : Addr} {name : Str} {a g : Value} (hc : (clsIn K C).isSome = true) (ha : findIn K (.ref C) name = some (some a)) (hg : specialIn K a "__get__" = some (some g)) (ht : takesIn K a = some true) : findObj K C od name = some (.bind g a) := by
  obtain ⟨cd, hc⟩ := Option.isSome_iff_exists.mp hc
  unfold findObj
  rw [hc, Option.bind_some, ha, Option.bind_some]
  simp [hg, ht]
theorem err_class (C : ExcC K D) {Q : Option Value → Shared → Prop} (X : K.In s.heap) (I : InstAt s.heap x ox D od) (h : Q (some (.ref D)) { s with toks := s.toks + 1 }) : wpAny (model prog w) A (getAttr? (.ref x) "__class__") Q E s := by
  have hf : findObj K D od "__class__" = some (.bind (.builtin "getset_descriptor.__get__") (.builtin "object.__class__")) := findObj_dataG (by obtain ⟨cd, hc, _⟩ := any_some C.hd; rw [hc]; rfl) C.ha C.hn C.ht
  obtain ⟨hp, g, d, t, os⟩ := s
  have L0 := I.type (M := model prog w)
  have L1 := looks_findIn (M := model prog w) X C.hg
  have L2 := looks_findIn (M := model prog w) X C.hk
  have L3 := looks_find (M := model prog w) X I hf
  have sub : Looks (model prog w) hp (isInstance (.ref x) (.type "BaseException")) true := L0.andThen (looks_subIn X C.hs)
  have hx0 : (false && onTheHeap (Value.builtin "BaseException.__getattribute__")) = false := rfl
  have hx2 : (Value.builtin "BaseException.__getattribute__" == Value.builtin "object.__getattribute__") = false := by decide +kernel
  have hx1 : (onTheHeap (Value.ref D) && Value.builtin "BaseException.__getattribute__" == Value.builtin "object.__getattribute__") = false := by rw [hx2]; rfl
  unfold getAttr? getAttrBy? getAttrBy
  refine wpAny_bind (wpAny_mkText (wpAny_bind (wpAny_attempt (wpAny_holding (wpAny_bind (L0.at (wpAny_bind (L1.at ?_))))))))
  show wpAny _ _ (if (onTheHeap (Value.ref D) && Value.builtin "BaseException.__getattribute__" == Value.builtin "object.__getattribute__") = true then _ else _) _ _ _
  rw [hx1, if_neg Bool.false_ne_true]
  unfold getAttrByItsOwn hookBefore
  refine wpAny_bind ?_
  rw [if_pos (show onTheHeap (Value.ref D) = true from rfl)]
  refine L2.at ?_
  refine wpAny_bind (wpAny_attempt (wpAny_holding ?_))
  unfold callGetattribute
  rw [hx0, if_neg Bool.false_ne_true]
  unfold boundAndCalled
  rw [PySem.F.excAttr_ValueError.ga.bind (.ref x)]
  refine wpAny_bind (wpAny_pure ?_)
  show wpAny _ _ (call (.builtin "BaseException.__getattribute__") [.ref x, .str "__class__" t]) _ _ _
  refine wpAny_call (codeAny_call_builtin PySem.F.excAttr_ValueError.ga.plain PySem.F.entry_bexc_ga ?_)
  refine @check_slot (model prog w) _ _ ⟨hp, g, d, t + 1, os⟩ "BaseException.__getattribute__" "BaseException" "__getattribute__" (.ref x) [.str "__class__" t] [] _ (by decide +kernel) (by decide +kernel) sub (PySem.F.args_bexc_ga (.ref x) (.str "__class__" t)) ?_
  unfold Builtin.«object.__getattribute__»
  refine wpAny_bind (wpAny_of_eq (a := ((Value.ref x : Value), [Value.str "__class__" t])) (by first | rfl | (simp only [slotArgs]; rfl)) ?_)
  refine wpAny_bind (wpAny_pure (wpAny_bind (L0.at (wpAny_bind (L3.at ?_)))))
  show wpAny _ _ (holding [Value.builtin "object.__class__"] (call (.builtin "getset_descriptor.__get__") [.builtin "object.__class__", .ref x, .ref D]) >>= ret) _ _ _
  refine wpAny_bind (wpAny_holding (wpAny_call (class_get (s := ⟨hp, g, d, t + 1, os⟩) (ox := ox) (od := od) X I C.hm ?_)))
  refine wpAny_pure ?_
  show wpAny _ _ (handedOut (.ref D)) _ _ _
  rw [handedOut_of (v := .ref D) rfl]
  first
    | exact wpAny_pure (wpAny_pure h)
    | exact wpAny_pure h
    | exact wpAny_pure (wpAny_bind (wpAny_pure (wpAny_pure h)))
theorem kitx_err (C : ExcC K D) : KitX K (.ref x) (.ref D) (fun h => InstAt h x ox D od) where
  ty := fun _ _ _ I => I.type
  it := fun _ _ X _ => by
    obtain ⟨cdD, hcD, _⟩ := any_some C.hd
    unfold clsIn at hcD
    split at hcD
    · rename_i c' d' cd' sl' ho
      intro A' Q' E' s' k q
      unfold isType loadHead
      exact wpAny_bind (wpAny_loadPart (k _ _ (X _ _ ho)) (wpAny_pure q))
    · cases hcD
  ne := fun h tp dd its n sl X htp => by
    obtain ⟨cdD, hcD, _⟩ := any_some C.hd
    refine Bool.eq_false_iff.mpr fun q => ?_
    have e : D = tp := Value.ref.inj (beq_iff_eq.mp q)
    subst e
    unfold clsIn at hcD
    split at hcD
    · rename_i c' d' cd' sl' ho
      have z := (X _ _ ho).symm.trans htp
      cases z
    · cases hcD
  ca := fun X I k => err_class C X I k
end
/-- a class of errors directly under the class at B -/
structure ErrC (K : Frag) (C B : Addr) : Prop where
  ex : ExcC K C
  mro : (clsIn K C).map (·.mro) = some [.ref C, .ref B, .type "ValueError", .type "Exception", .type "BaseException", .type "object"]
  ty : typeIn K (.ref C) = some (.type "type")
theorem ErrC.sub {K : Frag} {C B : Addr} (e : ErrC K C B) (c : Value) : subIn K (.ref C) c = some ([.ref C, .ref B, .type "ValueError", .type "Exception", .type "BaseException", .type "object"].contains c) := by
  have h := e.mro
  show mroIn K C c = _
  unfold mroIn
  cases hc : clsIn K C with
  | none => rw [hc] at h; cases h
  | some cd =>
    rw [hc] at h
    have e2 : cd.mro = [.ref C, .ref B, .type "ValueError", .type "Exception", .type "BaseException", .type "object"] := Option.some.inj h
    rw [Option.bind_some, e2]
    rfl
theorem ErrC.some_ {K : Frag} {C B : Addr} (e : ErrC K C B) : (clsIn K C).isSome = true := by
  cases hc : clsIn K C with
  | none => have h := e.mro; rw [hc] at h; cases h
  | some cd => rfl
theorem kit_own {K : Frag} {C C2 B : Addr} (e : ErrC K C B) (e2 : ErrC K C2 B) (n : C2 ≠ B) : kitOne K (.ref C) (.ref C2) = some (decide (C = C2)) := by
  unfold kitOne
  by_cases h : C = C2
  · subst h
    rw [if_pos (beq_self_eq_true _), decide_eq_true rfl]
  · have h1 : (Value.ref C == Value.ref C2) = false := Bool.eq_false_iff.mpr fun q => h (Value.ref.inj (beq_iff_eq.mp q))
    rw [h1, if_neg Bool.false_ne_true, decide_eq_false h]
    unfold kitCls
    dsimp only
    rw [e2.ty, e2.some_, if_pos (by simp), e.sub]
    have h2 : (Value.ref C2 == Value.ref C) = false := Bool.eq_false_iff.mpr fun q => h (Value.ref.inj (beq_iff_eq.mp q)).symm
    have h3 : (Value.ref C2 == Value.ref B) = false := Bool.eq_false_iff.mpr fun q => n (Value.ref.inj (beq_iff_eq.mp q))
    simp only [List.contains_cons, h2, h3, Bool.false_or, Option.some.injEq]
    rfl
theorem kit_base {K : Frag} {C B : Addr} (e : ErrC K C B) (n : C ≠ B) (hB : (clsIn K B).isSome = true) (tB : typeIn K (.ref B) = some (.type "type")) : kitOne K (.ref C) (.ref B) = some true := by
  unfold kitOne
  have h1 : (Value.ref C == Value.ref B) = false := Bool.eq_false_iff.mpr fun q => n (Value.ref.inj (beq_iff_eq.mp q))
  rw [h1, if_neg Bool.false_ne_true]
  unfold kitCls
  dsimp only
  rw [tB, hB, if_pos (by simp), e.sub]
  simp only [List.contains_cons, h1, beq_self_eq_true, Bool.true_or, Bool.or_true]
theorem kit_val {K : Frag} {C B : Addr} (e : ErrC K C B) : kitOne K (.ref C) (.type "ValueError") = some true := by
  unfold kitOne
  rw [show (Value.ref C == Value.type "ValueError") = false from rfl, if_neg Bool.false_ne_true]
  unfold kitCls
  dsimp only
  rw [if_pos (by decide +kernel), e.sub]
  simp only [List.contains_cons, beq_self_eq_true, Bool.true_or, Bool.or_true]
/-- isinstance(e, c), e an error -/
def rIsErr (K : Frag) : List V → Hp → VK → Prop := fun xs H Q => ∃ (a C : Addr) (d : Option Addr) (c : V) (cv : Value) (b : Bool), xs = [.ref a, c] ∧ H a = some (exo a C d) ∧ (∀ dx, d = some dx → ∃ fs, H dx = some (exd dx fs)) ∧ ExcC K C ∧ (∀ u, RelV c u → u = cv) ∧ kitOne K (.ref C) cv = some b ∧ Q (.bl b) H
section
variable {X : Cx} {W : WX}
theorem err_inst {pins : List (Addr × Obj)} {σ : St} {H : Hp} {s : Shared} {a C : Addr} {d : Option Addr} (I : Inv X pins σ H s) (ha : H a = some (exo a C d)) (hd : ∀ dx, d = some dx → ∃ fs, H dx = some (exd dx fs)) : ∃ ox od, InstAt s.heap a ox C od := by
  obtain ⟨t1, e1⟩ := exo_at I.hok ha
  cases d with
  | none => exact ⟨_, none, ⟨e1, rfl, rfl, trivial⟩⟩
  | some dx =>
    obtain ⟨fs, ed⟩ := hd dx rfl
    obtain ⟨mA, hns, _⟩ := exd_at I.hok ed
    obtain ⟨o, es, ep, ho, _⟩ := hns
    exact ⟨_, some o, ⟨e1, rfl, rfl, ho⟩⟩
theorem call_isErr : CallR X (.builtin "isinstance") (rIsErr X.K) := by
  intro pins s σ H xs us Q I r h
  obtain ⟨a, C, d, c, cv, b, rfl, ha, hd, hC, hcv, e, q⟩ := h
  obtain ⟨u1, u2, rfl, r1, r2⟩ := vals2 r
  obtain rfl : u1 = Value.ref a := r1
  have ec := hcv _ r2
  subst ec
  obtain ⟨ox, od, J⟩ := err_inst I ha hd
  exact kia_one (kitx_err hC) I.kIn J e (fun z => nomatch z) fun tk => ⟨.bl b, H, I.tok tk, rfl, q⟩
/-- what a value tells, for the rules of errors -/
theorem Rep.err_at {K : Frag} {w : Addr} {F : Addr → Prop} {H : Hp} {v : V} {C : Addr} {f : Str} {xs : List D} (r : Rep K w F H v (.err C f xs)) : ∃ a d, v = .ref a ∧ H a = some (exo a C d) ∧ ∀ dx, d = some dx → ∃ fs, H dx = some (exd dx fs) := by
  cases r with
  | err0 _ h => exact ⟨_, none, rfl, h, fun dx z => by cases z⟩
  | err1 _ _ h k _ => exact ⟨_, _, rfl, h, fun dx z => by cases z; exact ⟨_, k⟩⟩
def dIsE (es : List Addr) (g : Addr → Bool) (f : DEnv → T D) : DEnv → T D := fun ρ => (f ρ).bind fun d => match d with
  | .err C _ _ => if C ∈ es then .ok (.bl (g C)) else .fail
  | _ => .fail
theorem de_isE {es : List Addr} {g : Addr → Bool} {a b : Expr} {f : DEnv → T D} {c : V} {cv : Value} {p pos : Pos} (hg : Gl X "isinstance") (hm : X.mg "isinstance" = none) (hb : PE X b (tC c)) (hcv : ∀ u, RelV c u → u = cv) (hE : ∀ C ∈ es, ExcC X.K C ∧ kitOne X.K (.ref C) cv = some (g C)) (h : PE X a (tD X.K X.mg W f))
    (he : starEach (a :: [b]) X.env = (false, eval a X.env) :: starEach [b] X.env := by rfl) (he2 : starEach (b :: []) X.env = (false, eval b X.env) :: starEach [] X.env := by rfl) (hpl : (backTo pos (starEach [b] X.env)).any (·.1) = false := by rfl) :
    PE X (.Call (.Name "isinstance" p) [a, b] [] pos) (tD X.K X.mg W (dIsE es g f)) :=
  PE.of (pe_callB call_isErr hg hm (by decide +kernel) (pa_cons h (pa_cons hb pa_nil he2) he) (he := he) (hpl := hpl)) fun σ H Q ⟨w, F, ρ, n, c, q⟩ => by
    show tD X.K X.mg W f σ H _
    refine tD.go c (T.wp_bind _ _ |>.mp q) (fun _ _ h => h) fun d m q1 F1 H1 v s1 c1 r => ?_
    cases d with
    | err C fl xs =>
      dsimp only at q1
      split at q1
      · rename_i hC
        obtain ⟨a, d, rfl, h1, h2⟩ := r.err_at
        exact ⟨a, C, d, _, cv, g C, rfl, h1, h2, (hE C hC).1, hcv, (hE C hC).2, q1 F1 H1 _ s1 c1.toBase (.bl _)⟩
      · exact q1.elim
    | _ => exact q1.elim
/-- e.f, e an error that keeps a field -/
def dXfE (C : Addr) (fl : Str) (f : DEnv → T D) : DEnv → T D := fun ρ => (f ρ).bind fun d => match d with
  | .err C' fl' [x] => if C' = C ∧ fl' = fl then .ok x else .fail
  | _ => .fail
theorem de_xfE {C : Addr} {fl : Str} {e : Expr} {f : DEnv → T D} {pos : Pos} (T0 : XfC X.K C) (hno : findIn X.K (.ref C) fl = some none) (h : PE X e (tD X.K X.mg W f)) (hb : attributeBase e fl X.env (eval e X.env) = eval e X.env := by rfl) :
    PE X (.Attribute e fl pos) (tD X.K X.mg W (dXfE C fl f)) := by
  refine ⟨fun pins s σ H Q I ⟨w, F, ρ, n, c, q⟩ => ?_⟩
  refine attr_of hb (thn (h.run pins s σ H (fun v H1 => ∃ a dx v2, v = .ref a ∧ H1 a = some (exo a C (some dx)) ∧ H1 dx = some (exd dx [(fl, v2)]) ∧ Q v2 H1) I ?_) fun u s1 ⟨v, H1, I1, r1, a, dx, v2, ev, h1, h2, q1⟩ => ?_)
  · refine tD.go c (T.wp_bind _ _ |>.mp q) (fun _ _ h => h) fun d m q1 F1 H1 v s1 c1 r => ?_
    cases r with
    | err1 f1 f2 h1 h2 r2 =>
      dsimp only at q1
      split at q1
      · rename_i hh
        obtain ⟨rfl, rfl⟩ := hh
        exact ⟨_, _, _, rfl, h1, h2, q1 _ _ _ s1 c1.toBase r2⟩
      · exact q1.elim
    | _ => exact q1.elim
  · subst ev
    obtain rfl : u = Value.ref a := r1
    obtain ⟨t1, e1⟩ := exo_at I1.hok h1
    obtain ⟨mA, hns, hr⟩ := exd_at I1.hok h2
    obtain ⟨od, ho, hl⟩ := lookIn_ns hns
    have l : [(fl, v2)].lookup fl = some v2 := by simp [List.lookup]
    obtain ⟨u, hu, ru⟩ := RelO.some_of (v := v2) (o := mA fl) (by rw [← l]; exact hr fl)
    have J : InstAt s1.heap a ({ cls := .ref C, dict := some dx, data := .fields #[.ref t1, .none, .none, .none, .bool false, .none] } : Obj) C (some od) := ⟨e1, rfl, rfl, ho⟩
    exact HandSPX.exc_get I1.kIn J T0.ga T0.gg T0.exC (findObj_own T0.hdC hno rfl (by rw [hl, hu])) (handed_of ru) ⟨v2, H1, I1.tok _, ru, q1⟩
@[simp] theorem s_dMk0 (C : Addr) (f : DEnv → T D) (ρ : DEnv) : dMk0 C f ρ = (f ρ).bind fun _ => .ok (.err C "" []) := rfl
@[simp] theorem s_dMk1 (C : Addr) (fl : Str) (f : DEnv → T D) (ρ : DEnv) : dMk1 C fl f ρ = (f ρ).bind fun d => if RaiseOk d then .ok (.err C fl [d]) else .fail := rfl
@[simp] theorem s_dIsE (es : List Addr) (g : Addr → Bool) (f : DEnv → T D) (ρ : DEnv) : dIsE es g f ρ = (f ρ).bind fun d => match d with
  | .err C _ _ => if C ∈ es then .ok (.bl (g C)) else .fail
  | _ => .fail := rfl
@[simp] theorem s_dXfE (C : Addr) (fl : Str) (f : DEnv → T D) (ρ : DEnv) : dXfE C fl f ρ = (f ρ).bind fun d => match d with
  | .err C' fl' [x] => if C' = C ∧ fl' = fl then .ok x else .fail
  | _ => .fail := rfl
end
end
end AL
namespace AL
open PySem PySem.Spec PyProof.Rows L2
noncomputable section
variable [Tb]
/-! ## errors with a text; addresses of classes -/
section
variable {X : Cx} {W : WX}
/-- what __init__(self, v) promises where v is a text -/
def spInitS (K : PySem.W.Frag) (C : Addr) (f : Str) : Sp := fun vs H Q _ => ∃ (a : Addr) (z : Str), vs = [.ref a, .str z] ∧ OexC K C ∧ PySem.W.findIn K (.ref C) f = some none ∧ H a = some (exo a C none) ∧ z.length ≤ 1000000 ∧
  ∀ dx, H dx = none → dx ≠ a → Q .non (upd (upd H dx (exd dx [(f, .str z)])) a (exo a C (some dx)))
def dMk1S (C : Addr) (fl : Str) (f : DEnv → T D) : DEnv → T D := fun ρ => (f ρ).bind fun d => match d with
  | .str z => if z.length ≤ 1000000 then .ok (.err C fl [.str z]) else .fail
  | _ => .fail
theorem de_mk1S {x fl : Str} {C fI : Addr} {k : Nat} {fd : FuncData} {ps : List Str} {e : Expr} {g : DEnv → T D} {p pos : Pos} (TC : OexC X.K C) (hno : PySem.W.findIn X.K (.ref C) fl = some none) (iC : PySem.W.findIn X.K (.ref C) "__init__" = some (some (.ref fI))) (tI : PySem.W.typeIn X.K (.ref fI) = some (.type "function"))
    (FI : FnG X.prog X.w X.K X.mg X.base k fI fd ps (spInitS X.K C fl)) (hr : Room (k + 1) X.A) (hG : X.A.guards = some []) (hb : Binds X.K fd ps []) (hg : Gl X x) (hm : X.mg x = some (.ref C)) (h : PE X e (tD X.K X.mg W g))
    (hdb : (x == ("__debug__" : Str)) = false := by decide) (he : starEach (e :: []) X.env = (false, eval e X.env) :: starEach [] X.env := by rfl) (hpl : (backTo pos (starEach [] X.env)).any (·.1) = false := by rfl) :
    PE X (.Call (.Name x p) [e] [] pos) (tD X.K X.mg W (dMk1S C fl g)) := by
  refine ⟨fun pins s σ H Q I ⟨w, F0, ρ, n, c, q0⟩ => ?_⟩
  obtain ⟨nm, qn, N, bs, bm, sn, sub, ab, col, dd, k0, k1, k2, k3, k5, hC, hbm⟩ := TC.cls
  refine wpAny_Call_Name_kw (ld_glob I hg hm ?_ hdb)
  refine PySem.W.callWith_K (h₀ := X.base) I.ok.mod.kin TC.kC (thn ((pa_cons h pa_nil he).run pos pins s σ H (fun vs H1 => ∃ z : Str, vs = [.str z] ∧ z.length ≤ 1000000 ∧
    ∀ a dx, H1 a = none → H1 dx = none → dx ≠ a → Q (.ref a) (upd (upd (upd H1 a (exo a C none)) dx (exd dx [(fl, V.str z)])) a (exo a C (some dx)))) I (arg1 ?_)) ?_) he hpl
  · refine tD.go c (T.wp_bind _ _ |>.mp q0) (fun _ _ h => h) fun d m q1 F1 H1 v s1 c1 r => ?_
    cases r with
    | str z =>
      dsimp only at q1
      split at q1
      rotate_left
      · exact q1.elim
      rename_i hd
      refine ⟨z, rfl, hd, fun a dx na ndx nda => ?_⟩
      · have r : Rep X.K w F1 H1 (.str z) (.str z) := .str z
        have eH : upd (upd (upd H1 a (exo a C none)) dx (exd dx [(fl, V.str z)])) a (exo a C (some dx)) = upd (upd H1 dx (exd dx [(fl, V.str z)])) a (exo a C (some dx)) := by
          funext b
          by_cases e1 : b = a
          · rw [e1, upd_same, upd_same]
          · rw [upd_ne e1, upd_ne e1]
            by_cases e2 : b = dx
            · rw [e2, upd_same, upd_same]
            · rw [upd_ne e2, upd_ne e2, upd_ne e1]
        rw [eH]
        obtain ⟨s2, b2⟩ := StepE.layF (o := exd dx [(fl, V.str z)]) c1.toBase ndx
        have na2 : upd H1 dx (exd dx [(fl, V.str z)]) a = none := by rw [upd_ne nda.symm]; exact na
        obtain ⟨s3, b3⟩ := StepE.layF (o := exo a C (some dx)) b2 na2
        exact q1 _ _ _ ((s1.trans s2).trans s3) b3 (.err1 (.inr rfl) (.inl (.inr rfl)) upd_same (by rw [upd_ne nda]; exact upd_same) ((r.step s2 c1.toBase).step s3 b2))
    | _ => exact q1.elim
  rintro us s1 ⟨vs, H1, I1, r1, z, ev, hd, q1⟩
  subst ev
  refine ⟨I1.kIn, ?_⟩
  show wpAny _ _ (call (.ref C) us) _ _ _
  obtain ⟨hp, g0, dr, tk, os⟩ := s1
  have up : hp.objs.size ≤ hp.objs.size + 1 := Nat.le_succ _
  have free : H1 (hp.objs.size + 1) = none := I1.hok.fresh up
  have keep2 : ∀ b o, hp.get? b = some o → ((hp.push (PySem.W.kdv_tup us)).push (PySem.HandSPX.excO C hp.objs.size)).get? b = some o := fun b o z => Heap.get?_push_of_some _ (Heap.get?_push_of_some _ z)
  have there : ((hp.push (PySem.W.kdv_tup us)).push (PySem.HandSPX.excO C hp.objs.size)).get? (hp.objs.size + 1) = some (PySem.HandSPX.excO C hp.objs.size) := by heap_get
  have I2 : Inv X pins σ (upd H1 (hp.objs.size + 1) (exo (hp.objs.size + 1) C none)) ⟨(hp.push (PySem.W.kdv_tup us)).push (PySem.HandSPX.excO C hp.objs.size), g0, dr, tk, os⟩ :=
    I1.laid (t' := tk) (a := hp.objs.size + 1) (o := exo (hp.objs.size + 1) C none) (h' := (hp.push (PySem.W.kdv_tup us)).push (PySem.HandSPX.excO C hp.objs.size)) keep2 up (exo_ok there)
  have r2 : Vals (V.ref (hp.objs.size + 1) :: [V.str z]) (Value.ref (hp.objs.size + 1) :: us) := .cons rfl r1
  have q3 : spInitS X.K C fl (V.ref (hp.objs.size + 1) :: [V.str z]) (upd H1 (hp.objs.size + 1) (exo (hp.objs.size + 1) C none)) (fun r H2 => r = .non ∧ Q (.ref (hp.objs.size + 1)) H2) (fun _ _ _ => False) :=
    ⟨_, z, rfl, TC, hno, upd_same, hd, fun dx ndx nda => ⟨rfl, q1 _ dx free (by rw [upd_ne nda] at ndx; exact ndx) nda⟩⟩
  have len2 : (Value.ref (hp.objs.size + 1) :: us).length = ps.length := by rw [← r2.length]; exact FI.len _ _ _ _ q3
  have small : us.length ≤ sizeLine := by rw [← Paired.length r1]; exact szl_1
  have bnd := hb ⟨(hp.push (PySem.W.kdv_tup us)).push (PySem.HandSPX.excO C hp.objs.size), g0, dr, tk, os⟩ (Value.ref (hp.objs.size + 1) :: us) I2.kIn (by rw [List.append_nil]; exact len2)
  rw [List.append_nil] at bnd
  refine wpAny_call (PySem.HandSPX.call_own F.excBase_ValueError (fun Y => PySem.HandSPX.refsVE_contains Y bm hbm) (I1.kIn _ _ hC) (PySem.W.looks_findIn I1.kIn iC) (fun self => PySem.W.bind_fn I1.kIn self tI) small
    (codeAny_mono (FI.run _ X.stack _ _ ⟨Value.ref (hp.objs.size + 1) :: us, []⟩ (Value.ref (hp.objs.size + 1) :: us) _ _ (fun _ _ _ => False) (hr.make C us []) (make_guards hG C us []) (I2.env0.make C us []) bnd r2 q3) ?_))
  intro r s' res
  match r, res with
  | .error er, res =>
    obtain ⟨_, _, _, _, _, _, _, _, _, _, _, _, zz⟩ := res
    exact zz.elim
  | .ok (.ret u), res =>
    obtain ⟨v2, H2, J, rv, ev, qq⟩ := I2.after res
    subst ev
    exact ⟨rv, .ref (hp.objs.size + 1), H2, J, rfl, qq⟩
  | .ok .next, res => exact False.elim res
  | .ok .brk, res => exact False.elim res
  | .ok .cont, res => exact False.elim res
@[simp] theorem s_dMk1S (C : Addr) (fl : Str) (f : DEnv → T D) (ρ : DEnv) : dMk1S C fl f ρ = (f ρ).bind fun d => match d with
  | .str z => if z.length ≤ 1000000 then .ok (.err C fl [.str z]) else .fail
  | _ => .fail := rfl
/-! the address by its name -/
theorem de_mk0e {C A0 : Addr} (hA : C = A0) {bmB : List Value} {B newId initId : String} {x : Str} {p pos : Pos} {e : Expr} {f : DEnv → T D} (F : ExcBaseFacts B newId initId bmB) (q : PySem.W.excIn X.K C bmB newId = true) (gC : X.mg x = some (.ref C))
    (kC : PySem.W.keepIn X.K (.ref C) = true) (hg : Gl X x) (ha : PE X e (tD X.K X.mg W f)) (hdb : (x == ("__debug__" : Str)) = false := by decide)
    (he : starEach (e :: []) X.env = (false, eval e X.env) :: starEach [] X.env := by rfl) (hpl : (backTo pos (starEach [] X.env)).any (·.1) = false := by rfl) :
    PE X (.Call (.Name x p) [e] [] pos) (tD X.K X.mg W (dMk0 A0 f)) := by subst hA; exact de_mk0 F q gC kC hg ha hdb he hpl
theorem de_mk1e {x fl : Str} {C A0 fI : Addr} (hA : C = A0) {k : Nat} {fd : FuncData} {ps : List Str} {e : Expr} {g : DEnv → T D} {p pos : Pos} (TC : OexC X.K C) (hno : PySem.W.findIn X.K (.ref C) fl = some none) (iC : PySem.W.findIn X.K (.ref C) "__init__" = some (some (.ref fI))) (tI : PySem.W.typeIn X.K (.ref fI) = some (.type "function"))
    (FI : FnG X.prog X.w X.K X.mg X.base k fI fd ps (spInit X.K C fl)) (hr : Room (k + 1) X.A) (hG : X.A.guards = some []) (hb : Binds X.K fd ps []) (hg : Gl X x) (hm : X.mg x = some (.ref C)) (h : PE X e (tD X.K X.mg W g))
    (hdb : (x == ("__debug__" : Str)) = false := by decide) (he : starEach (e :: []) X.env = (false, eval e X.env) :: starEach [] X.env := by rfl) (hpl : (backTo pos (starEach [] X.env)).any (·.1) = false := by rfl) :
    PE X (.Call (.Name x p) [e] [] pos) (tD X.K X.mg W (dMk1 A0 fl g)) := by subst hA; exact de_mk1 TC hno iC tI FI hr hG hb hg hm h hdb he hpl
theorem de_mk1Se {x fl : Str} {C A0 fI : Addr} (hA : C = A0) {k : Nat} {fd : FuncData} {ps : List Str} {e : Expr} {g : DEnv → T D} {p pos : Pos} (TC : OexC X.K C) (hno : PySem.W.findIn X.K (.ref C) fl = some none) (iC : PySem.W.findIn X.K (.ref C) "__init__" = some (some (.ref fI))) (tI : PySem.W.typeIn X.K (.ref fI) = some (.type "function"))
    (FI : FnG X.prog X.w X.K X.mg X.base k fI fd ps (spInitS X.K C fl)) (hr : Room (k + 1) X.A) (hG : X.A.guards = some []) (hb : Binds X.K fd ps []) (hg : Gl X x) (hm : X.mg x = some (.ref C)) (h : PE X e (tD X.K X.mg W g))
    (hdb : (x == ("__debug__" : Str)) = false := by decide) (he : starEach (e :: []) X.env = (false, eval e X.env) :: starEach [] X.env := by rfl) (hpl : (backTo pos (starEach [] X.env)).any (·.1) = false := by rfl) :
    PE X (.Call (.Name x p) [e] [] pos) (tD X.K X.mg W (dMk1S A0 fl g)) := by subst hA; exact de_mk1S TC hno iC tI FI hr hG hb hg hm h hdb he hpl
theorem de_xfEe {C A0 : Addr} (hA : C = A0) {fl : Str} {e : Expr} {f : DEnv → T D} {pos : Pos} (T0 : XfC X.K C) (hno : PySem.W.findIn X.K (.ref C) fl = some none) (h : PE X e (tD X.K X.mg W f)) (hb : attributeBase e fl X.env (eval e X.env) = eval e X.env := by rfl) :
    PE X (.Attribute e fl pos) (tD X.K X.mg W (dXfE A0 fl f)) := by subst hA; exact de_xfE T0 hno h hb
end
/-- the address that a name of the module stands for -/
def adrF (mg : Str → Option Value) (n : Str) : Addr := match mg n with
  | some (.ref a) => a
  | _ => 0
theorem adrF_of {mg : Str → Option Value} {n : Str} {a : Addr} (h : mg n = some (.ref a)) : adrF mg n = a := by
  unfold adrF
  rw [h]
theorem cls_mro {K : PySem.W.Frag} {nm q : Str} {C N : Addr} {bs bm : List Value} {sn : List Str} {sub : List Value} {ab : Bool} {col : Option Bool} {dd : Option Addr} {k0 k1 k2 k3 k5 : Option Value}
    (h : K.lookup C = some (excClassObj nm q C N bs bm true sn sub ab col dd k0 k1 k2 k3 k5 "ValueError.__new__")) : (PySem.W.clsIn K C).map (·.mro) = some (.ref C :: bm) := by
  unfold PySem.W.clsIn
  rw [h]
  rfl
theorem cls_some {K : PySem.W.Frag} {nm q : Str} {C N : Addr} {bs bm : List Value} {sn : List Str} {sub : List Value} {ab : Bool} {col : Option Bool} {dd : Option Addr} {k0 k1 k2 k3 k5 : Option Value}
    (h : K.lookup C = some (excClassObj nm q C N bs bm true sn sub ab col dd k0 k1 k2 k3 k5 "ValueError.__new__")) : (PySem.W.clsIn K C).isSome = true := by
  unfold PySem.W.clsIn
  rw [h]
  rfl
end
end AL
namespace AL
open PySem PySem.Spec PyProof.Rows L2
noncomputable section
variable [Tb]
/-! ## functions made while the law runs: heaps with and without their cells -/
mutual
def D.noFn : D → Bool
  | .fn _ _ => false
  | .pf _ _ => false
  | .tup xs => D.noFns xs
  | .lst xs => D.noFns xs
  | .exc _ _ _ _ xs => D.noFns xs
  | .err _ _ xs => D.noFns xs
  | .dic ks vs => D.noFns ks && D.noFns vs
  | .non => true
  | .bl _ => true
  | .int _ => true
  | .str _ => true
  | .well => true
  | .raw _ => true
def D.noFns : List D → Bool
  | [] => true
  | x :: r => D.noFn x && D.noFns r
end
/-- H' but for p, where H stands -/
def rst (p : Addr → Prop) (H H' : Hp) : Hp := fun a => @ite _ (p a) (Classical.propDecidable _) (H a) (H' a)
theorem rst_in {p : Addr → Prop} {H H' : Hp} {a : Addr} (h : p a) : rst p H H' a = H a := if_pos h
theorem rst_out {p : Addr → Prop} {H H' : Hp} {a : Addr} (h : ¬ p a) : rst p H H' a = H' a := if_neg h
/-- the cells of p tracked -/
def adc (p : Addr → Prop) (h : Heap) (H : Hp) : Hp := fun a => @ite _ (p a) (Classical.propDecidable _) ((h.get? a).map (CellO a)) (H a)
theorem adc_in {p : Addr → Prop} {H : Hp} {h : Heap} {a : Addr} {o : Obj} (hp : p a) (e : h.get? a = some o) : adc p h H a = some (CellO a o) := by
  unfold adc
  rw [if_pos hp, e]
  rfl
theorem adc_out {p : Addr → Prop} {H : Hp} {h : Heap} {a : Addr} (hp : ¬ p a) : adc p h H a = H a := if_neg hp
def noH : Hp := fun _ => none
section
variable {P : Program} {wd : World} {K : PySem.W.Frag} {mg : Str → Option Value} {w : Addr} {F F' : Addr → Prop} {H H1 H' : Hp} {h h' B : Heap} {p : Addr → Prop} {n m : Nat} {fs : List Addr}
theorem cell_get {a : Addr} {o : Obj} (hok : HOk P wd H h) (e : H a = some (CellO a o)) : h.get? a = some o := (hok a _ e).1
/-- p's things are cells that stay -/
def CellsIn (p : Addr → Prop) (F : Addr → Prop) (H : Hp) : Prop := ∀ a, p a → F a ∧ ∃ o v, H a = some (CellO a o) ∧ o.data = .cell v
theorem cell_no {a : Addr} {x : HO} (hok : HOk P wd H h) (hp : CellsIn p F H) (e : H a = some x) (k : ∀ o v, x = CellO a o → h.get? a = some o → o.data = .cell v → False) : ¬ p a := fun z => by
  obtain ⟨_, o, v, h1, h2⟩ := hp a z
  have h3 := cell_get hok h1
  rw [e] at h1
  exact k o v (Option.some.inj h1) h3 h2
def F0 (p F : Addr → Prop) : Addr → Prop := fun a => F a ∧ ¬ p a
theorem TupAt.drop {a : Addr} {vs : List V} (hok : HOk P wd H h) (hp : CellsIn p F H) (x : TupAt K F H a vs) : TupAt K (F0 p F) (rst p noH H) a vs := x.imp (fun z => by
  have np := cell_no hok hp z.2 fun o v e => by unfold CellO at e; cases e
  exact ⟨⟨z.1, np⟩, by rw [rst_out np]; exact z.2⟩) id
theorem xo_drop {a C : Addr} {d : Option Addr} (hok : HOk P wd H h) (hp : CellsIn p F H) (e : H a = some (exo a C d)) : ¬ p a := cell_no hok hp e fun o v _ h1 h2 => by
  obtain ⟨t1, h3⟩ := (hok a _ e).1
  rw [h1] at h3
  cases h3
  cases h2
theorem xd_drop {a : Addr} {l : List (Str × V)} (hok : HOk P wd H h) (hp : CellsIn p F H) (e : H a = some (exd a l)) : ¬ p a := cell_no hok hp e fun o v _ h1 h2 => by
  obtain ⟨mA, ⟨od, es, ep, h3, h4, _⟩, _⟩ := (hok a _ e).1
  rw [h1] at h3
  cases h3
  rw [h2] at h4
  cases h4
theorem code_drop {a : Addr} {q : Str} (hok : HOk P wd H h) (hp : CellsIn p F H) (e : H a = some (LamX.CodeO a q)) : ¬ p a := cell_no hok hp e fun o v _ h1 h2 => by
  obtain ⟨oc, vs, t, h3, h4, _⟩ := (hok a _ e).1
  rw [h1] at h3
  cases h3
  rw [h2] at h4
  cases h4
theorem fnQ_drop {a c : Addr} {W : Word} {cl : List (Str × Addr)} (hok : HOk P wd H h) (hp : CellsIn p F H) (e : H a = some (FnQ a W cl c)) : ¬ p a := cell_no hok hp e fun o v _ h1 h2 => by
  obtain ⟨od, sl, doc, pm, ctv, h3⟩ := (hok a _ e).1
  rw [h1] at h3
  cases h3
  cases h2
theorem dic_drop {a : Addr} {o : HO} {ks vs : List V} {kvs : List (D × D)} (hok : HOk P wd H h) (hp : CellsIn p F H) (e : H a = some o) (sh : DShape a o ks vs kvs) : ¬ p a := by
  rcases sh with ⟨is, _, e2⟩ | ⟨wd, xs, e2, _⟩
  · subst e2
    exact cell_no hok hp e fun o v e => by unfold CellO at e; cases e
  · subst e2
    exact cell_no hok hp e fun o v _ h1 h2 => by
      obtain ⟨_, ob, es, ep, h3, _, h4, _⟩ := (hok a _ e).1
      rw [h1] at h3
      cases h3
      rw [h2] at h4
      cases h4
mutual
theorem Rep.uncell (hok : HOk P wd H h) (hp : CellsIn p F H) : ∀ {v : V} {d : D}, Rep K w F H v d → d.noFn = true → Rep K w (F0 p F) (rst p noH H) v d
  | _, _, .non, _ => .non
  | _, _, .bl x, _ => .bl x
  | _, _, .int x, _ => .int x
  | _, _, .str x, _ => .str x
  | _, _, .tup x r, nf => .tup (x.drop hok hp) (Reps.uncell hok hp r (by simpa only [D.noFn] using nf))
  | _, _, .lst f x r, nf => by
    have np := cell_no hok hp x fun o v e => by unfold CellO at e; cases e
    exact .lst ⟨f, np⟩ (by rw [rst_out np]; exact x) (Reps.uncell hok hp r (by simpa only [D.noFn] using nf))
  | _, _, .well, _ => .well
  | _, _, .raw v, _ => .raw v
  | _, _, .exc0, _ => .exc0
  | _, _, .exc1 f x r, nf => by
    have np := cell_no hok hp x fun o v e => by unfold CellO at e; cases e
    exact .exc1 ⟨f, np⟩ (by rw [rst_out np]; exact x) (Rep.uncell hok hp r (by simpa only [D.noFn, D.noFns, Bool.and_true] using nf))
  | _, _, .err0 f x, _ => by
    have np := xo_drop hok hp x
    exact .err0 ⟨f, np⟩ (by rw [rst_out np]; exact x)
  | _, _, .err1 f g x y r, nf => by
    have np := xo_drop hok hp x
    have nq := xd_drop hok hp y
    exact .err1 ⟨f, np⟩ ⟨g, nq⟩ (by rw [rst_out np]; exact x) (by rw [rst_out nq]; exact y) (Rep.uncell hok hp r (by simpa only [D.noFn, D.noFns, Bool.and_true] using nf))
  | _, _, .dic f x sh l r t, nf => by
    have np := dic_drop hok hp x sh
    simp only [D.noFn, Bool.and_eq_true] at nf
    exact .dic ⟨f, np⟩ (by rw [rst_out np]; exact x) sh l (Reps.uncell hok hp r nf.1) (Reps.uncell hok hp t nf.2)
  | _, _, .fn _ _, nf => by simp [D.noFn] at nf
  | _, _, .pf _, nf => by simp [D.noFn] at nf
theorem Reps.uncell (hok : HOk P wd H h) (hp : CellsIn p F H) : ∀ {vs : List V} {ds : List D}, Reps K w F H vs ds → D.noFns ds = true → Reps K w (F0 p F) (rst p noH H) vs ds
  | _, _, .nil, _ => .nil
  | _, _, .cons r t, nf => by
    simp only [D.noFns, Bool.and_eq_true] at nf
    exact .cons (Rep.uncell hok hp r nf.1) (Reps.uncell hok hp t nf.2)
end
theorem Base.drop (hok : HOk P wd H h) (hp : CellsIn p F H) (b : Base w F H n) : Base w (F0 p F) (rst p noH H) n := by
  refine ⟨?_, fun z => b.nw z.1, fun a f => ?_, fun q hq => ?_⟩
  · obtain ⟨x, y, z, h1, h2⟩ := b.well
    have np := cell_no hok hp h1 fun o v e => by unfold CellO at e; cases e
    exact ⟨x, y, z, by rw [rst_out np]; exact h1, h2⟩
  · obtain ⟨o, h1, h2⟩ := b.dom' a f.1
    exact ⟨o, by rw [rst_out f.2]; exact h1, h2⟩
  · obtain ⟨ps, h1, h2, h3⟩ := b.tabs q hq
    have np := cell_no hok hp h1 fun o v e => by unfold CellO at e; cases e
    refine ⟨ps, by rw [rst_out np]; exact h1, h2, fun pos cv hc => ?_⟩
    obtain ⟨c, e1, e2, e3⟩ := h3 pos cv hc
    have nq := code_drop hok hp e3
    exact ⟨c, e1, ⟨e2, nq⟩, by rw [rst_out nq]; exact e3⟩
/-- what a state on p looks like: nothing tracked, or the cells as they are -/
def CellP (p : Addr → Prop) (H : Hp) (h : Heap) : Prop := ∀ a, p a → ∃ o, h.get? a = some o ∧ (H a = none ∨ H a = some (CellO a o))
theorem rst_keep (U : Un fs [] H1 H' h h') (out : ∀ a, ¬ p a → H1 a = H a) (c : CellP p H h) (c' : ∀ a o, p a → h.get? a = some o → h'.get? a = some o) : Un fs [] H (rst p H H') h h' where
  keep := fun b o e nn nf _ => by
    by_cases z : p b
    · exact c' b o z e
    · exact U.keep b o e (by rw [out b z]; exact nn) nf (by simp)
  slot := fun b o e nn hb _ => by
    by_cases z : p b
    · exact ⟨o.slots, c' b o z e⟩
    · exact U.slot b o e (by rw [out b z]; exact nn) hb (by simp)
  free := fun b o e nn _ => by
    by_cases z : p b
    · rw [rst_in z]; exact nn
    · rw [rst_out z]; exact U.free b o e (by rw [out b z]; exact nn) (by simp)
  there := fun b o e _ => U.there b o e (by simp)
  tups := fun b xs e => by
    by_cases z : p b
    · rw [rst_in z]; exact e
    · rw [rst_out z]; exact U.tups b xs (by rw [out b z]; exact e)
  frzs := fun b o u e => by
    by_cases z : p b
    · rw [rst_in z]; exact e
    · rw [rst_out z]; exact U.frzs b o u (by rw [out b z]; exact e)
  tbls := fun b ps e => by
    by_cases z : p b
    · rw [rst_in z]; exact ⟨#[], by rw [e]; simp⟩
    · rw [rst_out z]; exact U.tbls b ps (by rw [out b z]; exact e)
theorem rst_keepB (U : UB fs H1 H' h B h') (out : ∀ a, ¬ p a → H1 a = H a) (c' : ∀ a o, p a → h.get? a = some o → B.get? a = some o) : UB fs H (rst p H H') h B h' where
  keep := fun b o e nn nf => by
    by_cases z : p b
    · exact c' b o z e
    · exact U.keep b o e (by rw [out b z]; exact nn) nf
  slot := U.slot
  free := fun b o e nn => by
    by_cases z : p b
    · rw [rst_in z]; exact nn
    · rw [rst_out z]; exact U.free b o e (by rw [out b z]; exact nn)
  there := U.there
  tups := fun b xs e => by
    by_cases z : p b
    · rw [rst_in z]; exact e
    · rw [rst_out z]; exact U.tups b xs (by rw [out b z]; exact e)
  frzs := fun b o u e => by
    by_cases z : p b
    · rw [rst_in z]; exact e
    · rw [rst_out z]; exact U.frzs b o u (by rw [out b z]; exact e)
  tbls := fun b ps e => by
    by_cases z : p b
    · rw [rst_in z]; exact ⟨#[], by rw [e]; simp⟩
    · rw [rst_out z]; exact U.tbls b ps (by rw [out b z]; exact e)
theorem rst_ok (hok : HOk P wd H' h') (c : CellP p H h) (c1 : CellP p H' h') (c' : ∀ a o, p a → h.get? a = some o → h'.get? a = some o) : HOk P wd (rst p H H') h' := fun a x e => by
  by_cases z : p a
  · rw [rst_in z] at e
    obtain ⟨o, h1, h2⟩ := c a z
    rcases h2 with h2 | h2
    · rw [h2] at e; cases e
    · rw [h2] at e
      cases e
      have h3 := c' a o z h1
      exact ⟨h3, ⟨o, h3⟩, fun g1 g2 q st => st o q⟩
  · rw [rst_out z] at e
    have nn : ∀ b y, H' b = some y → (∀ o, y ≠ CellO b o) → ¬ p b := fun b y e1 e2 z => by
      obtain ⟨o, _, h2⟩ := c1 b z
      rcases h2 with h2 | h2
      · rw [h2] at e1; cases e1
      · rw [h2] at e1
        exact e2 o (Option.some.inj e1).symm
    refine (hok a x e).stay (fun b u _ q => q) (fun b q => ?_) fun b xs q => ?_
    · rw [rst_out (nn b _ q fun o e => by unfold CellO at e; cases e)]; exact q
    · rw [rst_out (nn b _ q fun o e => by unfold CellO at e; cases e)]; exact q
/-- a call that ran over H1, seen from H -/
theorem CR_rst {outer : List Env} {s s' : Shared} {Q Q1 : VK} {E E1 : XK} {r : Result} (out : ∀ a, ¬ p a → H1 a = H a) (c : CellP p H s.heap) (nf : ∀ a, p a → a ∉ frs outer)
    (hQ : ∀ v H' (B : Heap), Q1 v H' → HOk P wd H' B → Un (frs outer) [] H1 H' s.heap B → CellP p H' B ∧ (∀ a o, p a → s.heap.get? a = some o → B.get? a = some o) ∧ Q v (rst p H H'))
    (hE : ∀ e d H' (B : Heap), E1 e d H' → HOk P wd H' B → (∀ a o, s.heap.get? a = some o → H1 a = none → a ∉ frs outer → B.get? a = some o ∧ H' a = none) → CellP p H' B ∧ (∀ a o, p a → s.heap.get? a = some o → B.get? a = some o) ∧ E e d (rst p H H'))
    (h : CR (L2.CX P wd) outer P wd H1 s Q1 E1 r s') : CR (L2.CX P wd) outer P wd H s Q E r s' := by
  match r, h with
  | .ok (.ret u), ⟨v, H', os, bare, un, hok, rv, q⟩ =>
    obtain ⟨c1, c2, q2⟩ := hQ v H' s'.heap q hok un
    exact ⟨v, rst p H H', os, bare, rst_keep un out c c2, rst_ok hok c c1 c2, rv, q2⟩
  | .ok .next, h => exact h
  | .ok .brk, h => exact h
  | .ok .cont, h => exact h
  | .error u, ⟨a, B, H', cls, d, e1, fl, hok, ub, na, os, bare, q⟩ =>
    obtain ⟨c1, c2, q2⟩ := hE cls d H' B q hok fun a o e1 e2 e3 => ⟨ub.keep a o e1 e2 e3, ub.free a o e1 e2⟩
    refine ⟨a, B, rst p H H', cls, d, e1, fl, rst_ok hok c c1 c2, rst_keepB ub out c2, ?_, os, bare, q2⟩
    by_cases z : p a
    · exfalso
      obtain ⟨o, h1, _⟩ := c a z
      have h2 := c2 a o z h1
      have h3 : B.get? a = none := fl.2.1
      rw [h2] at h3
      cases h3
    · rw [rst_out z]; exact na
theorem env0_rst {base : Heap} {A : Around} {outer : List Env} {s : Shared} (e0 : Env0 P wd K mg base A outer s H) (out : ∀ a, ¬ p a → H1 a = H a) (hok : HOk P wd H1 s.heap) (nf : ∀ a, p a → a ∉ frs outer) (nb : ∀ a, p a → base.get? a = none) : Env0 P wd K mg base A outer s H1 where
  frames := e0.frames
  mod := e0.mod
  bs := fun b o e => by
    have z : ¬ p b := fun z => by rw [nb b z] at e; cases e
    exact ⟨(e0.bs b o e).1, by rw [out b z]; exact (e0.bs b o e).2⟩
  bsz := e0.bsz
  funs := e0.funs
  frf := fun b hb => by
    have z : ¬ p b := fun z => nf b z hb
    rw [out b z]; exact e0.frf b hb
  hok := hok
  bare := e0.bare
end
end
end AL
namespace AL
open PySem PySem.Spec PyProof.Rows L2
noncomputable section
variable [Tb]
/-! ## functions made while the law runs: their calls -/
section
variable {P : Program} {wd : World} {K : PySem.W.Frag} {mg : Str → Option Value} {base : Heap} {w : Addr} {F : Addr → Prop} {H : Hp} {n : Nat}
theorem RExc.fz {F2 : Addr → Prop} {H2 : Hp} {e : Exc} {c : Value} {dd : Option Addr} (sub : ∀ a, F a → F2 a) (kp : ∀ a o, F a → H a = some o → H2 a = some o) (x : RExc K mg w F H e c dd) : RExc K mg w F2 H2 e c dd := by
  obtain ⟨C, h1, h2, h3⟩ := x
  refine ⟨C, h1, h2, ?_⟩
  cases e with
  | mk cls arg =>
    cases arg with
    | none => exact h3
    | some fd =>
      obtain ⟨f, d⟩ := fd
      obtain ⟨a, v, g1, g2, g3, g4⟩ := h3
      exact ⟨a, v, g1, sub _ g2, kp _ _ g2 g3, g4.fz sub kp⟩
theorem clo_core {A : Around} {outer : List Env} {s : Shared} {f c : Addr} {us : List Value} {vs vsC : List V} {ds caps : List D} {W : Word} {cl : List (Str × Addr)} {t : T D} {Q : VK} {E : XK}
    (e0 : Env0 P wd K mg base A outer s H) (b : Base w F H n) (x : FnC F H f W cl c vsC) (rc : Reps K w F H vsC caps) (nfc : D.noFns caps = true) (rs : Reps K w F H vs ds) (nfd : D.noFns ds = true)
    (run : ∀ (H1 : Hp) (F1 : Addr → Prop) (Q1 : VK) (E1 : XK), Env0 P wd K mg base A outer s H1 → Base w F1 H1 n → FnW F1 H1 f W cl c → NdefX.CellsAt cl W.fr (vsC.map some) s.heap H1 → Reps K w F1 H1 vsC caps → Reps K w F1 H1 vs ds → t.wp (PostE K w F1 H1 Q1) (PostX K mg w F1 H1 E1) n →
      codeAny (model P wd) A (.call (.ref f) ⟨us, []⟩) (CR (L2.CX P wd) outer P wd H1 s Q1 E1) s)
    (h : t.wp (PostE K w F H Q) (PostX K mg w F H E) n) : codeAny (model P wd) A (.call (.ref f) ⟨us, []⟩) (CR (L2.CX P wd) outer P wd H s Q E) s := by
  let p : Addr → Prop := fun a => ∃ y, cl.lookup y = some a
  have hp : CellsIn p F H := fun a ⟨y, e⟩ => x.all y a e
  have hok := e0.hok
  have cP : CellP p H s.heap := fun a z => by
    obtain ⟨_, o, v, h1, _⟩ := hp a z
    exact ⟨o, cell_get hok h1, .inr h1⟩
  have cN : CellP p noH s.heap := fun a z => by
    obtain ⟨o, h1, _⟩ := cP a z
    exact ⟨o, h1, .inl rfl⟩
  have hok1 : HOk P wd (rst p noH H) s.heap := rst_ok hok cN cP fun a o _ e => e
  have out : ∀ a, ¬ p a → rst p noH H a = H a := fun a z => rst_out z
  have nf : ∀ a, p a → a ∉ frs outer := fun a z hb => by
    obtain ⟨_, o, v, h1, _⟩ := hp a z
    rw [e0.frf a hb] at h1
    cases h1
  have nb : ∀ a, p a → base.get? a = none := fun a z => by
    obtain ⟨_, o, v, h1, _⟩ := hp a z
    cases q : base.get? a with
    | none => rfl
    | some ob =>
      rw [(e0.bs a ob q).2] at h1
      cases h1
  have b1 : Base w (F0 p F) (rst p noH H) n := b.drop hok hp
  have npf : ¬ p f := fnQ_drop hok hp x.hf
  have npc : ¬ p c := code_drop hok hp x.hc
  have x1 : FnW (F0 p F) (rst p noH H) f W cl c := ⟨⟨x.ff, npf⟩, by rw [out f npf]; exact x.hf, ⟨x.fc, npc⟩, by rw [out c npc]; exact x.hc⟩
  have C : NdefX.CellsAt cl W.fr (vsC.map some) s.heap (rst p noH H) := by
    refine ⟨by rw [List.length_map]; exact x.len, fun y a e => ?_, x.inj, fun i y e => ?_⟩
    · obtain ⟨_, o, v, h1, h2⟩ := x.all y a e
      exact ⟨rst_in ⟨y, e⟩, v, o, cell_get hok h1, h2⟩
    · obtain ⟨a, h1, h2⟩ := x.has i y e
      refine ⟨a, h1, fun v hv => ?_⟩
      rw [List.getElem?_map] at hv
      cases q : vsC[i]? with
      | none => rw [q] at hv; cases hv
      | some v' =>
        rw [q] at hv
        have e2 : v' = v := by
          have hv : some (some v') = some (some v) := hv
          cases hv
          rfl
        subst e2
        obtain ⟨o, u, h3, h4, h5⟩ := h2 v' q
        exact ⟨u, h5, o, cell_get hok h3, h4⟩
  -- steps from the state without the cells
  have back : ∀ {F' : Addr → Prop} {H' : Hp} {m : Nat}, StepE w (F0 p F) (rst p noH H) F' H' → Base w F' H' m → (∀ a, p a → H' a = none) → StepE w F H (fun a => F' a ∨ p a) (rst p H H') ∧ Base w (fun a => F' a ∨ p a) (rst p H H') m ∧ (∀ a o, F' a → H' a = some o → rst p H H' a = some o) := by
    intro F' H' m st b' hn
    have kp : ∀ a o, H' a = some o → rst p H H' a = some o := fun a o e => by
      have z : ¬ p a := fun z => by rw [hn a z] at e; cases e
      rw [rst_out z]; exact e
    have nw : ¬ p w := fun z => by
      obtain ⟨u, hu⟩ := b'.well.there
      rw [hn w z] at hu
      cases hu
    refine ⟨⟨fun a o ne e t => ?_, fun a fa => ?_, fun a fa => ?_, fun a e => ?_⟩, ⟨?_, ?_, fun a fa => ?_, fun q hq => ?_⟩, fun a o _ e => kp a o e⟩
    · by_cases z : p a
      · rw [rst_in z]; exact e
      · rw [rst_out z]; exact st.keep' a o ne (by rw [out a z]; exact e) t
    · by_cases z : p a
      · exact .inr z
      · exact .inl (st.sub a ⟨fa, z⟩)
    · rcases fa with fa | z
      · rcases st.new a fa with q | q
        · exact .inl q.1
        · by_cases z : p a
          · exact .inl (hp a z).1
          · rw [out a z] at q; exact .inr q
      · exact .inl (hp a z).1
    · by_cases z : p a
      · rw [rst_in z] at e; exact e
      · rw [rst_out z] at e
        have := st.dom a e
        rw [out a z] at this; exact this
    · obtain ⟨x, y, z, h1, h2⟩ := b'.well
      exact ⟨x, y, z, kp _ _ h1, h2⟩
    · exact fun z => z.elim b'.nw nw
    · rcases fa with fa | z
      · obtain ⟨o, h1, h2⟩ := b'.dom' a fa
        exact ⟨o, kp _ _ h1, h2⟩
      · obtain ⟨_, o, v, h1, _⟩ := hp a z
        exact ⟨_, by rw [rst_in z]; exact h1, fun _ h => by unfold CellO at h; cases h⟩
    · exact (b'.tabs q hq).of (fun _ => .inl) (fun c ps e => kp _ _ e) fun c o _ e => kp _ _ e
  have r := run (rst p noH H) (F0 p F) (fun v H' => ∃ F' m d, StepE w (F0 p F) (rst p noH H) F' H' ∧ Base w F' H' m ∧ Rep K w F' H' v d ∧ PostE K w F H Q d m)
    (fun ec dd H' => ∃ F' m e, StepE w (F0 p F) (rst p noH H) F' H' ∧ Base w F' H' m ∧ RExc K mg w F' H' e ec dd ∧ PostX K mg w F H E e m)
    (env0_rst e0 out hok1 nf nb) b1 x1 C (Reps.uncell hok hp rc nfc) (Reps.uncell hok hp rs nfd)
    (T.wp_mono (fun d m q F' H' v st b' r => ⟨F', m, d, st, b', r, q⟩) (fun e m q F' H' ec dd st b' r => ⟨F', m, e, st, b', r, q⟩) h)
  refine codeAny_mono r fun res s' hq => CR_rst out cP nf (fun v H' B q hokB un => ?_) (fun e d H' B q hokB un => ?_) hq
  · obtain ⟨F', m, d, st, b', rd, po⟩ := q
    have hn : ∀ a, p a → H' a = none := fun a z => by
      obtain ⟨o, h1, _⟩ := cP a z
      exact un.free a o h1 (rst_in z) (by simp)
    have kc : ∀ a o, p a → s.heap.get? a = some o → B.get? a = some o := fun a o z e => un.keep a o e (rst_in z) (nf a z) (by simp)
    obtain ⟨s2, b2, kp⟩ := back st b' hn
    refine ⟨fun a z => ?_, kc, po _ _ v s2 b2 (rd.fz (fun _ => .inl) kp)⟩
    obtain ⟨o, h1, _⟩ := cP a z
    exact ⟨o, kc a o z h1, .inl (hn a z)⟩
  · obtain ⟨F', m, ex, st, b', rd, po⟩ := q
    have hn : ∀ a, p a → H' a = none := fun a z => by
      obtain ⟨o, h1, _⟩ := cP a z
      exact (un a o h1 (rst_in z) (nf a z)).2
    have kc : ∀ a o, p a → s.heap.get? a = some o → B.get? a = some o := fun a o z e => (un a o e (rst_in z) (nf a z)).1
    obtain ⟨s2, b2, kp⟩ := back st b' hn
    refine ⟨fun a z => ?_, kc, po _ _ e d s2 b2 (rd.fz (fun _ => .inl) kp)⟩
    obtain ⟨o, h1, _⟩ := cP a z
    exact ⟨o, kc a o z h1, .inl (hn a z)⟩
/-- what a function with the words id does, called: from what it captured and its arguments -/
def CloI (P : Program) (wd : World) (K : PySem.W.Frag) (mg : Str → Option Value) (base : Heap) (k : Nat) (id : Nat) (sem : List D → List D → T D) : Prop :=
  ∀ (caps ds : List D) (f : Addr) (A : Around) (outer : List Env) (s : Shared) (H : Hp) (us : List Value) (vs : List V) (Q : VK) (E : XK) (w : Addr) (F : Addr → Prop) (n : Nat), Room k A → A.guards = some [] → Env0 P wd K mg base A outer s H → Vals vs us → Base w F H n →
    Rep K w F H (.ref f) (.fn id caps) → Reps K w F H vs ds → (sem caps ds).wp (PostE K w F H Q) (PostX K mg w F H E) n → codeAny (model P wd) A (.call (.ref f) ⟨us, []⟩) (CR (L2.CX P wd) outer P wd H s Q E) s
def CloOk (P : Program) (wd : World) (K : PySem.W.Frag) (mg : Str → Option Value) (base : Heap) (k : Nat) (ap : Nat → List D → List D → T D) : Prop := ∀ id, CloI P wd K mg base k id (ap id)
theorem CloI.never {k : Nat} {id : Nat} : CloI P wd K mg base k id fun _ _ => .fail := fun _ _ _ _ _ _ _ _ _ _ _ _ _ _ _ _ _ _ _ _ _ h => h.elim
theorem CloI.mono {j k : Nat} {id : Nat} {sem : List D → List D → T D} (c : CloI P wd K mg base j id sem) (h : j ≤ k) : CloI P wd K mg base k id sem := fun caps ds f A outer s H us vs Q E w F n hr => c caps ds f A outer s H us vs Q E w F n (hr.mono h)
/-- the ways of a law's functions, told by their ids -/
def apIf (i : Nat) (a : List D → List D → T D) (b : Nat → List D → List D → T D) : Nat → List D → List D → T D := fun id => if id = i then a else b id
def apNone : Nat → List D → List D → T D := fun _ _ _ => .fail
theorem clo_none {k : Nat} : CloOk P wd K mg base k apNone := fun _ => CloI.never
theorem clo_if {k j : Nat} {i : Nat} {a : List D → List D → T D} {b : Nat → List D → List D → T D} (h1 : CloI P wd K mg base j i a) (hj : j ≤ k) (h2 : CloOk P wd K mg base k b) : CloOk P wd K mg base k (apIf i a b) := fun id => by
  by_cases e : id = i
  · subst e
    have : apIf id a b id = a := if_pos rfl
    rw [this]
    exact h1.mono hj
  · have : apIf i a b id = b id := if_neg e
    rw [this]
    exact h2 id
theorem startF_eq {N : List Str} {vs ws : List V} : NdefX.startF N vs (ws.map some) = L2.start N (vs ++ ws) := by
  unfold NdefX.startF L2.start
  rw [List.map_append, List.append_assoc, List.length_map, List.length_append, Nat.sub_sub]
/-- a lambda -/
def semE (n ar cr : Nat) (g : DEnv → T D) : List D → List D → T D := fun caps ds => if D.noFns caps = true ∧ D.noFns ds = true ∧ ds.length = ar ∧ caps.length = cr then g (env0 n (ds ++ caps)) else .fail
theorem clo_expr {id : Nat} {name qual : Str} {params : Arguments} {e : Expr} {scope : Scope} {N ps fr : List Str} {k m ar cr : Nat} {g : DEnv → T D} (hW : Tb.W id = ⟨name, qual, params, .expr e, scope, fr⟩) (S : NdefX.NScope N ps fr scope)
    (hb : ∀ (cl : List (Str × Addr)) (c : Addr) (doc pm ctv : Value) (us : List Value), us.length = ps.length → bindArgs ((⟨name, qual, params, .expr e, scope, fr⟩ : Word).fd cl c doc pm ctv) ⟨us, []⟩ = pure (ps.zip us)) (hn : N.length = m) (har : ps.length = ar) (hcr : fr.length = cr)
    (hbody : ∀ (f : Addr) (cl : List (Str × Addr)) (c : Addr) (A : Around) (outer : List Env) (s : Shared) (H : Hp) (E : XK), let X := NdefX.ncx (L2.CX P wd) P wd K mg base N ⟨name, qual, params, [], scope, cl, c⟩ f A outer s H E
      Room k X.A → X.A.guards = some [] → X.A.units + 100 < cLine → Takes X (fun c dd _ H => E c dd H) → PE X e (tD K mg (fun c dd _ H => E c dd H) g)) : CloI P wd K mg base (k + 1) id (semE m ar cr g) := by
  intro caps ds f A outer s H us vs Q E w F n hr hG e0 r b rf rs h
  unfold semE at h
  split at h
  rotate_left
  · exact h.elim
  rename_i hc
  obtain ⟨nfc, nfd, hl1, hl2⟩ := hc
  cases rf with
  | fn x rc =>
    refine clo_core e0 b x rc nfc rs nfd (fun H1 F1 Q1 E1 e1 b1 x1 C rc1 rs1 q => ?_) h
    rename_i c cl vsC
    rw [hW] at x1 C
    have lim : s.heap.NoLimit := e1.mod.nolimit.keeps fun b o e => (e1.bs b o e).1
    obtain ⟨od, sl, doc, pm, ctv, ho⟩ := (e1.hok f _ x1.hf).1
    refine PySem.W.kla_callFunE (o := ⟨.type "function", od, .func ((⟨name, qual, params, .expr e, scope, fr⟩ : Word).fd cl c doc pm ctv), sl⟩) hr.depth ho rfl S.co S.gen rfl (NdefX.codeO_at e1.hok x1.hc) ?_
    have hlu : us.length = ps.length := by rw [← r.length, rs.length, hl1, har]
    rw [hb cl c doc pm ctv us hlu]
    refine wpAny_pure (wpAny_newFunctionEnv S.nocell (fun ⟨nm, _⟩ hy => S.par nm (List.of_mem_zip hy).1) (fun h₁ hns hsb => ⟨lim.fresh _ hsb, ?_⟩) S.kind)
    show codeAny _ _ (.expr e (NdefX.envF ⟨name, qual, params, [], scope, cl, c⟩ f s.heap.objs.size)) _ _
    have kp : ∀ b o, s.heap.get? b = some o → h₁.get? b = some o := fun b o e => hsb.extBut b o (Nat.ne_of_lt (Heap.lt_size e)) (Heap.get?_push_of_some _ e)
    have hl : vs.length = ps.length := by rw [rs.length, hl1, har]
    have I : Inv (NdefX.ncx (L2.CX P wd) P wd K mg base N ⟨name, qual, params, [], scope, cl, c⟩ f A outer s H1 E1) [] (NdefX.startF N vs (vsC.map some)) H1 { s with heap := h₁, toks := s.toks + (ps.zip us).length } := NdefX.inv_startN S hr.hd e1 hl r C hns kp
    have pe := hbody f cl c A outer s H1 E1 (hr.deeper _) hG (by have := (hr.deeper (NdefX.envF ⟨name, qual, params, [], scope, cl, c⟩ f s.heap.objs.size)).un; show (A.deeper (NdefX.envF ⟨name, qual, params, [], scope, cl, c⟩ f s.heap.objs.size)).units + 100 < cLine; omega) (takes_of rfl rfl rfl rfl)
    have hst : NdefX.startF N vs (vsC.map some) = L2.start N (vs ++ vsC) := startF_eq
    rw [hst] at I
    have env := start_env (N := N) (rs1.append rc1)
    rw [hn] at env
    refine PySem.W.kla_codeExpr (wpAny_mono (pe.run [] _ _ H1 Q1 I ⟨w, F1, env0 m (ds ++ caps), n, ⟨b1, env⟩, q⟩) (fun v s' hq => ?_) fun e s' hq => hq)
    obtain ⟨w', H', J, rv, q'⟩ := hq
    exact ⟨w', H', J.os, J.bare, J.base, J.hok, rv, q'⟩
/-- a def in a def -/
def semS (n ar cr : Nat) (g : DEnv → T Fl) : List D → List D → T D := fun caps ds => if D.noFns caps = true ∧ D.noFns ds = true ∧ ds.length = ar ∧ caps.length = cr then bodyT n g (ds ++ caps) else .fail
theorem clo_stmts {id : Nat} {name qual : Str} {params : Arguments} {body : List Stmt} {scope : Scope} {N ps fr : List Str} {k m ar cr : Nat} {g : DEnv → T Fl} (hW : Tb.W id = ⟨name, qual, params, .stmts body, scope, fr⟩) (S : NdefX.NScope N ps fr scope)
    (hb : ∀ (cl : List (Str × Addr)) (c : Addr) (doc pm ctv : Value) (us : List Value), us.length = ps.length → bindArgs ((⟨name, qual, params, .stmts body, scope, fr⟩ : Word).fd cl c doc pm ctv) ⟨us, []⟩ = pure (ps.zip us)) (hn : N.length = m) (har : ps.length = ar) (hcr : fr.length = cr)
    (hbody : ∀ (f : Addr) (cl : List (Str × Addr)) (c : Addr) (A : Around) (outer : List Env) (s : Shared) (H : Hp) (E : XK), let X := NdefX.ncx (L2.CX P wd) P wd K mg base N ⟨name, qual, params, body, scope, cl, c⟩ f A outer s H E
      Room k X.A → X.A.guards = some [] → X.A.units + 100 < cLine → Takes X (fun c dd _ H => E c dd H) → PSs X body (sD K mg (fun c dd _ H => E c dd H) g)) : CloI P wd K mg base (k + 1) id (semS m ar cr g) := by
  intro caps ds f A outer s H us vs Q E w F n hr hG e0 r b rf rs h
  unfold semS at h
  split at h
  rotate_left
  · exact h.elim
  rename_i hc
  obtain ⟨nfc, nfd, hl1, hl2⟩ := hc
  cases rf with
  | fn x rc =>
    refine clo_core e0 b x rc nfc rs nfd (fun H1 F1 Q1 E1 e1 b1 x1 C rc1 rs1 q => ?_) h
    rename_i c cl vsC
    rw [hW] at x1 C
    have lim : s.heap.NoLimit := e1.mod.nolimit.keeps fun b o e => (e1.bs b o e).1
    obtain ⟨od, sl, doc, pm, ctv, ho⟩ := (e1.hok f _ x1.hf).1
    refine codeAny_call_function (o := ⟨.type "function", od, .func ((⟨name, qual, params, .stmts body, scope, fr⟩ : Word).fd cl c doc pm ctv), sl⟩) hr.depth ho rfl S.co S.gen rfl (NdefX.codeO_at e1.hok x1.hc) ?_
    have hlu : us.length = ps.length := by rw [← r.length, rs.length, hl1, har]
    rw [hb cl c doc pm ctv us hlu]
    refine wpAny_pure (wpAny_newFunctionEnv S.nocell (fun ⟨nm, _⟩ hy => S.par nm (List.of_mem_zip hy).1) (fun h₁ hns hsb => ⟨lim.fresh _ hsb, ?_⟩) S.kind)
    show codeAny _ _ (.func body (NdefX.envF ⟨name, qual, params, body, scope, cl, c⟩ f s.heap.objs.size)) _ _
    refine codeAny_func ?_
    have kp : ∀ b o, s.heap.get? b = some o → h₁.get? b = some o := fun b o e => hsb.extBut b o (Nat.ne_of_lt (Heap.lt_size e)) (Heap.get?_push_of_some _ e)
    have hl : vs.length = ps.length := by rw [rs.length, hl1, har]
    have I : Inv (NdefX.ncx (L2.CX P wd) P wd K mg base N ⟨name, qual, params, body, scope, cl, c⟩ f A outer s H1 E1) [] (NdefX.startF N vs (vsC.map some)) H1 { s with heap := h₁, toks := s.toks + (ps.zip us).length } := NdefX.inv_startN S hr.hd e1 hl r C hns kp
    have pb := hbody f cl c A outer s H1 E1 (hr.deeper _) hG (by have := (hr.deeper (NdefX.envF ⟨name, qual, params, body, scope, cl, c⟩ f s.heap.objs.size)).un; show (A.deeper (NdefX.envF ⟨name, qual, params, body, scope, cl, c⟩ f s.heap.objs.size)).units + 100 < cLine; omega) (takes_of rfl rfl rfl rfl)
    have hst : NdefX.startF N vs (vsC.map some) = L2.start N (vs ++ vsC) := startF_eq
    rw [hst] at I
    have env := start_env (N := N) (rs1.append rc1)
    rw [hn] at env
    have own : ∀ a, ¬ Own (L2.start N (vs ++ vsC)) (env0 m (ds ++ caps)) a := fun a => by rw [← hn]; exact start_own
    have hq : sD K mg (fun c dd _ H => E1 c dd H) g { nx := fun _ H' => Q1 .non H', rt := Q1 } (L2.start N (vs ++ vsC)) H1 := by
      refine ⟨w, F1, _, n, ⟨b1, env⟩, T.wp_mono (fun fl m q1 => ?_) (fun _ _ h => h) (T.wp_nox (E' := fun _ _ => False) (T.wp_bind _ _ |>.mp q))⟩
      cases fl with
      | nx ρ' => exact fun F' H' σ' s c => q1 F' H' .non (s.toE own) c.toBase .non
      | bk ρ' => exact q1.elim
      | ct ρ' => exact q1.elim
      | rt d => exact fun F' H' v s b r => q1 F' H' v (s.toE own) b r
      | rs e ρ' => exact fun F' H' σ' c dd s cu r => q1 F' H' c dd (s.toE own) cu.toBase r
    refine wpAny_mono (pb.run [] _ _ H1 _ I hq) ?_ fun e s' hs => hs
    intro fl s' hs
    have fin : ∀ {σ' : St} {H' : Hp} {v : V} {u : Value}, Inv (NdefX.ncx (L2.CX P wd) P wd K mg base N ⟨name, qual, params, body, scope, cl, c⟩ f A outer s H1 E1) [] σ' H' s' → RelV v u → Q1 v H' → CE outer P wd H1 s Q1 u s' :=
      fun {σ' H' v u} J rv q => ⟨v, H', J.os, J.bare, J.base, J.hok, rv, q⟩
    match fl, hs with
    | .ret u, ⟨v, σ', H', J, rv, q⟩ => exact fin J rv q
    | .next, ⟨σ', H', J, q⟩ => exact fin (v := V.non) (u := Value.none) J rfl q
    | .brk, ⟨_, _, _, q⟩ => exact q.elim
    | .cont, ⟨_, _, _, q⟩ => exact q.elim
end
end
end AL
namespace AL
open PySem PySem.Spec PyProof.Rows L2
noncomputable section
variable [Tb]
/-! ## functions made while the law runs: how they are made -/
section
variable {w : Addr} {F : Addr → Prop} {H : Hp} {n : Nat}
theorem made_new {P c' f : Addr} {nm : Nat → Nat → Str} {W : Word} {cl : List (Str × Addr)} {ps more : Array Value} (b : Base w F H n) (hm : (P, nm) ∈ Tb.T) (hu : ∀ p ∈ Tb.T, p.1 = P → p.2 = nm) (hP : H P = some (.tbl ps)) (ht : TriplesOk (ps ++ more).toList)
    (ha : ∀ (pos : Pos) (cv : Value), codeAmong pos (ps ++ more).toList = some cv → (∃ c, cv = .ref c ∧ F c ∧ H c = some (LamX.CodeO c (nm pos.line pos.col))) ∨ (cv = .ref c' ∧ nm pos.line pos.col = W.qual)) (hc : H c' = none) (hf : H f = none) (ne : f ≠ c') :
    StepE w F H (fun a => F a ∨ a = c' ∨ a = f) (upd (upd (upd H P (.tbl (ps ++ more))) c' (LamX.CodeO c' W.qual)) f (FnQ f W cl c')) ∧ Base w (fun a => F a ∨ a = c' ∨ a = f) (upd (upd (upd H P (.tbl (ps ++ more))) c' (LamX.CodeO c' W.qual)) f (FnQ f W cl c')) n ∧
      FnW (fun a => F a ∨ a = c' ∨ a = f) (upd (upd (upd H P (.tbl (ps ++ more))) c' (LamX.CodeO c' W.qual)) f (FnQ f W cl c')) f W cl c' := by
  have kp : ∀ a o, H a = some o → NT o → upd (upd (upd H P (.tbl (ps ++ more))) c' (LamX.CodeO c' W.qual)) f (FnQ f W cl c') a = some o := fun a o e t => by
    rw [upd_ne (ne_of_none e hf), upd_ne (ne_of_none e hc), upd_ne fun z => t ps (by rw [z, hP] at e; exact (Option.some.inj e).symm)]
    exact e
  have pf : P ≠ f := ne_of_none hP hf
  have pc : P ≠ c' := ne_of_none hP hc
  have atc : upd (upd (upd H P (.tbl (ps ++ more))) c' (LamX.CodeO c' W.qual)) f (FnQ f W cl c') c' = some (LamX.CodeO c' W.qual) := by rw [upd_ne ne.symm, upd_same]
  have fnt : ∀ {a o}, F a → H a = some o → NT o := fun f h => b.nt f h
  refine ⟨⟨fun a o _ e t => kp a o e t, fun a h => .inl h, fun a h => ?_, fun a h => ?_⟩, ⟨?_, ?_, fun a h => ?_, fun q hq => ?_⟩, ⟨.inr (.inr rfl), upd_same, .inr (.inl rfl), atc⟩⟩
  · rcases h with h | h | h
    · exact .inl h
    · exact .inr (h ▸ hc)
    · exact .inr (h ▸ hf)
  · exact NdefX.upd_none (NdefX.upd_none (NdefX.upd_none h))
  · obtain ⟨x, y, z, h1, h2⟩ := b.well
    exact ⟨x, y, z, kp _ _ h1 nt_lst, h2⟩
  · rintro (h | h | h)
    · exact b.nw h
    · exact b.pne hc h.symm
    · exact b.pne hf h.symm
  · rcases h with h | h | h
    · obtain ⟨o, h1, h2⟩ := b.dom' a h
      exact ⟨o, kp a o h1 h2, h2⟩
    · exact ⟨_, by rw [h]; exact atc, fun _ z => by unfold LamX.CodeO at z; cases z⟩
    · exact ⟨_, by rw [h]; exact upd_same, fun _ z => by unfold FnQ at z; cases z⟩
  · by_cases e : q.1 = P
    · rw [hu q hq e, e]
      refine ⟨ps ++ more, by rw [upd_ne pf, upd_ne pc, upd_same], ht, fun pos cv hcv => ?_⟩
      rcases ha pos cv hcv with ⟨c, e1, e2, e3⟩ | ⟨e1, e2⟩
      · exact ⟨c, e1, .inl e2, kp _ _ e3 (fnt e2 e3)⟩
      · exact ⟨c', e1, .inr (.inl rfl), by rw [e2]; exact atc⟩
    · obtain ⟨qs, h1, h2, h3⟩ := b.tabs q hq
      refine ⟨qs, by rw [upd_ne (ne_of_none h1 hf), upd_ne (ne_of_none h1 hc), upd_ne e]; exact h1, h2, fun pos cv hcv => ?_⟩
      obtain ⟨c, e1, e2, e3⟩ := h3 pos cv hcv
      exact ⟨c, e1, .inl e2, kp _ _ e3 (fnt e2 e3)⟩
theorem made_hit {c' f : Addr} {W : Word} {cl : List (Str × Addr)} (b : Base w F H n) (fc : F c') (hc : H c' = some (LamX.CodeO c' W.qual)) (hf : H f = none) :
    StepE w F H (fun a => F a ∨ a = f) (upd H f (FnQ f W cl c')) ∧ Base w (fun a => F a ∨ a = f) (upd H f (FnQ f W cl c')) n ∧ FnW (fun a => F a ∨ a = f) (upd H f (FnQ f W cl c')) f W cl c' :=
  ⟨.lay hf b.well.there, b.lay hf (fun _ z => by unfold FnQ at z; cases z), ⟨.inr rfl, upd_same, .inl fc, by rw [upd_ne (ne_of_none hc hf)]; exact hc⟩⟩
end
section
variable {X : Cx} {W : WX} {pins : List (Addr × Obj)} {σ : St} {H : Hp} {s : Shared}
theorem inv_q {Wd : Word} {cl : List (Str × Addr)} {c : Addr} {o : Obj} {t' : Nat} {doc pm ctv : Value} (I : Inv X pins σ H s) (ho : o = { cls := .type "function", data := .func (Wd.fd cl c doc pm ctv) }) :
    Inv X pins σ (upd H s.heap.objs.size (FnQ s.heap.objs.size Wd cl c)) { s with heap := s.heap.push o, toks := t' } := by
  subst ho
  refine I.laid (a := s.heap.objs.size) (fun b u e => Heap.get?_push_of_some _ e) (Nat.le_refl _) ?_
  have e : (s.heap.push ({ cls := .type "function", data := .func (Wd.fd cl c doc pm ctv) } : Obj)).get? s.heap.objs.size = some ({ cls := .type "function", data := .func (Wd.fd cl c doc pm ctv) } : Obj) := Heap.get?_push_size _ rfl
  refine ⟨⟨_, _, doc, pm, ctv, e⟩, ⟨_, e⟩, ?_⟩
  rintro h1 h2 ⟨od, sl, d, p, t, z⟩ st
  exact ⟨od, sl, d, p, t, st _ z⟩
/-- what the making of functions asks of the maker: its code object, its table -/
structure Mk (X : Cx) (c P : Addr) (nm : Nat → Nat → Str) : Prop where
  tb : LamX.TabB X.base X.mg c P
  code : X.env.code = .ref c
  mem : (P, nm) ∈ Tb.T
  uni : ∀ p ∈ Tb.T, p.1 = P → p.2 = nm
def freeB (sc nsc : Scope) : Bool := nsc.names.all fun y => !decide (y.2 = .free) || decide (sc.names.lookup y.1 = some .cell) || decide (sc.names.lookup y.1 = some .free)
theorem free_by {sc nsc : Scope} (h : freeB sc nsc = true) : ∀ y ∈ nsc.names, y.2 = .free → sc.names.lookup y.1 = some .cell ∨ sc.names.lookup y.1 = some .free := by
  unfold freeB at h
  simp only [Bool.or_eq_true, Bool.not_eq_true', decide_eq_true_eq, decide_eq_false_iff_not, List.all_eq_true] at h
  intro y hy e
  rcases h y hy with (z | z) | z
  · exact absurd e z
  · exact .inl z
  · exact .inr z
theorem lam_made {c P : Addr} {nm : Nat → Nat → Str} {params : Arguments} {body : Expr} {scope : Scope} {fr : List Str} {pos : Pos} {E : Value → Shared → Prop} {Q : Value → Shared → Prop} {w : Addr} {F : Addr → Prop} {n : Nat} (I : Inv X pins σ H s) (M : Mk X c P nm) (b : Base w F H n)
    (hn : nm pos.line pos.col = X.env.qual ++ "<lambda>") (hdef : defaultsOf params X.env = ([], [])) (hfree : ∀ y ∈ scope.names, y.2 = .free → ∃ c, X.env.cells.lookup y.1 = some c)
    (h : ∀ (f c' : Addr) (F1 : Addr → Prop) (H1 : Hp) (s' : Shared), Inv X pins σ H1 s' → StepE w F H F1 H1 → Base w F1 H1 n → FnW F1 H1 f ⟨"<lambda>", X.env.qual ++ "<lambda>", params, .expr body, scope, fr⟩ (cloFrom X.env.cells scope.names []) c' → Q (.ref f) s') :
    wpAny (model X.prog X.w) X.A (eval (.Lambda params body scope pos) X.env) Q E s := by
  obtain ⟨ps, hP, ht, ha⟩ := b.tabs _ M.mem
  refine PySem.W.kla_eval hdef ?_
  have bP : s.heap.BuiltinsAt X.mg P := M.tb.bm.keeps I.bk
  have hP' : s.heap.get? P = some { cls := .none, data := .fields ps } := I.hok P _ hP
  cases hc : codeAmong pos ps.toList with
  | none =>
    refine PySem.W.kla_makeFunction (mg := X.mg) (c := c) (P := P) (ps := ps) (closure_ok hfree) I.ok.glob (I.mod.glob.keeps I.bk) M.code (M.tb.code.keeps I.bk) hP' ht hc M.tb.gP bP fun c' ctv h' tk hx hge hlt hrec htb => ?_
    obtain ⟨c2, oc, vs, t, e2, hoc, hd, hv⟩ := hrec
    cases e2
    have nC : H c' = none := I.hok.fresh hge
    have I1 := LamX.inv_table (t' := tk) (more := #[rawInt pos.line, rawInt pos.col, .ref c']) (h' := h') I hP (fun b o hb e => hx b o hb e) htb hge ⟨oc, vs, t, hoc, hd, hv⟩
    have nF : H h'.objs.size = none := I.hok.fresh (Nat.le_trans hge (Nat.le_of_lt hlt))
    have I2 := inv_q (Wd := ⟨"<lambda>", X.env.qual ++ "<lambda>", params, .expr body, scope, fr⟩) (cl := cloFrom X.env.cells scope.names []) (c := c') (t' := tk) (doc := .none) (pm := (X.mg "__name__").getD .none) (ctv := ctv) I1 rfl
    have eL : (ps ++ #[rawInt pos.line, rawInt pos.col, .ref c']).toList = ps.toList ++ [rawInt pos.line, rawInt pos.col, .ref c'] := by simp
    obtain ⟨s1, b1, x1⟩ := made_new (W := ⟨"<lambda>", X.env.qual ++ "<lambda>", params, .expr body, scope, fr⟩) (cl := cloFrom X.env.cells scope.names []) (more := #[rawInt pos.line, rawInt pos.col, .ref c']) b M.mem M.uni hP (by rw [eL]; exact PySem.TriplesOk_snoc _ _ _ _ ht)
      (fun p' cv hcv => by
        rw [eL] at hcv
        rcases NdefX.among_app2 _ ht hcv with z | ⟨z1, z2, z3⟩
        · exact .inl (ha p' cv z)
        · exact .inr ⟨z1, by rw [← z2, ← z3]; exact hn⟩) nC nF (Nat.ne_of_gt hlt)
    exact h _ c' _ _ _ I2 s1 b1 x1
  | some cv =>
    obtain ⟨c', e, fc, hco⟩ := ha pos cv hc
    subst e
    dsimp only at hco
    rw [hn] at hco
    refine PySem.W.kla_makeFunctionHit (mg := X.mg) (c := c) (P := P) (ps := ps) (closure_ok hfree) I.ok.glob (I.mod.glob.keeps I.bk) M.code (M.tb.code.keeps I.bk) hP' ht hc bP fun ctv h' tk hx hsz => ?_
    have I1 : Inv X pins σ H { s with heap := h', toks := tk } := I.kept hx
    have nF : H h'.objs.size = none := I1.hok.fresh (Nat.le_refl _)
    have I2 := inv_q (Wd := ⟨"<lambda>", X.env.qual ++ "<lambda>", params, .expr body, scope, fr⟩) (cl := cloFrom X.env.cells scope.names []) (c := c') (t' := tk) (doc := .none) (pm := (X.mg "__name__").getD .none) (ctv := ctv) I1 rfl
    obtain ⟨s1, b1, x1⟩ := made_hit (W := ⟨"<lambda>", X.env.qual ++ "<lambda>", params, .expr body, scope, fr⟩) (cl := cloFrom X.env.cells scope.names []) b fc hco nF
    exact h _ c' _ _ _ I2 s1 b1 x1
/-- a lambda, not called yet -/
theorem de_lam {id : Nat} {c P : Addr} {nm : Nat → Nat → Str} {params : Arguments} {body : Expr} {scope : Scope} {fr : List Str} {pos : Pos} (M : Mk X c P nm) (hn : nm pos.line pos.col = X.env.qual ++ "<lambda>") (hW : Tb.W id = ⟨"<lambda>", X.env.qual ++ "<lambda>", params, .expr body, scope, fr⟩)
    (hfree : freeB X.env.scope scope = true) (hdef : defaultsOf params X.env = ([], []) := by rfl) : PE X (.Lambda params body scope pos) (tD X.K X.mg W (dC (.pf id (cloFrom X.env.cells scope.names [])))) := by
  refine ⟨fun pins s σ H Q I ⟨w, F, ρ, n, cu, q⟩ => ?_⟩
  refine lam_made (fr := fr) I M cu.toBase hn hdef (fun y hy e => (free_by hfree y hy e).elim (fun z => I.ok.has _ (.inl z)) fun z => I.ok.has _ (.inr z)) fun f c' F1 H1 s' I1 s1 b1 x1 => ?_
  exact ⟨.ref f, H1, I1, rfl, q F1 H1 _ s1 b1 (.pf (by rw [hW]; exact x1))⟩
/-- def x(..): .. within a def -/
theorem def_made {c P : Addr} {nm : Nat → Nat → Str} {name : Str} {params : Arguments} {body : List Stmt} {scope : Scope} {fr : List Str} {pos : Pos} {E : Value → Shared → Prop} {Q : Value → Shared → Prop} {w : Addr} {F : Addr → Prop} {n : Nat} (I : Inv X pins σ H s) (M : Mk X c P nm) (b : Base w F H n)
    (hn : nm pos.line pos.col = X.env.qual ++ name) (hfree : ∀ y ∈ scope.names, y.2 = .free → ∃ c, X.env.cells.lookup y.1 = some c)
    (h : ∀ (f c' : Addr) (F1 : Addr → Prop) (H1 : Hp) (s' : Shared), Inv X pins σ H1 s' → StepE w F H F1 H1 → Base w F1 H1 n → FnW F1 H1 f ⟨name, X.env.qual ++ name, params, .stmts body, scope, fr⟩ (cloFrom X.env.cells scope.names []) c' → Q (.ref f) s') :
    wpAny (model X.prog X.w) X.A (makeFunction name (X.env.qual ++ name) params (.stmts body) scope X.env [] [] [] pos pos.line) Q E s := by
  obtain ⟨ps, hP, ht, ha⟩ := b.tabs _ M.mem
  have bP : s.heap.BuiltinsAt X.mg P := M.tb.bm.keeps I.bk
  have hP' : s.heap.get? P = some { cls := .none, data := .fields ps } := I.hok P _ hP
  cases hc : codeAmong pos ps.toList with
  | none =>
    refine PySem.W.makeFunction_K (mg := X.mg) (c := c) (P := P) (ps := ps) (closure_ok hfree) I.ok.glob (I.mod.glob.keeps I.bk) M.code (M.tb.code.keeps I.bk) hP' ht hc M.tb.gP bP fun c' ctv doc h' tk hx hge hlt hrec htb => ?_
    obtain ⟨c2, oc, vs, t, e2, hoc, hd, hv⟩ := hrec
    cases e2
    have nC : H c' = none := I.hok.fresh hge
    have I1 := LamX.inv_table (t' := tk) (more := #[rawInt pos.line, rawInt pos.col, .ref c']) (h' := h') I hP (fun b o hb e => hx b o hb e) htb hge ⟨oc, vs, t, hoc, hd, hv⟩
    have nF : H h'.objs.size = none := I.hok.fresh (Nat.le_trans hge (Nat.le_of_lt hlt))
    have I2 := inv_q (Wd := ⟨name, X.env.qual ++ name, params, .stmts body, scope, fr⟩) (cl := cloFrom X.env.cells scope.names []) (c := c') (t' := tk) (doc := doc) (pm := (X.mg "__name__").getD .none) (ctv := ctv) I1 rfl
    have eL : (ps ++ #[rawInt pos.line, rawInt pos.col, .ref c']).toList = ps.toList ++ [rawInt pos.line, rawInt pos.col, .ref c'] := by simp
    obtain ⟨s1, b1, x1⟩ := made_new (W := ⟨name, X.env.qual ++ name, params, .stmts body, scope, fr⟩) (cl := cloFrom X.env.cells scope.names []) (more := #[rawInt pos.line, rawInt pos.col, .ref c']) b M.mem M.uni hP (by rw [eL]; exact PySem.TriplesOk_snoc _ _ _ _ ht)
      (fun p' cv hcv => by
        rw [eL] at hcv
        rcases NdefX.among_app2 _ ht hcv with z | ⟨z1, z2, z3⟩
        · exact .inl (ha p' cv z)
        · exact .inr ⟨z1, by rw [← z2, ← z3]; exact hn⟩) nC nF (Nat.ne_of_gt hlt)
    exact h _ c' _ _ _ I2 s1 b1 x1
  | some cv =>
    obtain ⟨c', e, fc, hco⟩ := ha pos cv hc
    subst e
    dsimp only at hco
    rw [hn] at hco
    refine PySem.W.makeFunction_hit (mg := X.mg) (c := c) (P := P) (ps := ps) (closure_ok hfree) I.ok.glob (I.mod.glob.keeps I.bk) M.code (M.tb.code.keeps I.bk) hP' ht hc bP fun ctv doc h' tk hx hsz => ?_
    have I1 : Inv X pins σ H { s with heap := h', toks := tk } := I.kept hx
    have nF : H h'.objs.size = none := I1.hok.fresh (Nat.le_refl _)
    have I2 := inv_q (Wd := ⟨name, X.env.qual ++ name, params, .stmts body, scope, fr⟩) (cl := cloFrom X.env.cells scope.names []) (c := c') (t' := tk) (doc := doc) (pm := (X.mg "__name__").getD .none) (ctv := ctv) I1 rfl
    obtain ⟨s1, b1, x1⟩ := made_hit (W := ⟨name, X.env.qual ++ name, params, .stmts body, scope, fr⟩) (cl := cloFrom X.env.cells scope.names []) b fc hco nF
    exact h _ c' _ _ _ I2 s1 b1 x1
theorem ds_def {id : Nat} {c P : Addr} {nm : Nat → Nat → Str} {name : Str} {params : Arguments} {body : List Stmt} {scope : Scope} {fr : List Str} {pos : Pos} {i : Nat} (M : Mk X c P nm) (hn : nm pos.line pos.col = X.env.qual ++ name) (hW : Tb.W id = ⟨name, X.env.qual ++ name, params, .stmts body, scope, fr⟩)
    (hfree : freeB X.env.scope scope = true) (hN : X.N.Nodup) (hi : X.N[i]? = some name) (hx : Loc X.env.scope name) (hd0 : params.defaults = [] := by rfl) (hk0 : params.kw_defaults = [] := by rfl) (ha : annTrees params none X.env = [] := by rfl)
    (hf : X.fn name = true ∨ X.env.scope.names.lookup name = some .local := by first | exact .inl rfl | exact .inr rfl | assumption) :
    PS X (.FunctionDef name params body [] none [] scope none name pos) (sD X.K X.mg W (gSet i (dC (.pf id (cloFrom X.env.cells scope.names []))))) := by
  refine ⟨fun pins s σ H D I ⟨w, F, ρ, n, cu, q⟩ => ?_⟩
  have hq : qualnameIn X.env name name = X.env.qual ++ name := by
    have hk : X.env.kindOf name = some .local ∨ X.env.kindOf name = some .cell := hx
    unfold qualnameIn
    rcases hk with k | k <;> rw [k] <;> first | rfl | exact if_neg (by decide)
  refine PySem.W.nestDef_K hd0 hk0 ha ?_
  rw [hq]
  refine def_made (fr := fr) I M cu.toBase hn (fun y hy e => (free_by hfree y hy e).elim (fun z => I.ok.has _ (.inl z)) fun z => I.ok.has _ (.inr z)) fun f c' F1 H1 s' I1 s1 b1 x1 => ?_
  have c1 := cu.step s1 b1
  exact store_ok I1 hN hi hx (v := .ref f) rfl (fun s'' J => ⟨_, H1, J, q F1 H1 _ s1.setSh ⟨b1, c1.env.setSh i (.pf (by rw [hW]; exact x1))⟩⟩) hf
end
end
end AL
namespace AL
open PySem PySem.Spec PyProof.Rows L2
noncomputable section
variable [Tb]
/-! ## functions made while the law runs: where they are handed on, where they are called -/
def Exc.noFn (e : Exc) : Bool := match e.arg with
  | none => true
  | some (_, d) => d.noFn
/-- nothing of what was made leaves -/
def T.clean : T D → T D
  | .ok d => if d.noFn = true then .ok d else .fail
  | .exc e => if e.noFn = true then .exc e else .fail
  | .draw m k => .draw m fun r => (k r).clean
  | .fail => .fail
theorem T.wp_clean {t : T D} {Q : D → Nat → Prop} {E : Exc → Nat → Prop} : ∀ {n : Nat}, t.clean.wp Q E n → t.wp (fun d m => d.noFn = true ∧ Q d m) (fun e m => e.noFn = true ∧ E e m) n := by
  induction t with
  | ok d =>
    intro n h
    unfold T.clean at h
    split at h
    · rename_i hc; exact ⟨hc, h⟩
    · exact h.elim
  | exc e =>
    intro n h
    unfold T.clean at h
    split at h
    · rename_i hc; exact ⟨hc, h⟩
    · exact h.elim
  | draw m k ih =>
    intro n h
    exact ⟨h.1, h.2.1, fun r h0 h1 => ih r (h.2.2 r h0 h1)⟩
  | fail => exact fun h => h.elim
def capts (ρ : DEnv) : List Nat → Option (List D)
  | [] => some []
  | j :: r => match ρ[j]? with
    | some (.sh d) => if d.noFn = true then (capts ρ r).map (d :: ·) else none
    | _ => none
def unpf (ρ : DEnv) (ids : List Nat) (cls : Nat → List (Str × Addr)) (js : Nat → List Nat) : D → Option D
  | .pf id cl => @ite _ (id ∈ ids ∧ cl = cls id) (Classical.propDecidable _) ((capts ρ (js id)).map (.fn id)) none
  | d => some d
/-- the arguments, those that are told by true are functions made here -/
def unpfs (ρ : DEnv) (ids : List Nat) (cls : Nat → List (Str × Addr)) (js : Nat → List Nat) : List Bool → List D → Option (List D)
  | [], [] => some []
  | false :: bs, d :: r => (unpfs ρ ids cls js bs r).map (d :: ·)
  | true :: bs, d :: r => match unpf ρ ids cls js d, unpfs ρ ids cls js bs r with
    | some a, some b => some (a :: b)
    | _, _ => none
  | _, _ => none
/-- f(e, ..) where functions made here are among the arguments -/
def dCallH (ar : Nat) (bs : List Bool) (fn : List D → T D) (ids : List Nat) (cls : Nat → List (Str × Addr)) (js : Nat → List Nat) (a : DEnv → T (List D)) : DEnv → T D := fun ρ => (a ρ).bind fun ds => match unpfs ρ ids cls js bs ds with
  | some ds' => if ds'.length = ar then (fn ds').clean else .fail
  | none => .fail
section
variable {X : Cx} {W : WX} {pins : List (Addr × Obj)} {σ : St} {ρ : DEnv} {H : Hp} {s : Shared} {w : Addr} {F : Addr → Prop} {n : Nat}
/-- the running frame's cells -/
def ownC (X : Cx) (a : Addr) : Prop := ∃ y, X.env.cells.lookup y = some a
theorem cell_nofr (I : Inv X pins σ H s) (hfn : ∀ x, X.fn x = true) {a : Addr} (h : ownC X a) : a ∉ frs X.stack := by
  obtain ⟨y, e⟩ := h
  have h1 := I.ok.cab y a (hfn y) e
  have h2 : a ∉ X.fs := fun hb => by
    obtain ⟨_, o, ho, _⟩ := I.ok.funs.mem hb
    exact absurd (Nat.lt_of_lt_of_le (Heap.lt_size ho) h1) (Nat.lt_irrefl _)
  rcases I.ok.stk with st | ⟨st, fr⟩
  · rw [st]; exact h2
  · rw [st]
    intro hb
    unfold frs at hb
    rw [List.filterMap_cons, fr] at hb
    rcases List.mem_cons.mp hb with q | q
    · obtain ⟨v, o, ho, hd⟩ := I.cell y a e
      obtain ⟨m, hn, _⟩ := I.loc
      obtain ⟨o2, es, ep, e2, hd2, _⟩ := hn
      rw [← q, ho] at e2
      cases e2
      rw [hd] at hd2
      cases hd2
    · exact h2 q
theorem cell_nobase (I : Inv X pins σ H s) (hfn : ∀ x, X.fn x = true) {a : Addr} (h : ownC X a) : X.base.get? a = none := by
  obtain ⟨y, e⟩ := h
  have h1 := I.ok.cab y a (hfn y) e
  cases q : X.base.get? a with
  | none => rfl
  | some o =>
    exact absurd (Nat.lt_of_lt_of_le (Heap.lt_size q) (Nat.le_trans I.ok.bsz h1)) (Nat.lt_irrefl _)
theorem capts_reps (c : Cur X.K w F H σ ρ n) : ∀ {js : List Nat} {ds : List D}, capts ρ js = some ds → ∃ vs, js.map (NdefX.slotAt σ) = vs.map some ∧ Reps X.K w F H vs ds ∧ D.noFns ds = true
  | [], _, e => by cases e; exact ⟨[], rfl, .nil, rfl⟩
  | j :: js, ds, e => by
    unfold capts at e
    split at e
    · rename_i d hd
      split at e
      · rename_i nf
        cases q : capts ρ js with
        | none => rw [q] at e; cases e
        | some ds' =>
          rw [q] at e
          cases e
          obtain ⟨vs, h1, h2, h3⟩ := capts_reps c q
          obtain ⟨v, h4, h5⟩ := c.env.sh j d hd
          exact ⟨v :: vs, by rw [List.map_cons, List.map_cons, h1, NdefX.slotAt_of h4], .cons h5 h2, by simp only [D.noFns, Bool.and_eq_true]; exact ⟨nf, h3⟩⟩
      · cases e
    · cases e
theorem adc_ok {P : Program} {wd : World} {h : Heap} {p : Addr → Prop} (hok : HOk P wd H h) (hp : ∀ a, p a → H a = none ∧ ∃ o v, h.get? a = some o ∧ o.data = .cell v) : HOk P wd (adc p h H) h := fun a x e => by
  by_cases z : p a
  · obtain ⟨_, o, v, h1, h2⟩ := hp a z
    rw [adc_in z h1] at e
    cases e
    exact ⟨h1, ⟨o, h1⟩, fun g1 g2 q st => st o q⟩
  · rw [adc_out z] at e
    have np : ∀ b y, H b = some y → ¬ p b := fun b y e z => by rw [(hp b z).1] at e; cases e
    refine (hok a x e).stay (fun b u _ q => q) (fun b q => ?_) fun b xs q => ?_
    · rw [adc_out (np b _ q)]; exact q
    · rw [adc_out (np b _ q)]; exact q
/-- the functions among the arguments stand with their cells -/
theorem unpf_reps {ids : List Nat} {cls : Nat → List (Str × Addr)} {js : Nat → List Nat} (I : Inv X pins σ H s) (c : Cur X.K w F H σ ρ n) (hcl : ∀ id ∈ ids, NdefX.Caps X (cls id) (Tb.W id).fr (js id)) :
    ∀ {bs : List Bool} {ds ds' : List D} {vs : List V}, Reps X.K w F H vs ds → unpfs ρ ids cls js bs ds = some ds' → Reps X.K w (fun a => F a ∨ ownC X a) (adc (ownC X) s.heap H) vs ds' := by
  have hp : ∀ a, ownC X a → H a = none ∧ ∃ o v, s.heap.get? a = some o ∧ o.data = .cell v := fun a ⟨y, e⟩ => by
    obtain ⟨v, o, h1, h2⟩ := I.cell y a e
    exact ⟨I.freeC y a e, o, v, h1, h2⟩
  have kp : ∀ a o, F a → H a = some o → adc (ownC X) s.heap H a = some o := fun a o _ e => by
    rw [adc_out fun z => by rw [(hp a z).1] at e; cases e]; exact e
  intro bs
  induction bs with
  | nil =>
    intro ds ds' vs r e
    cases ds with
    | nil => cases e; cases r; exact .nil
    | cons d r => cases e
  | cons b0 bs ih =>
    intro ds ds' vs rs e
    cases ds with
    | nil => cases b0 <;> cases e
    | cons d r =>
    cases rs with
    | cons rd rt =>
      cases b0 with
      | false =>
        unfold unpfs at e
        cases q : unpfs ρ ids cls js bs r with
        | none => rw [q] at e; cases e
        | some ds2 =>
          rw [q] at e
          cases e
          exact .cons (rd.fz (fun _ => .inl) kp) (ih rt q)
      | true =>
      unfold unpfs at e
      split at e
      rotate_left
      · cases e
      rename_i a b ea eb
      cases e
      refine .cons ?_ (ih rt eb)
      unfold unpf at ea
      split at ea
      · rename_i id cl
        split at ea
        · rename_i hc
          obtain ⟨hid, e⟩ := hc
          subst e
          cases q : capts ρ (js id) with
          | none => rw [q] at ea; cases ea
          | some cs =>
            rw [q] at ea
            cases ea
            obtain ⟨vsC, h1, h2, _⟩ := capts_reps c q
            have C := NdefX.cells_of I (hcl id hid)
            rw [h1] at C
            cases rd with
            | pf x =>
              refine .fn (vs := vsC) ⟨x.fz (fun _ => .inl) kp, ?_, fun y a e => ?_, C.inj, fun i y e => ?_⟩ (h2.fz (fun _ => .inl) kp)
              · have := C.len
                rw [List.length_map] at this
                exact this
              · have z : ownC X a := ⟨y, (hcl id hid).sub y a e⟩
                obtain ⟨_, o, v, g1, g2⟩ := hp a z
                exact ⟨.inr z, o, v, adc_in z g1, g2⟩
              · obtain ⟨a, g1, g2⟩ := C.has i y e
                have z : ownC X a := ⟨y, (hcl id hid).sub y a g1⟩
                refine ⟨a, g1, fun v hv => ?_⟩
                obtain ⟨u, g3, o, g4, g5⟩ := g2 v (by rw [List.getElem?_map, hv]; rfl)
                exact ⟨o, u, adc_in z g4, g5, g3⟩
        · cases ea
      · cases ea
        exact rd.fz (fun _ => .inl) kp
theorem caps_by {id : Nat} {name qual : Str} {params : Arguments} {body : FuncBody} {scope : Scope} {fr : List Str} {js : List Nat} (hW : Tb.W id = ⟨name, qual, params, body, scope, fr⟩) (hfree : freeB X.env.scope scope = true) (hfr : (fr.all fun y => decide ((y, NameKind.free) ∈ scope.names)) = true)
    (hjs : js.map (fun j => X.N[j]?) = fr.map some) (ok : X.Ok) : NdefX.Caps X (cloFrom X.env.cells scope.names []) (Tb.W id).fr js := by
  rw [hW]
  exact NdefX.Caps.made ok (free_by hfree) (fun y hy => of_decide_eq_true (List.all_eq_true.mp hfr y hy)) hjs
end
section
variable {X : Cx} {W : WX} {k : Nat} {f : Addr} {fd : FuncData} {ps : List Str} {x : Str} {p pos : Pos} {e : Expr} {es : List Expr}
theorem de_callH {ar : Nat} {bs : List Bool} {fn : List D → T D} {fa : DEnv → T (List D)} {ids : List Nat} {cls : Nat → List (Str × Addr)} {js : Nat → List Nat} (F : FnG X.prog X.w X.K X.mg X.base k f fd ps (spD X.K X.mg ar fn)) (hr : Room k X.A) (hG : X.A.guards = some []) (tk : Takes X W) (hfn : ∀ x, X.fn x = true)
    (hcl : X.Ok → ∀ id ∈ ids, NdefX.Caps X (cls id) (Tb.W id).fr (js id)) (hg : Gl X x) (hm : X.mg x = some (.ref f)) (hk : PySem.W.keepIn X.K (.ref f) = true) (hb : Binds X.K fd ps [])
    (ha : PA X (e :: es) (tDA X.K X.mg W fa)) (hdb : (x == ("__debug__" : Str)) = false := by decide) (he : starEach (e :: es) X.env = (false, eval e X.env) :: starEach es X.env := by rfl) (hpl : (backTo pos (starEach es X.env)).any (·.1) = false := by rfl) :
    PE X (.Call (.Name x p) (e :: es) [] pos) (tD X.K X.mg W (dCallH ar bs fn ids cls js fa)) := by
  constructor
  rintro pins s σ H Q I ⟨w, F0', ρ, n, c, q⟩
  refine wpAny_Call_Name_kw (ld_glob I hg hm ?_ hdb)
  have q' := T.wp_bind _ _ |>.mp q
  have h : tDA X.K X.mg W fa σ H fun vs H1 => ∃ (F1 : Addr → Prop) (m : Nat) (ds ds' : List D), StepE w F0' H F1 H1 ∧ Cur X.K w F1 H1 σ ρ m ∧ Reps X.K w F1 H1 vs ds ∧ unpfs ρ ids cls js bs ds = some ds' ∧ ds'.length = ar ∧ (fn ds').clean.wp (PostE X.K w F0' H Q) (PostX X.K X.mg w F0' H (WE W σ)) m :=
    tDA.go c q' (fun _ _ h => h) fun ds m q1 F1 H1 vs s1 c1 r => by
      split at q1
      · rename_i ds' hd
        split at q1
        · rename_i hl
          exact ⟨F1, m, ds, ds', s1, c1, r, hd, hl, q1⟩
        · exact q1.elim
      · exact q1.elim
  refine PySem.W.callWith_K (h₀ := X.base) I.ok.mod.kin hk (thn (ha.run pos pins s σ H _ I h) ?_) he hpl
  rintro us s1 ⟨vs, H1, I1, r, F1, m, ds, ds', st1, c1, rs, hd, hl, q1⟩
  refine ⟨I1.kIn, ?_⟩
  have rs2 := unpf_reps I1 c1 (hcl I1.ok) rs hd
  have hp : ∀ a, ownC X a → H1 a = none ∧ ∃ o v, s1.heap.get? a = some o ∧ o.data = .cell v := fun a ⟨y, e⟩ => by
    obtain ⟨v, o, h1, h2⟩ := I1.cell y a e
    exact ⟨I1.freeC y a e, o, v, h1, h2⟩
  have np : ∀ a o, H1 a = some o → ¬ ownC X a := fun a o e z => by rw [(hp a z).1] at e; cases e
  have out : ∀ a, ¬ ownC X a → adc (ownC X) s1.heap H1 a = H1 a := fun a z => adc_out z
  have hok2 := adc_ok I1.hok hp
  have nf : ∀ a, ownC X a → a ∉ frs X.stack := fun a z => cell_nofr I1 hfn z
  have cP : CellP (ownC X) H1 s1.heap := fun a z => by
    obtain ⟨g1, o, v, g2, _⟩ := hp a z
    exact ⟨o, g2, .inl g1⟩
  have wn : ¬ ownC X w := fun z => by
    obtain ⟨u, hu⟩ := c1.well.there
    exact np w u hu z
  have kp : ∀ a o, H1 a = some o → adc (ownC X) s1.heap H1 a = some o := fun a o e => by rw [out a (np a o e)]; exact e
  have b2 : Base w (fun a => F1 a ∨ ownC X a) (adc (ownC X) s1.heap H1) m := by
    refine ⟨?_, fun z => z.elim c1.nw wn, fun a fa => ?_, fun q hq => (c1.tabs q hq).of (fun _ => .inl) (fun b ps e => kp _ _ e) fun b o _ e => kp _ _ e⟩
    · obtain ⟨x, y, z, h1, h2⟩ := c1.well
      exact ⟨x, y, z, kp _ _ h1, h2⟩
    · rcases fa with fa | z
      · obtain ⟨o, h1, h2⟩ := c1.dom' a fa
        exact ⟨o, kp _ _ h1, h2⟩
      · obtain ⟨_, o, v, g2, _⟩ := hp a z
        exact ⟨_, adc_in z g2, fun _ h => by unfold CellO at h; cases h⟩
  have back : ∀ {F' : Addr → Prop} {H' : Hp} {m' : Nat} {B : Heap}, HOk X.prog X.w H' B → StepE w (fun a => F1 a ∨ ownC X a) (adc (ownC X) s1.heap H1) F' H' → Base w F' H' m' →
      CellsIn (ownC X) F' H' ∧ StepE w F0' H (F0 (ownC X) F') (rst (ownC X) H1 H') ∧ Base w (F0 (ownC X) F') (rst (ownC X) H1 H') m' ∧ CellP (ownC X) H' B ∧ (∀ a o, ownC X a → s1.heap.get? a = some o → B.get? a = some o) ∧ rst (ownC X) H1 H' = rst (ownC X) noH H' := by
    intro F' H' m' B hokB st b'
    have atC : ∀ a, ownC X a → ∃ o v, H' a = some (CellO a o) ∧ s1.heap.get? a = some o ∧ o.data = .cell v := fun a z => by
      obtain ⟨_, o, v, g2, g3⟩ := hp a z
      exact ⟨o, v, st.keep' a _ (fun e => wn (e ▸ z)) (adc_in z g2) (fun _ h => by unfold CellO at h; cases h), g2, g3⟩
    have cin : CellsIn (ownC X) F' H' := fun a z => by
      obtain ⟨o, v, g1, g2, g3⟩ := atC a z
      exact ⟨st.sub a (.inr z), o, v, g1, g3⟩
    have eq : rst (ownC X) H1 H' = rst (ownC X) noH H' := funext fun a => by
      by_cases z : ownC X a
      · rw [rst_in z, rst_in z, (hp a z).1]; rfl
      · rw [rst_out z, rst_out z]
    refine ⟨cin, ?_, ?_, fun a z => ?_, fun a o z e => ?_, eq⟩
    · refine st1.trans ⟨fun a o ne e t => ?_, fun a fa => ?_, fun a fa => ?_, fun a e => ?_⟩
      · rw [rst_out (np a o e)]
        exact st.keep' a o ne (kp a o e) t
      · obtain ⟨o, e⟩ := c1.dom a fa
        exact ⟨st.sub a (.inl fa), np a o e⟩
      · rcases st.new a fa.1 with q | q
        · exact q.elim .inl fun z => absurd z fa.2
        · rw [out a fa.2] at q; exact .inr q
      · by_cases z : ownC X a
        · exact (hp a z).1
        · rw [rst_out z] at e
          have := st.dom a e
          rw [out a z] at this; exact this
    · rw [eq]
      exact b'.drop hokB cin
    · obtain ⟨o, v, g1, g2, _⟩ := atC a z
      exact ⟨o, cell_get hokB g1, .inr g1⟩
    · obtain ⟨o2, v, g1, g2, _⟩ := atC a z
      rw [e] at g2
      cases g2
      exact cell_get hokB g1
  have hlu : us.length = ps.length := by
    have g := F.len vs H1 Q (WE W σ)
    have l1 := rs2.length
    have : vs.length = ar := by rw [l1, hl]
    have l2 := F.len vs (adc (ownC X) s1.heap H1) (fun _ _ => True) (fun _ _ _ => True) ⟨this, w, _, m, ds', b2, rs2, T.wp_mono (fun _ _ _ _ _ _ _ _ _ => True.intro) (fun _ _ _ _ _ _ _ _ _ _ => True.intro) (T.wp_clean q1)⟩
    rw [← r.length]; exact l2
  have bt := hb s1 us I1.kIn (by rw [List.append_nil]; exact hlu)
  rw [List.append_nil] at bt
  have run := F.run X.A X.stack s1 (adc (ownC X) s1.heap H1) ⟨us, []⟩ us vs (fun v H' => ∃ F' m d, StepE w (fun a => F1 a ∨ ownC X a) (adc (ownC X) s1.heap H1) F' H' ∧ Base w F' H' m ∧ Rep X.K w F' H' v d ∧ d.noFn = true ∧ PostE X.K w F0' H Q d m)
    (fun ec dd H' => ∃ F' m ex, StepE w (fun a => F1 a ∨ ownC X a) (adc (ownC X) s1.heap H1) F' H' ∧ Base w F' H' m ∧ RExc X.K X.mg w F' H' ex ec dd ∧ ex.noFn = true ∧ PostX X.K X.mg w F0' H (WE W σ) ex m)
    hr hG (env0_rst I1.env0 out hok2 nf fun a z => cell_nobase I1 hfn z) bt r
    ⟨by rw [rs2.length]; exact hl, w, _, m, ds', b2, rs2, T.wp_mono (fun d m q F' H' v st b' rr => ⟨F', m, d, st, b', rr, q.1, q.2⟩) (fun ex m q F' H' ec dd st b' rr => ⟨F', m, ex, st, b', rr, q.1, q.2⟩) (T.wp_clean q1)⟩
  refine wpAny_call (codeAny_mono run fun res s' hq => ?_)
  have hq2 := CR_rst (Q := Q) (E := WE W σ) out cP nf (fun v H' B q hokB un => by
      obtain ⟨F', m', d, st, b', rd, nfn, po⟩ := q
      obtain ⟨cin, st2, b3, c1', c2', eq⟩ := back hokB st b'
      refine ⟨c1', c2', po _ _ v st2 b3 ?_⟩
      rw [eq]
      exact Rep.uncell hokB cin rd nfn)
    (fun ec dd H' B q hokB un => by
      obtain ⟨F', m', ex, st, b', rd, nfn, po⟩ := q
      obtain ⟨cin, st2, b3, c1', c2', eq⟩ := back hokB st b'
      refine ⟨c1', c2', po _ _ ec dd st2 b3 ?_⟩
      rw [eq]
      obtain ⟨C, g1, g2, g3⟩ := rd
      refine ⟨C, g1, g2, ?_⟩
      cases ex with
      | mk cname arg =>
        cases arg with
        | none => exact g3
        | some fdd =>
          obtain ⟨ff, d⟩ := fdd
          obtain ⟨a, v, k1, k2, k3, k4⟩ := g3
          have nq := cell_no hokB cin k3 fun o v e => by unfold CellO at e; cases e
          exact ⟨a, v, k1, ⟨k2, nq⟩, by rw [rst_out nq]; exact k3, Rep.uncell hokB cin k4 nfn⟩) hq
  match res, hq2 with
  | .error e, hq2 => exact passAt tk σ pins H1 s1 e s' I1 hq2
  | .ok (.ret u), hq2 => exact I1.after hq2
  | .ok .next, hq2 => exact hq2.elim
  | .ok .brk, hq2 => exact hq2.elim
  | .ok .cont, hq2 => exact hq2.elim
/-- f(e, ..), f a name that holds such a function -/
def dCallF (ap : Nat → List D → List D → T D) (i : Nat) (fa : DEnv → T (List D)) : DEnv → T D := fun ρ => match ρ[i]? with
  | some (.sh (.fn id caps)) => (fa ρ).bind fun ds => ap id caps ds
  | _ => .fail
theorem fnAt_q {pins : List (Addr × Obj)} {σ : St} {H : Hp} {s : Shared} {Wd : Word} {cl : List (Str × Addr)} {c f : Addr} (I : Inv X pins σ H s) (e : H f = some (FnQ f Wd cl c)) : PySem.W.FnAt f s.heap := by
  obtain ⟨od, sl, doc, pm, ctv, ho⟩ := (I.hok f _ e).1
  exact ⟨_, od, _, sl, ho⟩
theorem de_callF {ap : Nat → List D → List D → T D} {fa : DEnv → T (List D)} (i : Nat) (C : CloOk X.prog X.w X.K X.mg X.base k ap) (hr : Room k X.A) (hG : X.A.guards = some []) (tk : Takes X W) (hv : PE X (.Name x p) (tVar i))
    (ha : PA X (e :: es) (tDA X.K X.mg W fa)) (he : starEach (e :: es) X.env = (false, eval e X.env) :: starEach es X.env := by rfl) (hpl : (backTo pos (starEach es X.env)).any (·.1) = false := by rfl) :
    PE X (.Call (.Name x p) (e :: es) [] pos) (tD X.K X.mg W (dCallF ap i fa)) := by
  constructor
  rintro pins s σ H Q I ⟨w, F0', ρ, n, c, q⟩
  unfold dCallF at q
  split at q
  rotate_left
  · exact q.elim
  rename_i id caps hi
  obtain ⟨v, hσ, rv⟩ := c.env.sh i _ hi
  cases rv with
  | fn xf rc =>
    rename_i f c' cl vsC
    refine wpAny_Call_Name_kw (thn (hv.run pins s σ H (fun v H1 => v = .ref f ∧ H1 = H) I ⟨.ref f, hσ, rfl, rfl⟩) fun u s1 ⟨v, H1, I1, r1, e1, e2⟩ => ?_)
    subst e1 e2
    obtain rfl : u = Value.ref f := r1
    have q' := T.wp_bind _ _ |>.mp q
    have h : tDA X.K X.mg W fa σ H1 fun vs H2 => ∃ (F2 : Addr → Prop) (m : Nat) (ds : List D), StepE w F0' H1 F2 H2 ∧ Cur X.K w F2 H2 σ ρ m ∧ Reps X.K w F2 H2 vs ds ∧ (ap id caps ds).wp (PostE X.K w F2 H2 Q) (PostX X.K X.mg w F2 H2 (WE W σ)) m :=
      tDA.go c q' (fun _ _ h => h) fun ds m q1 F1 H1 vs s1 c1 r => ⟨F1, m, ds, s1, c1, r, T.wp_mono (fun _ _ h => h.back s1) (fun _ _ h => h.back s1) q1⟩
    refine PySem.W.callWith_F (first := []) (fnAt_q I1 xf.hf) (thn (ha.run pos pins s1 σ H1 _ I1 h) fun us s2 ⟨vs, H2, I2, r, F2, m, ds, st, c2, rs, q2⟩ => ?_) he hpl
    have xf2 := xf.step st c.toBase
    refine ⟨fnAt_q I2 xf2.hf, ?_⟩
    show wpAny _ _ (call (.ref f) us) _ _ _
    have run := C id caps ds f X.A X.stack s2 H2 us vs Q (WE W σ) w F2 m hr hG I2.env0 r c2.toBase (.fn xf2 (rc.step st c.toBase)) rs q2
    refine wpAny_call (codeAny_mono run fun res s' hq => ?_)
    match res, hq with
    | .error e, hq => exact passAt tk σ pins H2 s2 e s' I2 hq
    | .ok (.ret u), hq => exact I2.after hq
    | .ok .next, hq => exact hq.elim
    | .ok .brk, hq => exact hq.elim
    | .ok .cont, hq => exact hq.elim
end
/-! ### defs that make functions: their code object is told -/
section
variable {P : Program} {w : World} {K : PySem.W.Frag} {mg : Str → Option Value} {base : Heap}
theorem FnG.of_bodyC {x qual : Str} {st : Stmt} {f : Addr} {fd : FuncData} {N ps : List Str} {k : Nat} (F : Fun K x qual st f fd) (S : FnScope N ps (defScope st)) (g : DEnv → T Fl) (n ar : Nat) (hn : N.length = n) (har : ps.length = ar)
    (hb : ∀ (cdv : Value) (A : Around) (outer : List Env) (s : Shared) (H : Hp) (E : XK), cdv = fd.code → ∃ g2 : DEnv → T Fl, bodyT n g2 = bodyT n g ∧ (Room k (A.deeper (envOfC qual (defScope st) s.heap.objs.size f cdv)) → (A.deeper (envOfC qual (defScope st) s.heap.objs.size f cdv)).guards = some [] →
      (cxOf (L2.CX P w) P w K mg base N qual (defScope st) f cdv A outer s H E).A.units + 100 < cLine → Takes (cxOf (L2.CX P w) P w K mg base N qual (defScope st) f cdv A outer s H E) (fun c dd _ H => E c dd H) →
      PSs (cxOf (L2.CX P w) P w K mg base N qual (defScope st) f cdv A outer s H E) (defBody st) (sD K mg (fun c dd _ H => E c dd H) g2))) : FnG P w K mg base (k + 1) f fd ps (spD K mg ar (bodyT n g)) := by
  subst hn har
  obtain ⟨oc, od, kV, doc, pm, an, cdv, ct, osl, rfl, lk, hcd⟩ := F.ex
  refine ⟨fun vs H Q E h => h.1, ?_⟩
  intro A outer s H args us vs Q E hr hG e0 hbt r hsp
  have hl : vs.length = ps.length := hsp.1
  have KX : K.In s.heap := e0.mod.kin.keeps fun b o e => (e0.bs b o e).1
  have lim : s.heap.NoLimit := e0.mod.nolimit.keeps fun b o e => (e0.bs b o e).1
  have kinds : ∀ y ∈ ps.zip us, (defScope st).names.lookup y.1 = some .local ∨ ((defScope st).names.lookup y.1 = some .cell ∧ ((cellsFrom (s.heap.objs.size + 1) (defScope st).names []).lookup y.1).isSome = true) := by
    rintro ⟨nm, v⟩ hy
    refine (S.par nm (List.of_mem_zip hy).1).imp id fun q => ⟨q, ?_⟩
    exact PySem.W.cellsFrom_some _ _ _ (.inl q)
  refine codeAny_call_function hr.depth (KX _ _ lk) rfl S.co S.gen rfl (PySem.W.codeRec_of KX hcd) (hbt _ _ _ _ ?_)
  refine wpAny_newFunctionEnv_cells S.kind kinds ?_
  intro env he s1 x
  subst he
  refine ⟨lim.keeps x.toInCall.keep, codeAny_func ?_⟩
  obtain ⟨g2, eg, hg2⟩ := hb cdv A outer s H E rfl
  have ht := hg2 (hr.deeper _) hG (by have := (hr.deeper (envOfC qual (defScope st) s.heap.objs.size f cdv)).un; show (A.deeper (envOfC qual (defScope st) s.heap.objs.size f cdv)).units + 100 < cLine; omega) (takes_of rfl rfl rfl rfl)
  have I : Inv (cxOf (L2.CX P w) P w K mg base N qual (defScope st) f cdv A outer s H E) [] (L2.start N vs) H s1 := inv_start S hr.hd e0 hl r x
  obtain ⟨_, w', F0, n, ds, b, rr, q⟩ := hsp
  rw [← eg] at q
  have hq : sD K mg (fun c dd _ H => E c dd H) g2 { nx := fun _ H' => Q .non H', rt := Q } (L2.start N vs) H := by
    refine ⟨w', F0, _, n, ⟨b, start_env rr⟩, T.wp_mono (fun fl m q1 => ?_) (fun _ _ h => h) (T.wp_nox (E' := fun _ _ => False) (T.wp_bind _ _ |>.mp q))⟩
    cases fl with
    | nx ρ' => exact fun F' H' σ' s c => q1 F' H' .non (s.toE fun _ => start_own) c.toBase .non
    | bk ρ' => exact q1.elim
    | ct ρ' => exact q1.elim
    | rt d => exact fun F' H' v s b r => q1 F' H' v (s.toE fun _ => start_own) b r
    | rs e ρ' => exact fun F' H' σ' c dd s cu r => q1 F' H' c dd (s.toE fun _ => start_own) cu.toBase r
  refine wpAny_mono (ht.run [] s1 (L2.start N vs) H _ I hq) ?_ fun e s' hs => hs
  intro fl s' hs
  have fin : ∀ {σ' : St} {H' : Hp} {v : V} {u : Value}, Inv (cxOf (L2.CX P w) P w K mg base N qual (defScope st) f cdv A outer s H E) [] σ' H' s' → RelV v u → Q v H' → CE outer P w H s Q u s' :=
    fun {σ' H' v u} J rv q => ⟨v, H', J.os, J.bare, J.base, J.hok, rv, q⟩
  match fl, hs with
  | .ret u, ⟨v, σ', H', J, rv, q⟩ => exact fin J rv q
  | .next, ⟨σ', H', J, q⟩ => exact fin (v := V.non) (u := Value.none) J rfl q
  | .brk, ⟨_, _, _, q⟩ => exact q.elim
  | .cont, ⟨_, _, _, q⟩ => exact q.elim
end
end
end AL
namespace AL
open PySem PySem.Spec PyProof.Rows L2
noncomputable section
/-! ## the end of a law whose defs make functions -/
/-- the script and the empty tables as all that is tracked -/
def tabH (ts : List Addr) (a : Addr) (own : Bool) (vs : List Value) (ns : List Int) : Hp := fun b => if b ∈ ts then some (.tbl #[]) else onlyH a own vs ns b
theorem tabH_or (ts : List Addr) (a : Addr) (own : Bool) (vs : List Value) (ns : List Int) (b : Addr) : (b ∈ ts ∧ tabH ts a own vs ns b = some (.tbl #[])) ∨ (b ∉ ts ∧ tabH ts a own vs ns b = none) ∨
    (b ∉ ts ∧ b = a ∧ own = true ∧ tabH ts a own vs ns b = some (.frz { cls := .type "list", data := .seq vs.toArray } (.lst (ns.map V.int)))) := by
  by_cases h : b ∈ ts
  · exact .inl ⟨h, if_pos h⟩
  · have e : tabH ts a own vs ns b = onlyH a own vs ns b := if_neg h
    rcases onlyH_or a own vs ns b with z | ⟨z1, z2, z3⟩
    · exact .inr (.inl ⟨h, e.trans z⟩)
    · exact .inr (.inr ⟨h, z1, z2, e.trans z3⟩)
theorem callGT {P : Program} {w : World} {K : PySem.W.Frag} {mg mb : Str → Option Value} {k : Nat} {fa a : Addr} {fd : FuncData} {x : Str} {sp : Sp} {s₁ : Shared} {vs : List Value} {ns : List Int} {cs : List (Addr × Addr)}
    (KX : K.In s₁.heap) (hns : s₁.heap.Ns mainGlobals mg) (hb : s₁.heap.Ns builtinsNs mb) (hbb : ∀ x : Str, x ≠ "__name__" → mb x = bootBuiltins x) (hlim : s₁.heap.NoLimit) (hg : s₁.gens = #[])
    (hT : ∀ p ∈ cs, s₁.heap.get? p.2 = some (PySem.W.tabObj #[])) (nT : ∀ p ∈ cs, K.lookup p.2 = none) (C : ∀ p ∈ cs, PySem.W.CodeHd s₁.heap p.1 p.2)
    (hbm : ∃ (bm : Addr) (ob : Obj), mg "__builtins__" = some (.ref bm) ∧ bm ≠ builtinsNs ∧ s₁.heap.get? bm = some ob ∧ ob.cls = .type "module" ∧ ob.dict = some builtinsNs ∧ ob.data = .plain)
    (ha : s₁.heap.get? a = some { cls := .type "list", data := .seq vs.toArray }) (hi : IntsAre vs ns) (hl : ns.length ≤ sizeLine) (hr : Room k callerA)
    (F : ∀ base : Heap, K.In base → base.Ns mainGlobals mg → (∀ p ∈ cs, LamX.TabB base mg p.1 p.2) → FnG P w K mg base k fa fd [x] sp) (hbind : ∀ (s : Shared) (u : Value), BindsTo s fd ⟨[u], []⟩ [(x, u)])
    (hsp : ∀ H : Hp, (∀ p ∈ cs, H p.2 = some (.tbl #[])) → SqL K H a (ns.map V.int) → sp [.ref a] H (fun v _ => v = .bl true) fun _ _ _ => False) :
    codeAny (model P w) callerA (.call (.ref fa) ⟨[.ref a], []⟩) (fun r s' => r = .ok (.ret (.bool true)) ∧ OldK s₁.heap s'.heap ∧ s'.os = s₁.os ∧ AllBare s'.gens) s₁ := by
  let own : Bool := (K.lookup a).isNone
  have ownK : own = true → K.lookup a = none := fun z => Option.isNone_iff_eq_none.mp z
  let ts := cs.map (·.2)
  let T := tabH ts a own vs ns
  have rel := vals_ints hi
  have tab_at : ∀ {b : Addr}, b ∈ ts → ∃ p ∈ cs, p.2 = b := fun {b} hb => by
    obtain ⟨p, h1, h2⟩ := List.mem_map.mp hb
    exact ⟨p, h1, h2⟩
  have tab_get : ∀ {b : Addr}, b ∈ ts → s₁.heap.get? b = some (PySem.W.tabObj #[]) := fun {b} hb => by
    obtain ⟨p, h1, h2⟩ := tab_at hb
    exact h2 ▸ hT p h1
  have na : a ∉ ts := fun z => by
    have q := tab_get z
    rw [ha] at q
    cases (show Data.seq vs.toArray _ = Data.fields #[] from congrArg Obj.data (Option.some.inj q))
  have cases3 : ∀ b, (b ∈ ts ∧ T b = some (.tbl #[])) ∨ (b ∉ ts ∧ T b = none) ∨ (b ∉ ts ∧ b = a ∧ own = true ∧ T b = some (.frz { cls := .type "list", data := .seq vs.toArray } (.lst (ns.map V.int)))) := tabH_or ts a own vs ns
  have tSq : SqL K T a (ns.map V.int) := by
    cases e : K.lookup a with
    | none =>
      refine .inl (.inr ⟨{ cls := .type "list", data := .seq vs.toArray }, ?_⟩)
      exact (if_neg na).trans (if_pos ⟨rfl, by show (K.lookup a).isNone = true; rw [e]; rfl⟩)
    | some o =>
      have g := KX a o e
      rw [ha] at g
      cases g
      exact .inr ⟨_, vs.toArray, _, e, rfl, rfl, rfl, by rw [List.size_toArray, hi.length]; exact hl, by simpa using rel⟩
  have tOk : HOk P w T s₁.heap := fun b u z => by
    rcases cases3 b with ⟨y, y2⟩ | ⟨_, y2⟩ | ⟨_, y, _, y2⟩
    · rw [y2] at z
      cases z
      exact tab_get y
    · rw [y2] at z; cases z
    · rw [y2] at z
      cases z
      subst y
      exact ⟨ha, by rw [List.length_map]; exact hl, vs, _, rel, ha⟩
  have keepB : ∀ {b : Addr} {o : Obj}, s₁.heap.get? b = some o → T b = none → (hidT s₁.heap T).get? b = some o := fun y z => hidT_get y z
  have notT : ∀ {b : Addr} {o : Obj}, s₁.heap.get? b = some o → (∀ xs n, o.data ≠ .seq xs n) → o.data ≠ .fields #[] → T b = none := fun {b o} y d1 d2 => by
    rcases cases3 b with ⟨z, _⟩ | ⟨_, z⟩ | ⟨_, z, _, _⟩
    · have q := tab_get z
      rw [y] at q
      cases q
      exact (d2 rfl).elim
    · exact z
    · subst z
      rw [ha] at y
      cases y
      exact (d1 _ _ rfl).elim
  have notD : ∀ {b : Addr} {o : Obj} {es : Array DictEntry} {ep : Nat}, s₁.heap.get? b = some o → o.data = .dict es ep → T b = none := fun y d => notT y (fun _ _ z => by rw [d] at z; cases z) fun z => by rw [d] at z; cases z
  have nsB : ∀ {b : Addr} {m : Str → Option Value}, s₁.heap.Ns b m → (hidT s₁.heap T).Ns b m := fun {b m} ⟨o, es, ep, y, d, r⟩ => ⟨o, es, ep, keepB y (notD y d), d, r⟩
  have inB : K.In (hidT s₁.heap T) := fun b o y => keepB (KX b o y) (by
    rcases cases3 b with ⟨z, _⟩ | ⟨_, z⟩ | ⟨_, z, z2, _⟩
    · obtain ⟨p, h1, h2⟩ := tab_at z
      rw [← h2, nT p h1] at y
      cases y
    · exact z
    · subst z
      rw [ownK z2] at y
      cases y)
  have mod : Mod K mg (hidT s₁.heap T) := ⟨inB, nsB hns, ⟨mb, nsB hb, hbb⟩, let ⟨mc, h1, h2⟩ := hlim; ⟨mc, nsB h1, h2⟩⟩
  have env : Env0 P w K mg (hidT s₁.heap T) callerA [] s₁ T := ⟨rfl, mod, fun b o y => of_hidT y, Nat.le_of_eq (hidT_size _ _), trivial, fun b z => absurd (show b ∈ ([] : List Addr) from z) (by simp), tOk, .of_eq hg⟩
  have tb : ∀ p ∈ cs, LamX.TabB (hidT s₁.heap T) mg p.1 p.2 := fun p hp => by
    have gP := hT p hp
    have nG : ∀ {b : Addr} {ob : Obj}, s₁.heap.get? b = some ob → ob.data = .plain → b ≠ mainGlobals ∧ b ≠ p.2 := fun {b ob} e d => by
      refine ⟨fun q => ?_, fun q => ?_⟩
      · obtain ⟨o, es, ep, e2, hd, _⟩ := hns
        rw [← q, e] at e2
        cases e2
        rw [d] at hd
        cases hd
      · rw [q, gP] at e
        cases e
        cases d
    refine ⟨?_, ?_, fun z => ?_⟩
    · obtain ⟨o, us, file, tf, flags, tg, inF, text, tt, e1, r1, r2, r3, rest⟩ := C p hp
      exact ⟨o, us, file, tf, flags, tg, inF, text, tt, keepB e1 (notT e1 (fun _ _ z => by rw [r2] at z; cases z) fun z => by rw [r2] at z; cases z; simp at r3), r1, r2, r3, rest⟩
    · obtain ⟨bm, ob, b1, b2, b3, b4, b5, b6⟩ := hbm
      exact ⟨bm, ob, b1, b2, (nG b3 b6).1, (nG b3 b6).2, keepB b3 (notT b3 (fun _ _ z => by rw [b6] at z; cases z) fun z => by rw [b6] at z; cases z), b4, b5, b6⟩
    · obtain ⟨o, es, ep, e, hd, _⟩ := hns
      rw [z, gP] at e
      cases e
      cases hd
  have tabs0 : ∀ p ∈ cs, T p.2 = some (.tbl #[]) := fun p hp => if_pos (List.mem_map.mpr ⟨p, hp, rfl⟩)
  have run := (F _ inB (nsB hns) tb).run callerA [] s₁ T ⟨[.ref a], []⟩ [.ref a] [.ref a] _ _ hr rfl env (hbind s₁ (.ref a)) (.cons rfl .nil) (hsp T tabs0 tSq)
  refine codeAny_mono run fun r s' h => ?_
  match r, h with
  | .error e, h =>
    obtain ⟨_, _, _, _, _, _, _, _, _, _, _, _, z⟩ := h
    exact z.elim
  | .ok .next, h => exact False.elim h
  | .ok .brk, h => exact False.elim h
  | .ok .cont, h => exact False.elim h
  | .ok (.ret u), ⟨v, H2, os, bare, un, hok, rv, (q : v = .bl true)⟩ =>
    subst q
    obtain rfl : u = Value.bool true := rv
    have key : ∀ b o, b ∉ ts → s₁.heap.get? b = some o → s'.heap.get? b = some o := fun b o nb y => by
      rcases cases3 b with ⟨z, _⟩ | ⟨_, z⟩ | ⟨_, _, _, z⟩
      · exact absurd z nb
      · exact un.keep b o y z (fun z => absurd (show b ∈ ([] : List Addr) from z) (by simp)) (by simp)
      · have e1 := (tOk b _ z).1
        have e2 := (hok b _ (un.frzs b _ _ z)).1
        rw [y] at e1
        cases e1
        exact e2
    have grown : ∀ p ∈ cs, ∃ more : Array Value, s'.heap.get? p.2 = some { cls := .none, data := .fields more } := fun p hp => by
      obtain ⟨more, z⟩ := un.tbls p.2 #[] (tabs0 p hp)
      exact ⟨_, hok p.2 _ z⟩
    refine ⟨rfl, ⟨fun b o y => ?_, fun b o y => ?_⟩, os, bare⟩
    · by_cases nb : b ∈ ts
      · obtain ⟨p, h1, h2⟩ := tab_at nb
        subst h2
        obtain ⟨more, hm⟩ := grown p h1
        rw [hT p h1] at y
        cases y
        exact .inr (.inl ⟨((C p h1).tab (hT p h1)).isCodeTable, rfl, #[], more, rfl, by rw [Array.empty_append]; exact hm⟩)
      · exact .inl (key b o nb y)
    · by_cases nb : b ∈ ts
      · obtain ⟨p, h1, h2⟩ := tab_at nb
        subst h2
        obtain ⟨more, hm⟩ := grown p h1
        exact ⟨_, hm⟩
      · exact ⟨o, key b o nb y⟩
/-- what is to be shown of a law's def -/
def LawT (l : PySem.W.OpenLaw) (w : World) (K : PySem.W.Frag) (k n : Nat) (x : Str) (mg : Str → Option Value) (fa : Addr) (h : Heap) : Prop :=
  ∃ (fd : FuncData) (cs : List (Addr × Addr)) (sp : Sp), (∀ p ∈ cs, h.get? p.2 = some (PySem.W.tabObj #[])) ∧ (∀ p ∈ cs, K.lookup p.2 = none) ∧ (∀ p ∈ cs, PySem.W.codeHdIn K p.1 p.2 = true) ∧ (∀ (s : Shared) (u : Value), BindsTo s fd ⟨[u], []⟩ [(x, u)]) ∧
    (∀ (H : Hp) (a : Addr) (ns : List Int), ns.length ≤ n → (∀ z ∈ ns, Builtin.Int.intBits z ≤ 1048576) → (∀ p ∈ cs, H p.2 = some (.tbl #[])) → SqL K H a (ns.map V.int) → sp [.ref a] H (fun v _ => v = .bl true) fun _ _ _ => False) ∧
    ∀ base : Heap, K.In base → base.Ns mainGlobals mg → (∀ p ∈ cs, LamX.TabB base mg p.1 p.2) → FnG l.prog w K mg base k fa fd [x] sp
theorem walkGT {l : PySem.W.OpenLaw} {n k : Nat} {q : Program} {loose : List Str} {XP : (Str → Option Value) → Heap → Prop} {YP : World → Heap → Prop} {d : DefRec} {K : Params → PySem.W.Frag} {ts : List Addr} {x : Str}
    (hn : l.most = some n) (hn2 : n ≤ sizeLine) (hdf : d.params.defaults = []) (hr : Room k callerA) (hY : ∀ (w : World) (h : Heap), YP w h → (K w.params).In h ∧ ∀ P ∈ ts, h.get? P = some (PySem.W.tabObj #[]))
    (F : ∀ (w : World) (mg : Str → Option Value) (fa : Addr) (h : Heap), (∀ P ∈ ts, h.get? P = some (PySem.W.tabObj #[])) → (K w.params).In h → h.Ns mainGlobals mg → mg d.name = some (.ref fa) → LawT l w (K w.params) k n x mg fa h) :
    PySem.W.WalkO q loose XP YP l.row.toRowW d [] (fun f vs => PySem.call f vs) := by
  refine Att.attach_callB hn hdf fun w s0 s1 mg mb fa o pm cd doc a vs ns G Y ho hd hcd hmg hobj hints hlen hbits hg => ?_
  obtain ⟨KX, hts⟩ := hY w _ Y
  obtain ⟨fd, cs, sp, h1, h2, h3, hb, hsp, hF⟩ := F w mg fa _ hts KX G.T.g hmg
  exact callGT KX G.T.g G.T.b G.T.builtins G.T.nolimit hg h1 h2 (fun p hp => PySem.W.codeHd_of_K KX (h3 p hp)) G.T.bmain hobj hints (Nat.le_trans hlen hn2) hr hF hb fun H hH hS => hsp H a ns hlen hbits hH hS
end
end AL
namespace AL
open PySem PySem.Spec PyProof.Rows L2
noncomputable section
/-! ## parts of a text: where a lambda, a def in a def stands -/
def noE : Expr := .Name "" ⟨0, 0, 0, 0⟩
def noS : Stmt := .Pass ⟨0, 0, 0, 0⟩
def noA : Arguments := { posonlyargs := [], args := [], vararg := none, kwonlyargs := [], kw_defaults := [], kwarg := none, defaults := [] }
def sAt (l : List Stmt) (i : Nat) : Stmt := l.getD i noS
def sVal : Stmt → Expr
  | .Return (some e) _ => e
  | .Assign _ e _ => e
  | .Expr e _ => e
  | .If t _ _ _ => t
  | _ => noE
def sBody : Stmt → List Stmt
  | .If _ b _ _ => b
  | .For _ _ b _ _ => b
  | .While _ b _ _ => b
  | .FunctionDef _ _ b _ _ _ _ _ _ _ => b
  | _ => []
def sElse : Stmt → List Stmt
  | .If _ _ b _ => b
  | _ => []
def eArg (i : Nat) : Expr → Expr
  | .Call _ as _ _ => as.getD i noE
  | _ => noE
def eElt (i : Nat) : Expr → Expr
  | .Tuple es _ _ => es.getD i noE
  | .List es _ => es.getD i noE
  | _ => noE
def eLeft : Expr → Expr
  | .BinOp a _ _ _ => a
  | .Compare a _ _ _ => a
  | .Subscript a _ _ => a
  | _ => noE
def eRight (i : Nat) : Expr → Expr
  | .BinOp _ _ a _ => a
  | .Compare _ _ as _ => as.getD i noE
  | _ => noE
def lamP : Expr → Arguments
  | .Lambda p _ _ _ => p
  | _ => noA
def lamB : Expr → Expr
  | .Lambda _ b _ _ => b
  | _ => noE
def lamS : Expr → Scope
  | .Lambda _ _ sc _ => sc
  | _ => { kind := .function, names := [], isGenerator := false, isCoroutine := false }
def noWord : Word := ⟨"", "", noA, .stmts [], { kind := .function, names := [], isGenerator := false, isCoroutine := false }, []⟩
def fdOf {K : PySem.W.Frag} {x q : Str} {st : Stmt} {f : Addr} {fd : FuncData} (_ : Fun K x q st f fd) : FuncData := fd
/-! ## an item of an own list is exchanged -/
section
variable [Tb] {X : Cx} {W : WX}
def gLput (i : Nat) (fk fv : DEnv → T D) : DEnv → T Fl := fun ρ => match ρ[i]? with
  | some (.own xs) => (fv ρ).ex ρ fun v => (fk ρ).ex ρ fun d => match d with
    | .int j => match ixN xs.length j with
      | some k => .ok (.nx (ρ.set i (.own (xs.set k v))))
      | none => .fail
    | _ => .fail
  | _ => .fail
theorem Reps.set {K : PySem.W.Frag} {w : Addr} {F : Addr → Prop} {H : Hp} {v : V} {d : D} (r : Rep K w F H v d) : ∀ {vs : List V} {ds : List D} (k : Nat), Reps K w F H vs ds → Reps K w F H (vs.set k v) (ds.set k d)
  | _, _, _, .nil => .nil
  | _, _, 0, .cons _ t => .cons r t
  | _, _, k + 1, .cons q t => .cons q (Reps.set r k t)
theorem ds_lput {o e ve : Expr} {pos pos' : Pos} (i : Nat) {fk fv : DEnv → T D} (ho : PE X o (tVar i)) (he : PE X e (tD X.K X.mg W fk)) (hv : PE X ve (tD X.K X.mg W fv)) (ha : PG X (.Subscript o e pos') (gSub (tVar i) (tD X.K X.mg W fk) rSetL)) (hs : swapsWithSole [.Subscript o e pos'] ve pos.line X.env = pure false := by rfl) (hw : swappedStores [.Subscript o e pos'] ve X.env = pure none := by rfl)
    (h1 : (assignEach [.Subscript o e pos'] X.env).map (·.2) = [assign (.Subscript o e pos') X.env] := by rfl) : PS X (.Assign [.Subscript o e pos'] ve pos) (sD X.K X.mg W (gLput i fk fv)) := PS.of (ps_asg hv ha hs hw h1) fun D σ H ⟨w, F, ρ, n, c, q⟩ => by
  unfold gLput at q
  split at q
  rotate_left
  · exact q.elim
  rename_i xs hi
  refine tD.go c (T.wp_ex q) (fun e m h => PostS.exc c h) fun dv m q1 F1 H1 v s1 c1 rv => ?_
  obtain ⟨a, vs, q2, q3, q4, q5, q6⟩ := c1.env.at_own hi
  refine ⟨.ref a, q2, ?_⟩
  refine tD.go c1 (T.wp_ex q1) (fun e m h => PostX.back s1 (PostS.exc c h)) fun d m2 q7 F2 H2 y s2 c2 ry => ?_
  cases ry with
  | int j =>
    dsimp only at q7
    split at q7
    · rename_i k hk
      obtain ⟨a2, vs2, p2, p3, p4, p5, p6⟩ := c2.env.at_own hi
      rw [q2] at p2
      cases p2
      refine ⟨a, vs2, j, k, rfl, rfl, p5, by rw [p6.length]; exact hk, ?_⟩
      obtain ⟨s5, c5⟩ := c2.put hi q2 (Reps.set (rv.step s2 c1.toBase) k p6)
      exact q7 F2 _ σ ((s1.trans s2).s.trans s5) c5
    · exact q7.elim
  | _ => exact q7.elim
end
end
end AL
namespace AL
open PySem PySem.Spec PyProof.Rows L2
noncomputable section
variable [Tb]
/-! ## {k: v} with any key; a dict made step by step -/
section
variable {X : Cx} {pins : List (Addr × Obj)} {σ : St} {H : Hp} {s : Shared} {w : Addr} {F : Addr → Prop} {a : Addr} {kvs : List (D × D)} {y : V} {u : Value} {d : D}
theorem reps_ints {K : PySem.W.Frag} (l : List Int) (H2 : Hp) : Reps K w F H2 (l.map V.int) (l.map D.int) := by
  induction l with
  | nil => exact .nil
  | cons i l ih => exact .cons (.int i) ih
/-- d[k] = v as a display or a comprehension does it -/
theorem o_dset {v : V} {dv : D} {r : Value} {Q : Unit → Shared → Prop} {E : Value → Shared → Prop} (hu : X.A.units + 9 < cLine) (I : Inv X pins σ H s) (nf : ¬ F a) (h : OwnAt X.K w F H a (.dic kvs)) (ry : Rep X.K w F H y d) (ru : RelV y u) (rv : Rep X.K w F H v dv) (rr : RelV v r) (ok : dicOk kvs d = true) (hz : kvs.length < sizeLine)
    (q : ∀ ob s', OwnAt X.K w F (upd H a ob) a (.dic (dput kvs d dv)) → Inv X pins σ (upd H a ob) s' → Q () s') : wpAny (model X.prog X.w) X.A (dictSet a u r) Q E s := by
  have kp : ∀ ob c o, F c → H c = some o → (upd H a ob) c = some o := fun ob c o f hh => by
    have nc : c ≠ a := fun z => nf (by rw [← z]; exact f)
    rw [upd_ne nc]
    exact hh
  cases d with
  | int j =>
    obtain ⟨is, vs, e1, e2, e3⟩ := leaf_of h ok
    cases ry
    obtain ⟨is', vs', z1, z2, z3⟩ := leaf_put (j := j) rv e1 e3
    have hl : ((is.map (Sum.inl : Int → Key)).zip vs).length < sizeLine := by
      have l1 := congrArg List.length e1
      rw [List.length_zip, List.length_map]
      simp only [List.length_map] at l1
      omega
    refine d_dictSet I e2 hl (k := .inl j) ru rr fun s' I' => q _ s' ?_ I'
    rw [z2]
    exact ⟨_, is'.map V.int, vs', upd_same, .inl ⟨is', z1, rfl⟩, by rw [z1]; exact reps_ints _ _, z3.fz (fun _ z => z) (kp _)⟩
  | tup xs =>
    obtain ⟨k, hk, hz', ht⟩ := dicOk_tup ok rfl
    obtain ⟨hd, es, vs, dd', hl, p1, p2, p3, p4⟩ := nest_of I h ht
    cases ry with
    | tup ht' hr =>
      rename_i b us
      cases ru
      have hkey : (nestedKind X.prog X.w).is s.heap k b := ⟨nk_is I (.tup ht' hr) hk rfl, hz'⟩
      obtain ⟨vs', g1, g2, g3, g4⟩ := nest_put hk rfl hz' (.tup ht' hr) rr rv p1 p2 p3 p4
      have hes : es.length < sizeLine := by
        have := Paired.length p1
        rw [List.length_map] at this
        omega
      have mu : Mut (H a) := by
        obtain ⟨o, ks, vs2, h1, h2, _⟩ := h
        rcases h2 with ⟨is, _, e⟩ | ⟨wd, xs2, e, _⟩ <;> rw [h1, e] <;> exact True.intro
      refine wpAny_dictSet_heap (hsz := by omega) (by show X.A.units + 8 < cLine; omega) hkey dd' fun h' dd2 hs => q (NDo X.w a (storedH es k b r)) _ ?_ (o_new hd dd2 I mu hs)
      refine ⟨_, _, vs', upd_same, .inr ⟨X.w, storedH es k b r, rfl, dput_ne, by have := storedH_len es k b r; omega, dd2.nodup, g1, rfl, g3⟩, g2.fz (fun _ z => z) (kp _), g4.fz (fun _ z => z) (kp _)⟩
  | _ => cases ok
/-- a new empty dict of one's own -/
theorem own_new {p : Addr} {K : PySem.W.Frag} {H : Hp} : OwnAt K w F (upd H p (.dK [])) p (.dic []) := ⟨.dK [], [], [], upd_same, .inl ⟨[], rfl, rfl⟩, .nil, .nil⟩
end
section
variable {X : Cx} {W : WX}
def dDisp1 (fk fv : DEnv → T D) : DEnv → T Slot := fun ρ => (fk ρ).bind fun d => (fv ρ).bind fun v => if dicOk [] d = true then .ok (.dic [(d, v)]) else .fail
theorem dm_disp1 {k v : Expr} {pos : Pos} {fk fv : DEnv → T D} (hu : X.A.units + 100 < cLine) (hk : PE X k (tD X.K X.mg W fk)) (hv : PE X v (tD X.K X.mg W fv)) : PE X (.Dict [some k] [v] pos) (tM X.K X.mg W (dDisp1 fk fv)) := by
  refine ⟨fun pins s σ H Q I ⟨w, F, ρ, n, c, q⟩ => ?_⟩
  have hn := I.hok.fresh (Nat.le_refl s.heap.objs.size)
  generalize hp : s.heap.objs.size = p at hn
  have I1 : Inv X pins σ (upd H p (.dK [])) { s with heap := s.heap.push { cls := .type "dict", data := .dict #[] } } := by
    subst hp
    exact I.laid (a := s.heap.objs.size) (o := .dK []) (h' := s.heap.push { cls := .type "dict", data := .dict #[] }) (t' := s.toks) (fun _ _ q => Heap.get?_push_of_some _ q) (Nat.le_refl _) (dk_empty s.heap I.big)
  have s0 := StepE.layOwn (w := w) (F := F) (o := .dK []) hn
  have b0 := c.toBase.layOwn (o := .dK []) hn
  have c0 := c.step s0 b0
  have hw : p ≠ w := c.toBase.pne hn
  rw [arm_eval_Dict, zip_pairTrees [some k] [v] X.env pos rfl rfl, dictDisplay_pairs (pairTrees [some k] [v] X.env pos) (by simp [pairTrees]) (by simp [pairTrees])]
  refine wpAny_bind (wpAny_standAt (wpAny_bind ?_))
  unfold subDict
  refine wpAny_bind (wpAny_alloc ?_)
  rw [hp]
  refine wpAny_bind (wpAny_holding ?_)
  rw [if_pos (by simp [pairTrees])]
  refine wpAny_bind (pairTrees_cons_walk ?_)
  refine thn (hk.run pins _ σ _ (fun y H2 => ∃ F2 m d, StepE w F (upd H p (.dK [])) F2 H2 ∧ Cur X.K w F2 H2 σ ρ m ∧ Rep X.K w F2 H2 y d ∧ ((fv ρ).bind fun v => if dicOk [] d = true then T.ok (Slot.dic [(d, v)]) else .fail).wp (fun s m => ∀ F' H' v, StepE w F H F' H' → Base w F' H' m → RepM X.K w H F' H' v s → Q v H') (PostX X.K X.mg w F H fun c dd H' => W c dd σ H') m) I1 ?_) fun kv s2 ⟨y, H2, I2, ry, F2, m, d, st, c2, rd, q2⟩ => ?_
  · exact tD.go c0 (T.wp_bind _ _ |>.mp q) (fun _ _ h => h.back s0) fun d m q1 F1 H1 y s1 c1 r => ⟨F1, m, d, s1, c1, r, q1⟩
  refine thn (hv.run pins s2 σ H2 (fun z H3 => ∃ F3 m3 dv, StepE w F2 H2 F3 H3 ∧ Cur X.K w F3 H3 σ ρ m3 ∧ Rep X.K w F3 H3 z dv ∧ dicOk [] d = true ∧ ∀ F' H' v, StepE w F H F' H' → Base w F' H' m3 → RepM X.K w H F' H' v (Slot.dic [(d, dv)]) → Q v H') I2 ?_) fun vv s3 ⟨z, H3, I3, rz, F3, m3, dv, st3, c3, rdv, ok, q3⟩ => ?_
  · refine tD.go c2 (T.wp_bind _ _ |>.mp q2) (fun _ _ h => h.back (s0.trans st)) fun dv m q1 F1 H1 y s1 c1 r => ?_
    split at q1
    · rename_i ok
      exact ⟨F1, m, dv, s1, c1, r, ok, q1⟩
    · exact q1.elim
  show wpAny _ _ (evalPairs []) _ _ s3
  refine wpAny_pure (wpAny_holding ?_)
  rw [List.forIn_cons]
  have hd2 : H3 p = some (.dK []) := st3.keep p _ hw (st.keep p _ hw upd_same)
  have nf : ¬ F3 p := fun f => by
    rcases st3.new p f with f | f
    · rcases st.new p f with f | f
      · exact c.toBase.pnf hn f
      · rw [upd_same] at f; cases f
    · rw [st.keep p _ hw upd_same] at f; cases f
  refine wpAny_bind (wpAny_bind (wpAny_bind (o_dset (kvs := []) (by omega) I3 nf ⟨.dK [], [], [], hd2, .inl ⟨[], rfl, rfl⟩, .nil, .nil⟩ (rd.step st3 c2.toBase) ry rdv rz ok (szt (by decide)) fun ob s4 h4 I4 => wpAny_pure (wpAny_pure ?_))))
  refine wpAny_pure (wpAny_pure (wpAny_pure ⟨.ref p, upd H3 p ob, I4, rfl, ?_⟩))
  refine q3 F3 (upd H3 p ob) (.ref p) ?_ ?_ ⟨p, rfl, hn, nf, h4⟩
  · have st4 := (s0.trans st).trans st3
    refine ⟨fun a o na z t => ?_, st4.sub, st4.new, fun a z => ?_⟩
    · rw [upd_ne (ne_of_none z hn)]
      exact st4.keep' a o na z t
    · by_cases e : a = p
      · rw [e]; exact hn
      · rw [upd_ne e] at z
        exact st4.dom a z
  · exact c3.toBase.put nf hw hd2
@[simp] theorem s_dDisp1 (fk fv : DEnv → T D) (ρ : DEnv) : dDisp1 fk fv ρ = (fk ρ).bind fun d => (fv ρ).bind fun v => if dicOk [] d = true then .ok (.dic [(d, v)]) else .fail := rfl
end
end
end AL
namespace AL
/-! ## going from label to label, the first ones first (no program in sight) -/
section
variable {α : Type} [DecidableEq α] (E : Nat) (step : α → Nat → α) (goal : α → Bool)
/-- a label and the log that led there -/
abbrev Row (α : Type) := α × List Nat
def hasL (rows : List (Row α)) (a : α) : Bool := rows.any fun r => decide (r.1 = a)
def push (rows : List (Row α)) (x : Row α) : List (Row α) := if hasL rows x.1 then rows else rows ++ [x]
/-- the events from e on, n of them -/
def expandN (x : Row α) (rows : List (Row α)) : Nat → List (Row α)
  | 0 => rows
  | n + 1 => push (expandN x rows n) (step x.1 n, x.2 ++ [n])
def expand (x : Row α) (rows : List (Row α)) : List (Row α) := expandN step x rows E
/-- the answer of the going from the t-th row on -/
inductive Res : List (Row α) → Nat → Option (List Nat) → Prop
  | none {rows t} : rows[t]? = .none → Res rows t .none
  | goal {rows t x} : rows[t]? = some x → goal x.1 = true → Res rows t (some x.2)
  | next {rows t x r} : rows[t]? = some x → goal x.1 = false → Res (expand E step x rows) (t + 1) r → Res rows t r
variable {E step goal}
theorem Res.det {rows : List (Row α)} {t : Nat} {r r' : Option (List Nat)} (h : Res E step goal rows t r) (h' : Res E step goal rows t r') : r = r' := by
  induction h with
  | none e =>
    cases h' with
    | none _ => rfl
    | goal e' _ => rw [e] at e'; cases e'
    | next e' _ _ => rw [e] at e'; cases e'
  | goal e g =>
    cases h' with
    | none e' => rw [e] at e'; cases e'
    | goal e' _ => rw [e] at e'; cases e'; rfl
    | next e' g' _ => rw [e] at e'; cases e'; rw [g] at g'; cases g'
  | next e g _ ih =>
    cases h' with
    | none e' => rw [e] at e'; cases e'
    | goal e' g' => rw [e] at e'; cases e'; rw [g] at g'; cases g'
    | next e' _ h2 => rw [e] at e'; cases e'; exact ih h2
theorem hasL_iff {rows : List (Row α)} {a : α} : hasL rows a = true ↔ a ∈ rows.map (·.1) := by
  unfold hasL
  rw [List.any_eq_true]
  simp only [decide_eq_true_eq, List.mem_map]
theorem push_pre (rows : List (Row α)) (x : Row α) : ∃ l, push rows x = rows ++ l := by
  unfold push
  split
  · exact ⟨[], by simp⟩
  · exact ⟨[x], rfl⟩
theorem expandN_pre (x : Row α) (rows : List (Row α)) : ∀ n, ∃ l, expandN step x rows n = rows ++ l
  | 0 => ⟨[], by simp [expandN]⟩
  | n + 1 => by
    obtain ⟨l, h⟩ := expandN_pre x rows n
    obtain ⟨l2, h2⟩ := push_pre (expandN step x rows n) (step x.1 n, x.2 ++ [n])
    exact ⟨l ++ l2, by rw [expandN, h2, h, List.append_assoc]⟩
theorem expand_get {x : Row α} {rows : List (Row α)} {i : Nat} {y : Row α} (h : rows[i]? = some y) : (expand E step x rows)[i]? = some y := by
  obtain ⟨l, e⟩ := expandN_pre (step := step) x rows E
  unfold expand
  rw [e, List.getElem?_append_left (List.getElem?_eq_some_iff.mp h).1]
  exact h
theorem expand_len (x : Row α) (rows : List (Row α)) : rows.length ≤ (expand E step x rows).length := by
  obtain ⟨l, e⟩ := expandN_pre (step := step) x rows E
  unfold expand
  rw [e, List.length_append]
  omega
/-- no label twice -/
def Once (rows : List (Row α)) : Prop := (rows.map (·.1)).Nodup
theorem Once.push {rows : List (Row α)} (h : Once rows) (x : Row α) : Once (push rows x) := by
  unfold AL.push
  split
  · exact h
  · rename_i hn
    unfold Once
    rw [List.map_append, List.nodup_append]
    refine ⟨h, by simp, fun a ha b hb e => ?_⟩
    simp only [List.map_cons, List.map_nil, List.mem_singleton] at hb
    subst hb e
    exact hn (hasL_iff.mpr ha)
theorem Once.expandN {rows : List (Row α)} (h : Once rows) (x : Row α) : ∀ n, Once (expandN step x rows n)
  | 0 => h
  | n + 1 => (Once.expandN h x n).push _
theorem Once.expand {rows : List (Row α)} (h : Once rows) (x : Row α) : Once (expand E step x rows) := h.expandN x E
/-- what each row bears -/
theorem expandN_all {P : Row α → Prop} {x : Row α} {rows : List (Row α)} (h : ∀ r ∈ rows, P r) : ∀ n, (∀ e, e < n → P (step x.1 e, x.2 ++ [e])) → ∀ r ∈ expandN step x rows n, P r
  | 0, _ => h
  | n + 1, hn => by
    have ih := expandN_all h n fun e he => hn e (by omega)
    unfold expandN push
    split
    · exact ih
    · intro r hr
      rcases List.mem_append.mp hr with z | z
      · exact ih r z
      · rw [List.mem_singleton.mp z]
        exact hn n (Nat.lt_succ_self n)
theorem expand_all {P : Row α → Prop} {x : Row α} {rows : List (Row α)} (h : ∀ r ∈ rows, P r) (hn : ∀ e, e < E → P (step x.1 e, x.2 ++ [e])) : ∀ r ∈ expand E step x rows, P r := expandN_all h E hn
theorem Res.prop {P : Row α → Prop} {rows : List (Row α)} {t : Nat} {r : Option (List Nat)} (h : Res E step goal rows t r) (hp : ∀ x ∈ rows, P x) (hs : ∀ x e, P x → e < E → P (step x.1 e, x.2 ++ [e])) : ∀ w, r = some w → ∃ a, P (a, w) ∧ goal a = true := by
  induction h with
  | none e => intro w e; cases e
  | goal e g =>
    intro w e2
    cases e2
    exact ⟨_, hp _ (List.mem_of_getElem? e), g⟩
  | next e g _ ih =>
    have hx := hp _ (List.mem_of_getElem? e)
    exact ih (expand_all hp fun e he => hs _ e hx he)
/-! ### seen through a renaming -/
section
variable {β : Type} [DecidableEq β] {step' : β → Nat → β} {goal' : β → Bool} {φ : α → β}
def mapR (φ : α → β) (rows : List (Row α)) : List (Row β) := rows.map fun r => (φ r.1, r.2)
theorem push_map (inj : ∀ a b, φ a = φ b → a = b) (rows : List (Row α)) (x : Row α) : push (mapR φ rows) (φ x.1, x.2) = mapR φ (push rows x) := by
  have e : hasL (mapR φ rows) (φ x.1) = hasL rows x.1 := by
    rw [Bool.eq_iff_iff, hasL_iff, hasL_iff]
    unfold mapR
    rw [List.map_map]
    simp only [List.mem_map, Function.comp]
    constructor
    · rintro ⟨r, h1, h2⟩
      exact ⟨r, h1, inj _ _ h2⟩
    · rintro ⟨r, h1, h2⟩
      exact ⟨r, h1, by rw [h2]⟩
  unfold push
  rw [e]
  split
  · rfl
  · unfold mapR
    rw [List.map_append]
    rfl
theorem expandN_map (inj : ∀ a b, φ a = φ b → a = b) (hs : ∀ a e, φ (step a e) = step' (φ a) e) (x : Row α) (rows : List (Row α)) : ∀ n, expandN step' (φ x.1, x.2) (mapR φ rows) n = mapR φ (expandN step x rows n)
  | 0 => rfl
  | n + 1 => by
    unfold expandN
    rw [expandN_map inj hs x rows n, ← push_map inj]
    simp only [hs]
theorem Res.map (inj : ∀ a b, φ a = φ b → a = b) (hs : ∀ a e, φ (step a e) = step' (φ a) e) (hg : ∀ a, goal' (φ a) = goal a) {rows : List (Row α)} {t : Nat} {r : Option (List Nat)} (h : Res E step goal rows t r) : Res E step' goal' (mapR φ rows) t r := by
  have get : ∀ {rows : List (Row α)} {t : Nat} {x : Row α}, rows[t]? = some x → (mapR φ rows)[t]? = some (φ x.1, x.2) := fun {rows t x} e => by
    unfold mapR
    rw [List.getElem?_map, e]
    rfl
  induction h with
  | none e =>
    refine .none ?_
    unfold mapR
    rw [List.getElem?_map, e]
    rfl
  | goal e g => exact Res.goal (x := (φ _, _)) (get e) (by rw [hg]; exact g)
  | @next rows t x r e g _ ih =>
    refine Res.next (get e) (by show goal' (φ _) = false; rw [hg]; exact g) ?_
    have := expandN_map (step' := step') inj hs (step := step) x rows E
    unfold expand
    rw [this]
    exact ih
end
/-! ### the log that is found is of the least size -/
/-- where the going stands: sizes ascend, what was gone through is no goal and its followers are there -/
structure Bfs (E : Nat) (step : α → Nat → α) (goal : α → Bool) (rows : List (Row α)) (t : Nat) : Prop where
  asc : ∀ (i j : Nat) (x y : Row α), i ≤ j → rows[i]? = some x → rows[j]? = some y → x.2.length ≤ y.2.length
  near : ∀ (i : Nat) (x y : Row α), rows[t]? = some x → rows[i]? = some y → y.2.length ≤ x.2.length + 1
  old : ∀ (i : Nat) (x : Row α), i < t → rows[i]? = some x → goal x.1 = false ∧ ∀ e, e < E → ∃ y ∈ rows, y.1 = step x.1 e ∧ y.2.length ≤ x.2.length + 1
theorem hasL_get {rows : List (Row α)} {a : α} (h : hasL rows a = true) : ∃ y ∈ rows, y.1 = a := by
  obtain ⟨y, h1, h2⟩ := List.mem_map.mp (hasL_iff.mp h)
  exact ⟨y, h1, h2⟩
theorem expandN_has {x : Row α} {rows : List (Row α)} {m : Nat} (hr : ∀ y ∈ rows, y.2.length ≤ m + 1) (hx : x.2.length = m) : ∀ n e, e < n → ∃ y ∈ expandN step x rows n, y.1 = step x.1 e ∧ y.2.length ≤ m + 1
  | 0, _, h => absurd h (Nat.not_lt_zero _)
  | n + 1, e, h => by
    have all : ∀ y ∈ expandN step x rows n, y.2.length ≤ m + 1 := expandN_all (P := fun y => y.2.length ≤ m + 1) hr n fun e _ => by simp [hx]
    unfold expandN push
    by_cases he : e < n
    · obtain ⟨y, h1, h2⟩ := expandN_has hr hx n e he
      split
      · exact ⟨y, h1, h2⟩
      · exact ⟨y, List.mem_append_left _ h1, h2⟩
    · have e2 : e = n := by omega
      subst e2
      split
      · rename_i hh
        obtain ⟨y, h1, h2⟩ := hasL_get hh
        exact ⟨y, h1, h2, all y h1⟩
      · exact ⟨_, List.mem_append_right _ (List.mem_singleton.mpr rfl), rfl, by simp [hx]⟩
theorem expandN_asc {x : Row α} {rows : List (Row α)} (h : ∀ (i j : Nat) (x y : Row α), i ≤ j → rows[i]? = some x → rows[j]? = some y → x.2.length ≤ y.2.length) (hr : ∀ y ∈ rows, y.2.length ≤ x.2.length + 1) : ∀ n, ∀ (i j : Nat) (a b : Row α), i ≤ j → (expandN step x rows n)[i]? = some a → (expandN step x rows n)[j]? = some b → a.2.length ≤ b.2.length
  | 0 => h
  | n + 1 => by
    have ih := expandN_asc h hr n
    have all : ∀ y ∈ expandN step x rows n, y.2.length ≤ x.2.length + 1 := expandN_all (P := fun y => y.2.length ≤ x.2.length + 1) hr n fun e _ => by simp
    unfold expandN push
    split
    · exact ih
    · intro i j a b hij ha hb
      by_cases hj : j < (expandN step x rows n).length
      · rw [List.getElem?_append_left hj] at hb
        rw [List.getElem?_append_left (by omega)] at ha
        exact ih i j a b hij ha hb
      · have hj2 := (List.getElem?_eq_some_iff.mp hb).1
        rw [List.length_append, List.length_singleton] at hj2
        have ej : j = (expandN step x rows n).length := by omega
        rw [List.getElem?_append_right (by omega), ej, Nat.sub_self] at hb
        have hb := (Option.some.inj hb).symm
        subst hb
        by_cases hi : i < (expandN step x rows n).length
        · rw [List.getElem?_append_left hi] at ha
          have := all a (List.mem_of_getElem? ha)
          simpa using this
        · have ei : i = (expandN step x rows n).length := by omega
          rw [List.getElem?_append_right (by omega), ei, Nat.sub_self] at ha
          have ha := (Option.some.inj ha).symm
          subst ha
          exact Nat.le_refl _
theorem Bfs.next {rows : List (Row α)} {t : Nat} {x : Row α} (b : Bfs E step goal rows t) (e : rows[t]? = some x) (g : goal x.1 = false) : Bfs E step goal (expand E step x rows) (t + 1) := by
  have hr : ∀ y ∈ rows, y.2.length ≤ x.2.length + 1 := fun y hy => by
    obtain ⟨i, hi⟩ := List.mem_iff_getElem?.mp hy
    exact b.near i x y e hi
  have asc := expandN_asc (step := step) b.asc hr E
  have all : ∀ y ∈ expand E step x rows, y.2.length ≤ x.2.length + 1 := expand_all (P := fun y => y.2.length ≤ x.2.length + 1) hr fun e _ => by simp
  refine ⟨asc, fun i a y ha hy => ?_, fun i a hi ha => ?_⟩
  · have h1 := asc t (t + 1) x a (by omega) (expand_get e) ha
    have h2 := all y (List.mem_of_getElem? hy)
    omega
  · by_cases hit : i < t
    · have hlt : i < rows.length := by
        have := (List.getElem?_eq_some_iff.mp e).1
        omega
      have hr' : rows[i]? = some rows[i] := List.getElem?_eq_getElem hlt
      have := expand_get (E := E) (step := step) (x := x) hr'
      rw [ha] at this
      cases this
      obtain ⟨h1, h2⟩ := b.old i _ hit hr'
      refine ⟨h1, fun ev he => ?_⟩
      obtain ⟨y, h3, h4⟩ := h2 ev he
      obtain ⟨j, hj⟩ := List.mem_iff_getElem?.mp h3
      exact ⟨y, List.mem_of_getElem? (expand_get hj), h4⟩
    · have : i = t := by omega
      subst this
      rw [expand_get e] at ha
      cases ha
      exact ⟨g, fun ev he => expandN_has (m := x.2.length) hr rfl E ev he⟩
/-- a log leads from label to label -/
def goF (step : α → Nat → α) (a : α) (w : List Nat) : α := w.foldl step a
theorem Bfs.reach {rows : List (Row α)} {t : Nat} {a : α} (b : Bfs E step goal rows t) (h0 : ∃ y ∈ rows, y.1 = a ∧ y.2.length = 0) {m : Nat} (hm : ∀ (i : Nat) (x : Row α), i ≥ t → rows[i]? = some x → m ≤ x.2.length) : ∀ (n : Nat) (w : List Nat), w.length = n → (∀ e ∈ w, e < E) → n ≤ m → ∃ y ∈ rows, y.1 = goF step a w ∧ y.2.length ≤ n
  | 0, w, hl, _, _ => by
    have : w = [] := List.length_eq_zero_iff.mp hl
    subst this
    obtain ⟨y, h1, h2, h3⟩ := h0
    exact ⟨y, h1, h2, by omega⟩
  | n + 1, w, hl, hw, hn => by
    have hne : w ≠ [] := fun z => by rw [z] at hl; cases hl
    have ew : w.dropLast ++ [w.getLast hne] = w := List.dropLast_concat_getLast hne
    have hl2 : w.dropLast.length = n := by rw [List.length_dropLast]; omega
    obtain ⟨y, h1, h2, h3⟩ := b.reach h0 hm n w.dropLast hl2 (fun e he => hw e (List.dropLast_subset _ he)) (by omega)
    obtain ⟨i, hi⟩ := List.mem_iff_getElem?.mp h1
    have hit : i < t := Nat.lt_of_not_le fun z => by
      have := hm i y z hi
      omega
    obtain ⟨_, h4⟩ := b.old i y hit hi
    obtain ⟨z, h5, h6, h7⟩ := h4 (w.getLast hne) (hw _ (List.getLast_mem hne))
    refine ⟨z, h5, ?_, by omega⟩
    rw [h6, h2]
    conv => rhs; rw [← ew]
    unfold goF
    rw [List.foldl_append]
    rfl
theorem Res.least {rows : List (Row α)} {t : Nat} {r : Option (List Nat)} {a : α} (h : Res E step goal rows t r) (b : Bfs E step goal rows t) (h0 : ∃ y ∈ rows, y.1 = a ∧ y.2.length = 0) :
    ∀ w : List Nat, (∀ e ∈ w, e < E) → goal (goF step a w) = true → ∃ v, r = some v ∧ v.length ≤ w.length := by
  induction h with
  | @none rows t e =>
    intro w hw g
    exfalso
    obtain ⟨y, h1, h2, _⟩ := b.reach h0 (m := w.length) (fun i x hi hx => by
      have := (List.getElem?_eq_some_iff.mp hx).1
      have := List.getElem?_eq_none_iff.mp e
      omega) w.length w rfl hw (Nat.le_refl _)
    obtain ⟨i, hi⟩ := List.mem_iff_getElem?.mp h1
    have hlt : i < t := by
      have := (List.getElem?_eq_some_iff.mp hi).1
      have := List.getElem?_eq_none_iff.mp e
      omega
    have := (b.old i y hlt hi).1
    rw [h2, g] at this
    cases this
  | @goal rows t x e g =>
    intro w hw gw
    refine ⟨x.2, rfl, ?_⟩
    refine Nat.le_of_not_lt fun hlt => ?_
    obtain ⟨y, h1, h2, h3⟩ := b.reach h0 (m := x.2.length) (fun i z hi hz => b.asc t i x z hi e hz) w.length w rfl hw (by omega)
    obtain ⟨i, hi⟩ := List.mem_iff_getElem?.mp h1
    have hit : i < t := Nat.lt_of_not_le fun z => by
      have := b.asc t i x y z e hi
      omega
    have := (b.old i y hit hi).1
    rw [h2, gw] at this
    cases this
  | @next rows t x r e g _ ih =>
    refine ih (b.next e g) ?_
    obtain ⟨y, h1, h2⟩ := h0
    obtain ⟨i, hi⟩ := List.mem_iff_getElem?.mp h1
    exact ⟨y, List.mem_of_getElem? (expand_get hi), h2⟩
theorem Bfs.start (a : α) : Bfs E step goal [(a, [])] 0 := by
  refine ⟨fun i j x y _ hx hy => ?_, fun i x y hx hy => ?_, fun i x h => absurd h (Nat.not_lt_zero _)⟩
  · have := List.mem_of_getElem? hx
    rw [List.mem_singleton] at this
    subst this
    simp
  · have := List.mem_of_getElem? hy
    rw [List.mem_singleton] at this
    subst this
    simp
/-- enough goings -/
theorem res_some (N : Nat) (S : α → Prop) (hS : ∀ rows : List (Row α), Once rows → (∀ r ∈ rows, S r.1) → rows.length ≤ N) (hs : ∀ a e, S a → e < E → S (step a e)) : ∀ (k : Nat) (rows : List (Row α)) (t : Nat), Once rows → (∀ r ∈ rows, S r.1) → t + k = N + 1 → ∃ r, Res E step goal rows t r
  | 0, rows, t, h1, h2, hk => ⟨none, .none (List.getElem?_eq_none_iff.mpr (by have := hS rows h1 h2; omega))⟩
  | k + 1, rows, t, h1, h2, hk => by
    cases e : rows[t]? with
    | none => exact ⟨none, .none e⟩
    | some x =>
      cases g : goal x.1 with
      | true => exact ⟨some x.2, .goal e g⟩
      | false =>
        obtain ⟨r, hr⟩ := res_some N S hS hs k (expand E step x rows) (t + 1) (h1.expand x) (expand_all (P := fun r => S r.1) h2 fun ev he => hs _ _ (h2 _ (List.mem_of_getElem? e)) he) (by omega)
        exact ⟨r, .next e g hr⟩
end
theorem nodup_le {β : Type} [DecidableEq β] : ∀ (l m : List β), l.Nodup → (∀ x ∈ l, x ∈ m) → l.length ≤ m.length
  | [], _, _, _ => Nat.zero_le _
  | x :: r, m, h, hs => by
    have hx := hs x (by simp)
    have h2 := List.nodup_cons.mp h
    have ih := nodup_le r (m.erase x) h2.2 fun y hy => (List.mem_erase_of_ne (fun e => h2.1 (by rw [← e]; exact hy))).mpr (hs y (by simp [hy]))
    rw [List.length_erase_of_mem hx] at ih
    have := List.length_pos_of_mem hx
    simp only [List.length_cons]
    omega
theorem nodup_map_on {β γ : Type} {f : β → γ} : ∀ {l : List β}, (∀ a ∈ l, ∀ b ∈ l, f a = f b → a = b) → l.Nodup → (l.map f).Nodup
  | [], _, _ => List.nodup_nil
  | x :: r, hf, h => by
    have h2 := List.nodup_cons.mp h
    rw [List.map_cons, List.nodup_cons]
    refine ⟨fun z => ?_, nodup_map_on (fun a ha b hb => hf a (by simp [ha]) b (by simp [hb])) h2.2⟩
    obtain ⟨y, hy, e⟩ := List.mem_map.mp z
    exact h2.1 (hf y (by simp [hy]) x (by simp) e ▸ hy)
/-- pairs below bounds -/
theorem pairs_le {m n : Nat} {rows : List (Row (Nat × Nat))} (h : Once rows) (hS : ∀ r ∈ rows, r.1.1 < m ∧ r.1.2 < n) : rows.length ≤ m * n := by
  have key : ∀ l : List (Nat × Nat), l.Nodup → (∀ p ∈ l, p.1 < m ∧ p.2 < n) → l.length ≤ m * n := by
    intro l hl hb
    have h2 : (l.map fun p => p.1 * n + p.2).Nodup := by
      refine nodup_map_on (fun a ha b hb' e => ?_) hl
      have h3 := hb a ha
      have h4 := hb b hb'
      have hn : 0 < n := by omega
      have e1 : a.1 = b.1 := by
        have x1 : (a.1 * n + a.2) / n = a.1 := by rw [Nat.mul_comm, Nat.mul_add_div hn, Nat.div_eq_of_lt h3.2]; rfl
        have x2 : (b.1 * n + b.2) / n = b.1 := by rw [Nat.mul_comm, Nat.mul_add_div hn, Nat.div_eq_of_lt h4.2]; rfl
        rw [← x1, ← x2, e]
      rw [e1] at e
      exact Prod.ext e1 (by omega)
    have h5 : ∀ x ∈ l.map (fun p => p.1 * n + p.2), x ∈ List.range (m * n) := by
      intro x hx
      obtain ⟨p, hp, rfl⟩ := List.mem_map.mp hx
      obtain ⟨b1, b2⟩ := hb p hp
      rw [List.mem_range]
      calc p.1 * n + p.2 < p.1 * n + n := by omega
        _ = (p.1 + 1) * n := by rw [Nat.succ_mul]
        _ ≤ m * n := Nat.mul_le_mul_right n b1
    have := nodup_le _ _ h2 h5
    rwa [List.length_map, List.length_range] at this
  have hn : (rows.map fun r : Row (Nat × Nat) => r.1).Nodup := h
  have := key (rows.map (·.1)) hn (fun p hp => by
    obtain ⟨r, hr, rfl⟩ := List.mem_map.mp hp
    exact hS r hr)
  rwa [List.length_map] at this
end AL
namespace AL
open PySem
noncomputable section
/-! ## first_way, as data -/
/-- labels as keys of a dict -/
structure Enc {α : Type} [DecidableEq α] (enc : α → D) : Prop where
  key : ∀ (l : List α) (a : α), dicOk (l.map fun b => (enc b, D.bl true)) (enc a) = true
  eq : ∀ a b, (enc a).keq (enc b) = decide (a = b)
  plain : ∀ a, (enc a).plain = true
  noFn : ∀ a, (enc a).noFn = true
section
variable {α : Type} [DecidableEq α] {enc : α → D}
def kD (enc : α → D) (rows : List (Row α)) : List (D × D) := rows.map fun r => (enc r.1, .bl true)
def rowD (enc : α → D) (r : Row α) : D := .tup [enc r.1, rD r.2]
theorem kD_get (en : Enc enc) (rows : List (Row α)) (a : α) : (dget (kD enc rows) (enc a)).isSome = hasL rows a := by
  induction rows with
  | nil => rfl
  | cons r rs ih =>
    unfold kD at ih ⊢
    rw [List.map_cons, dget_cons]
    simp only [en.eq]
    unfold hasL at ih ⊢
    rw [List.any_cons]
    by_cases h : r.1 = a
    · simp [h]
    · simp only [h, decide_false, Bool.false_or]
      exact ih
theorem kD_ok (en : Enc enc) (rows : List (Row α)) (a : α) : dicOk (kD enc rows) (enc a) = true := by
  have := en.key (rows.map (·.1)) a
  rw [List.map_map] at this
  exact this
theorem kD_put (en : Enc enc) {rows : List (Row α)} {a : α} (w : List Nat) (h : hasL rows a = false) : dput (kD enc rows) (enc a) (.bl true) = kD enc (rows ++ [(a, w)]) := by
  unfold dput
  rw [kD_get en, h]
  simp [kD]
theorem kD_len (rows : List (Row α)) : (kD enc rows).length = rows.length := by simp [kD]
theorem plain_rowD (en : Enc enc) (r : Row α) : (rowD enc r).plain = true := by
  simp [rowD, D.plain, D.plains, en.plain]
theorem opNe_nilL {xs : List D} (h : D.plains xs = true) : opNe (.lst xs) (.lst []) = .ok (.bl (!xs.isEmpty)) := by
  have e : min (D.lst xs).py.depth (D.lst []).py.depth ≤ 64 := by simp [D.py, D.pys, PyData.depth, PyData.depthAll]
  show (if _ ∧ _ ∧ _ then _ else _) = _
  rw [if_pos ⟨by simpa only [D.plain] using h, rfl, e⟩]
  cases xs with
  | nil => simp [D.py, D.pys, PyData.eqv, PyData.eqvAll]
  | cons x r => simp [D.py, D.pys, PyData.eqv, PyData.eqvAll]
end
@[simp] theorem s_dCallF (ap : Nat → List D → List D → T D) (i : Nat) (fa : DEnv → T (List D)) (ρ : DEnv) : dCallF ap i fa ρ = (match ρ[i]? with
  | some (.sh (.fn id caps)) => (fa ρ).bind fun ds => ap id caps ds
  | _ => .fail) := rfl
def wayX (ap : Nat → List D → List D → T D) : DEnv → T Fl :=
  (gSeq (gSet 10 (dCallF ap 2 (dCons (dV 7) (dCons (dV 9) dNil))))
  (gIf (dT (dKin false 4 (dV 10)))
  (gSeq (gKput 4 (dV 10) (dC (.bl true)))
  (gAppend 6 (dTup (dCons (dV 10) (dCons (dB opAdd (dV 8) (dTup (dCons (dV 9) dNil))) dNil)))))
  gNil))
def wayB (ap : Nat → List D → List D → T D) : DEnv → T Fl :=
  (gSeq (gIf (dT (dCallF ap 3 (dCons (dV 7) dNil)))
  (gRet (dV 8))
  gNil)
  (gFor (dRange1 (dV 0)) (bName 9) (wayX ap)))
def wayW (ap : Nat → List D → List D → T D) : DEnv → T Fl :=
  (gSeq (gSetN 6 (dLst dNil))
  (gSeq (gFor (dItems (dSq (dV 5))) (bTup 2 (bCons (bName 7) (bCons (bName 8) bNil))) (wayB ap))
  (gFreeze 6 (gSet 5 (dV 6)))))
def wayT : DEnv → T Bool := (dT (dB opNe (dV 5) (dFz (dLst dNil))))
def y_first_way (n : Nat) (ap : Nat → List D → List D → T D) : DEnv → T Fl :=
  (gSeq (gPar 4 5 (dDisp1 (dV 1) (dC (.bl true))) (dSh (dFz (dLst (dCons (dTup (dCons (dV 1) (dCons (dTup dNil) dNil))) dNil)))))
  (gSeq (gWhile n wayT (wayW ap))
  (gRet (dC .non))))
def x_first_way (n : Nat) (ap : Nat → List D → List D → T D) : List D → T D := bodyT 11 (y_first_way n ap)
def optR (r : Option (List Nat)) : D := match r with
  | none => .non
  | some w => rD w
section
variable {α : Type} [DecidableEq α] {enc : α → D} {E N : Nat} {S : α → Prop} {step : α → Nat → α} {goal : α → Bool} {ap : Nat → List D → List D → T D} {i1 i2 : Nat} {c1 c2 : List D}
/-- what holds of the rows -/
structure Good (N : Nat) (S : α → Prop) (rows : List (Row α)) : Prop where
  once : Once rows
  all : ∀ r ∈ rows, S r.1 ∧ r.2.length < rows.length
  le : rows.length ≤ N
/-- what the way asks -/
structure Way (enc : α → D) (E N : Nat) (S : α → Prop) (step : α → Nat → α) (goal : α → Bool) (ap : Nat → List D → List D → T D) (i1 i2 : Nat) (c1 c2 : List D) : Prop where
  en : Enc enc
  eN : N ≤ 100000
  eE : E ≤ 100000
  fin : ∀ rows : List (Row α), Once rows → (∀ r ∈ rows, S r.1) → rows.length ≤ N
  cl : ∀ a e, S a → e < E → S (step a e)
  st : ∀ a e, S a → e < E → ap i1 c1 [enc a, nD e] = .ok (enc (step a e))
  go : ∀ a, S a → ap i2 c2 [enc a] = .ok (.bl (goal a))
theorem Good.push (hf : ∀ rows : List (Row α), Once rows → (∀ r ∈ rows, S r.1) → rows.length ≤ N) {rows : List (Row α)} (g : Good N S rows) {x : Row α} (hx : S x.1) (hl : x.2.length ≤ rows.length) : Good N S (push rows x) := by
  have ho := g.once.push x
  unfold AL.push at ho ⊢
  split
  · exact g
  · rename_i h
    rw [if_neg h] at ho
    have ha : ∀ r ∈ rows ++ [x], S r.1 := fun r hr => (List.mem_append.mp hr).elim (fun z => (g.all r z).1) fun z => by rw [List.mem_singleton.mp z]; exact hx
    refine ⟨ho, fun r hr => ⟨ha r hr, ?_⟩, hf _ ho ha⟩
    rw [List.length_append, List.length_singleton]
    rcases List.mem_append.mp hr with z | z
    · have := (g.all r z).2; omega
    · rw [List.mem_singleton.mp z]; omega
theorem Good.expandN (hf : ∀ rows : List (Row α), Once rows → (∀ r ∈ rows, S r.1) → rows.length ≤ N) {rows : List (Row α)} (g : Good N S rows) {x : Row α} (hx : x ∈ rows) : ∀ n, (∀ e, e < n → S (step x.1 e)) → Good N S (expandN step x rows n)
  | 0, _ => g
  | n + 1, h => by
    refine Good.push hf (Good.expandN hf g hx n fun e he => h e (by omega)) (h n (by omega)) ?_
    obtain ⟨l, e⟩ := expandN_pre (step := step) x rows n
    have := (g.all x hx).2
    simp only [List.length_append, List.length_singleton, e]
    omega
theorem drop_push {rows rows2 : List (Row α)} {b : Nat} (hb : b ≤ rows.length) (l : List (Row α)) (e : rows2 = rows ++ l) : rows2.drop b = rows.drop b ++ l := by
  rw [e, List.drop_append_of_le_length hb]
/-- one event of a row -/
theorem way_x (W : Way enc E N S step goal ap i1 i2 c1 c2) {rows : List (Row α)} (g : Good N S rows) {x : Row α} (hx : S x.1) (hl : x.2.length < rows.length) {e b : Nat} (he : e < E) (hb : b ≤ rows.length) (sd st : D) (sl s10 : AL.Slot) :
    ∃ s10', wayX ap [.sh (nD E), .sh sd, .sh (.fn i1 c1), st |> .sh, .dic (kD enc rows), sl, .own ((rows.drop b).map (rowD enc)), .sh (enc x.1), .sh (rD x.2), .sh (nD e), s10] =
      .ok (.nx [.sh (nD E), .sh sd, .sh (.fn i1 c1), st |> .sh, .dic (kD enc (push rows (step x.1 e, x.2 ++ [e]))), sl, .own (((push rows (step x.1 e, x.2 ++ [e])).drop b).map (rowD enc)), .sh (enc x.1), .sh (rD x.2), .sh (nD e), s10']) := by
  refine ⟨.sh (enc (step x.1 e)), ?_⟩
  have h1 := W.st x.1 e hx he
  have h2 := kD_get W.en rows (step x.1 e)
  have h3 := kD_ok W.en rows (step x.1 e)
  have h4 : (kD enc rows).length < sizeLine := szt (by rw [kD_len]; have := g.le; have := W.eN; omega)
  have h5 : x.2.length + 1 ≤ sizeLine := szl (by have := g.le; have := W.eN; omega)
  have h6 : ((rows.drop b).map (rowD enc)).length < sizeLine := szt (by rw [List.length_map, List.length_drop]; have := g.le; have := W.eN; omega)
  cases hh : hasL rows (step x.1 e) with
  | true =>
    have hp : push rows (step x.1 e, x.2 ++ [e]) = rows := if_pos hh
    rw [hp]
    rw [hh] at h2
    obtain ⟨v, hv⟩ := Option.isSome_iff_exists.mp h2
    simp [wayX, h1, hv, h3]
  | false =>
    have hp : push rows (step x.1 e, x.2 ++ [e]) = rows ++ [(step x.1 e, x.2 ++ [e])] := if_neg (by simp [hh])
    rw [hp, drop_push hb _ rfl]
    rw [hh] at h2
    have hv : dget (kD enc rows) (enc (step x.1 e)) = none := by simpa using h2
    have h7 := kD_put W.en (x.2 ++ [e]) hh
    simp only [List.length_map, List.length_drop] at h6
    simp [wayX, h1, hv, h3, h4, h7, h6, rD, h5, rowD]
theorem way_exp (W : Way enc E N S step goal ap i1 i2 c1 c2) {rows : List (Row α)} (g : Good N S rows) {x : Row α} (hx : x ∈ rows) {b : Nat} (hb : b ≤ rows.length) (sd st : D) (sl s9 s10 : AL.Slot) :
    ∃ s9' s10', forGo (bName 9) (wayX ap) ((List.range E).map nD) [.sh (nD E), .sh sd, .sh (.fn i1 c1), st |> .sh, .dic (kD enc rows), sl, .own ((rows.drop b).map (rowD enc)), .sh (enc x.1), .sh (rD x.2), s9, s10] =
      .ok (.nx [.sh (nD E), .sh sd, .sh (.fn i1 c1), st |> .sh, .dic (kD enc (expand E step x rows)), sl, .own (((expand E step x rows).drop b).map (rowD enc)), .sh (enc x.1), .sh (rD x.2), s9', s10']) := by
  have hS := (g.all x hx).1
  obtain ⟨ρ', h1, s9', s10', h2⟩ := for_steps (fb := bName 9) (g := wayX ap) (fun n ρ => ∃ s9' s10', ρ = [.sh (nD E), .sh sd, .sh (.fn i1 c1), st |> .sh, .dic (kD enc (expandN step x rows n)), sl, .own (((expandN step x rows n).drop b).map (rowD enc)), .sh (enc x.1), .sh (rD x.2), s9', s10'])
    (xs := (List.range E).map nD) (ρ := [.sh (nD E), .sh sd, .sh (.fn i1 c1), st |> .sh, .dic (kD enc rows), sl, .own ((rows.drop b).map (rowD enc)), .sh (enc x.1), .sh (rD x.2), s9, s10]) ⟨s9, s10, rfl⟩ fun n y ρ hy hI => by
    obtain ⟨s9', s10', rfl⟩ := hI
    rw [List.getElem?_map] at hy
    have hn : n < E := by
      cases e : (List.range E)[n]? with
      | none => rw [e] at hy; cases hy
      | some z => have := (List.getElem?_eq_some_iff.mp e).1; simpa using this
    have e2 : (List.range E)[n]? = some n := by rw [List.getElem?_range hn]
    rw [e2] at hy
    have hy : y = nD n := (Option.some.inj hy).symm
    subst hy
    have g2 := g.expandN W.fin (step := step) hx n fun e he => W.cl _ _ hS (by omega)
    obtain ⟨l, el⟩ := expandN_pre (step := step) x rows n
    obtain ⟨s, hs⟩ := way_x W g2 hS (by rw [el, List.length_append]; have := (g.all x hx).2; omega) hn (b := b) (by rw [el, List.length_append]; omega) sd st sl s10'
    exact ⟨_, rfl, _, .inl hs, _, _, rfl⟩
  rw [List.length_map, List.length_range] at h2
  exact ⟨s9', s10', by rw [h1, h2]; rfl⟩
theorem range_nD {n : Nat} (h : n ≤ 1000000) : rangeT (nD n) = .ok ((List.range n).map nD) := rangeT_nat (n := n) (by omega)
/-- a level -/
theorem way_level (W : Way enc E N S step goal ap i1 i2 c1 c2) (sd : D) (sl : AL.Slot) {b : Nat} : ∀ (k : Nat) (rows : List (Row α)) (t : Nat) (r : Option (List Nat)) (s7 s8 s9 s10 : AL.Slot), t + k = b → b ≤ rows.length → Good N S rows → Res E step goal rows t r →
    (∃ w, r = some w ∧ forGo (bTup 2 (bCons (bName 7) (bCons (bName 8) bNil))) (wayB ap) (((rows.drop t).take k).map (rowD enc)) [.sh (nD E), .sh sd, .sh (.fn i1 c1), .sh (.fn i2 c2), .dic (kD enc rows), sl, .own ((rows.drop b).map (rowD enc)), s7, s8, s9, s10] = .ok (.rt (rD w))) ∨
    ∃ rows' s7' s8' s9' s10', Good N S rows' ∧ b ≤ rows'.length ∧ Res E step goal rows' b r ∧ forGo (bTup 2 (bCons (bName 7) (bCons (bName 8) bNil))) (wayB ap) (((rows.drop t).take k).map (rowD enc)) [.sh (nD E), .sh sd, .sh (.fn i1 c1), .sh (.fn i2 c2), .dic (kD enc rows), sl, .own ((rows.drop b).map (rowD enc)), s7, s8, s9, s10] =
      .ok (.nx [.sh (nD E), .sh sd, .sh (.fn i1 c1), .sh (.fn i2 c2), .dic (kD enc rows'), sl, .own ((rows'.drop b).map (rowD enc)), s7', s8', s9', s10'])
  | 0, rows, t, r, s7, s8, s9, s10, hk, hb, g, hr => .inr ⟨rows, s7, s8, s9, s10, g, hb, by rw [← hk]; exact hr, by rw [List.take_zero]; rfl⟩
  | k + 1, rows, t, r, s7, s8, s9, s10, hk, hb, g, hr => by
    have ht : t < rows.length := by omega
    have e0 : rows[t]? = some rows[t] := List.getElem?_eq_getElem ht
    have ed : (rows.drop t).take (k + 1) = rows[t] :: (rows.drop (t + 1)).take k := by
      rw [List.drop_eq_getElem_cons ht, List.take_succ_cons]
    generalize hx : rows[t] = x at e0 ed
    have hm : x ∈ rows := List.mem_of_getElem? e0
    have hS := (g.all x hm).1
    have h2 := W.go x.1 hS
    rw [ed, List.map_cons]
    have eb : (bTup 2 (bCons (bName 7) (bCons (bName 8) bNil))) (rowD enc x) [.sh (nD E), .sh sd, .sh (.fn i1 c1), .sh (.fn i2 c2), .dic (kD enc rows), sl, .own ((rows.drop b).map (rowD enc)), s7, s8, s9, s10] =
        .ok [.sh (nD E), .sh sd, .sh (.fn i1 c1), .sh (.fn i2 c2), .dic (kD enc rows), sl, .own ((rows.drop b).map (rowD enc)), .sh (enc x.1), .sh (rD x.2), s9, s10] := rfl
    unfold forGo
    rw [eb, T.nox_ok, T.bind_ok]
    cases hr with
    | none e => rw [e0] at e; cases e
    | goal e gl =>
      rw [e0] at e
      cases e
      rw [gl] at h2
      refine .inl ⟨_, rfl, ?_⟩
      have : wayB ap [.sh (nD E), .sh sd, .sh (.fn i1 c1), .sh (.fn i2 c2), .dic (kD enc rows), sl, .own ((rows.drop b).map (rowD enc)), .sh (enc x.1), .sh (rD x.2), s9, s10] = .ok (.rt (rD x.2)) := by simp [wayB, h2]
      rw [this]
      rfl
    | next e gl hr =>
      rw [e0] at e
      cases e
      rw [gl] at h2
      obtain ⟨s9', s10', hex⟩ := way_exp W g hm hb sd (.fn i2 c2) sl s9 s10
      have hrg := range_nD (n := E) (by have := W.eE; omega)
      have : wayB ap [.sh (nD E), .sh sd, .sh (.fn i1 c1), .sh (.fn i2 c2), .dic (kD enc rows), sl, .own ((rows.drop b).map (rowD enc)), .sh (enc x.1), .sh (rD x.2), s9, s10] =
          .ok (.nx [.sh (nD E), .sh sd, .sh (.fn i1 c1), .sh (.fn i2 c2), .dic (kD enc (expand E step x rows)), sl, .own (((expand E step x rows).drop b).map (rowD enc)), .sh (enc x.1), .sh (rD x.2), s9', s10']) := by
        simp only [wayB]
        simp [h2, hrg]
        simp at hex
        simp [hex]
      rw [this, T.bind_ok]
      have hlen : rows.length ≤ (expand E step x rows).length := expand_len x rows
      have ih := way_level W sd sl (b := b) k (expand E step x rows) (t + 1) r (.sh (enc x.1)) (.sh (rD x.2)) s9' s10' (by omega) (by omega) (g.expandN W.fin hm E fun e he => W.cl _ _ hS he) hr
      have edd : ((expand E step x rows).drop (t + 1)).take k = (rows.drop (t + 1)).take k := by
        obtain ⟨l, el⟩ := expandN_pre (step := step) x rows E
        have hkl : k ≤ (rows.drop (t + 1)).length := by rw [List.length_drop]; omega
        have htl : t + 1 ≤ rows.length := by omega
        unfold expand
        rw [el, List.drop_append_of_le_length htl, List.take_append_of_le_length hkl]
      rw [edd] at ih
      exact ih
theorem way_while (W : Way enc E N S step goal ap i1 i2 c1 c2) (sd : D) : ∀ (n : Nat) (rows : List (Row α)) (t : Nat) (r : Option (List Nat)) (s6 s7 s8 s9 s10 : AL.Slot), N + 1 ≤ n + t → t ≤ rows.length → Good N S rows → Res E step goal rows t r →
    (∃ w, r = some w ∧ whileGo wayT (wayW ap) n [.sh (nD E), .sh sd, .sh (.fn i1 c1), .sh (.fn i2 c2), .dic (kD enc rows), .sh (.lst ((rows.drop t).map (rowD enc))), s6, s7, s8, s9, s10] = .ok (.rt (rD w))) ∨
    (r = none ∧ ∃ ρ', whileGo wayT (wayW ap) n [.sh (nD E), .sh sd, .sh (.fn i1 c1), .sh (.fn i2 c2), .dic (kD enc rows), .sh (.lst ((rows.drop t).map (rowD enc))), s6, s7, s8, s9, s10] = .ok (.nx ρ'))
  | 0, rows, t, r, s6, s7, s8, s9, s10, hn, ht, g, hr => by
    have := g.le
    omega
  | n + 1, rows, t, r, s6, s7, s8, s9, s10, hn, ht, g, hr => by
    have hp : D.plains ((rows.drop t).map (rowD enc)) = true := plains_iff.mpr fun d hd => by
      obtain ⟨x, _, rfl⟩ := List.mem_map.mp hd
      exact plain_rowD W.en x
    have htst : wayT [.sh (nD E), .sh sd, .sh (.fn i1 c1), .sh (.fn i2 c2), .dic (kD enc rows), .sh (.lst ((rows.drop t).map (rowD enc))), s6, s7, s8, s9, s10] = .ok (!((rows.drop t).map (rowD enc)).isEmpty) := by
      have := opNe_nilL hp
      simp [wayT] at this ⊢
      rw [this]
      rfl
    unfold whileGo
    rw [htst, T.ex_ok]
    by_cases hlt : t < rows.length
    · have hne : (!((rows.drop t).map (rowD enc)).isEmpty) = true := by
        rw [List.drop_eq_getElem_cons hlt]
        rfl
      rw [if_pos hne]
      have hlv := way_level W sd (.sh (.lst ((rows.drop t).map (rowD enc)))) (b := rows.length) (rows.length - t) rows t r s7 s8 s9 s10 (by omega) (Nat.le_refl _) g hr
      have et : (rows.drop t).take (rows.length - t) = rows.drop t := List.take_of_length_le (by rw [List.length_drop]; exact Nat.le_refl _)
      rw [et, List.drop_length] at hlv
      rcases hlv with ⟨w, hw, hf⟩ | ⟨rows', s7', s8', s9', s10', g', hb, hr', hf⟩
      · left
        refine ⟨w, hw, ?_⟩
        have : wayW ap [.sh (nD E), .sh sd, .sh (.fn i1 c1), .sh (.fn i2 c2), .dic (kD enc rows), .sh (.lst ((rows.drop t).map (rowD enc))), s6, s7, s8, s9, s10] = .ok (.rt (rD w)) := by
          simp only [wayW]
          simp at hf
          simp [Sq.xs, hf]
        rw [this]
        rfl
      · have : wayW ap [.sh (nD E), .sh sd, .sh (.fn i1 c1), .sh (.fn i2 c2), .dic (kD enc rows), .sh (.lst ((rows.drop t).map (rowD enc))), s6, s7, s8, s9, s10] =
            .ok (.nx [.sh (nD E), .sh sd, .sh (.fn i1 c1), .sh (.fn i2 c2), .dic (kD enc rows'), .sh (.lst ((rows'.drop rows.length).map (rowD enc))), .sh (.lst ((rows'.drop rows.length).map (rowD enc))), s7', s8', s9', s10']) := by
          simp only [wayW]
          simp at hf
          simp [Sq.xs, hf, dFreeze]
        rw [this, T.bind_ok]
        exact way_while W sd n rows' rows.length r _ s7' s8' s9' s10' (by omega) hb g' hr'
    · have e0 : rows.drop t = [] := List.drop_eq_nil_of_le (by omega)
      rw [e0]
      right
      refine ⟨?_, _, rfl⟩
      have : rows[t]? = none := List.getElem?_eq_none_iff.mpr (by omega)
      cases hr with
      | none _ => rfl
      | goal e _ => rw [this] at e; cases e
      | next e _ _ => rw [this] at e; cases e
theorem q_first_way (W : Way enc E N S step goal ap i1 i2 c1 c2) {n : Nat} (hn : N + 1 ≤ n) {a : α} (ha : S a) (h1 : 1 ≤ N) {r : Option (List Nat)} (hr : Res E step goal [(a, [])] 0 r) : x_first_way n ap [nD E, enc a, .fn i1 c1, .fn i2 c2] = .ok (optR r) := by
  have g : Good N S [(a, [])] := ⟨by simp [Once], fun x hx => by rw [List.mem_singleton.mp hx]; exact ⟨ha, by simp⟩, h1⟩
  have hw := way_while W (enc a) n [(a, [])] 0 r .no .no .no .no .no (by omega) (by simp) g hr
  have hk : dicOk [] (enc a) = true := W.en.key [] a
  simp only [x_first_way, y_first_way]
  rcases hw with ⟨w, rfl, hw⟩ | ⟨rfl, ρ', hw⟩
  · simp [kD, rowD, rD] at hw
    simp [env0, hk, gWhile, hw, optR, rD]
  · simp [kD, rowD, rD] at hw
    simp [env0, hk, gWhile, hw, optR]
end
end
end AL
namespace AL
/-! ## how long a log must be to part states (no program in sight) -/
section
variable {σ : Type} [DecidableEq σ] (E : Nat) (step : σ → Nat → σ) (out : σ → Nat)
/-- alike for all logs of at most k events -/
def alikeK : Nat → σ → σ → Prop
  | 0, x, y => out x = out y
  | k + 1, x, y => out x = out y ∧ ∀ e, e < E → alikeK k (step x e) (step y e)
variable {E step out}
theorem alikeK.refl : ∀ (k : Nat) (x : σ), alikeK E step out k x x
  | 0, _ => rfl
  | k + 1, x => ⟨rfl, fun e _ => alikeK.refl k _⟩
theorem alikeK.symm : ∀ {k : Nat} {x y : σ}, alikeK E step out k x y → alikeK E step out k y x
  | 0, _, _, h => Eq.symm h
  | _ + 1, _, _, h => ⟨h.1.symm, fun e he => alikeK.symm (h.2 e he)⟩
theorem alikeK.trans : ∀ {k : Nat} {x y z : σ}, alikeK E step out k x y → alikeK E step out k y z → alikeK E step out k x z
  | 0, _, _, _, h, g => Eq.trans h g
  | _ + 1, _, _, _, h, g => ⟨h.1.trans g.1, fun e he => alikeK.trans (h.2 e he) (g.2 e he)⟩
theorem alikeK.down : ∀ {k : Nat} {x y : σ}, alikeK E step out (k + 1) x y → alikeK E step out k x y
  | 0, _, _, h => h.1
  | k + 1, _, _, h => ⟨h.1, fun e he => alikeK.down (h.2 e he)⟩
theorem alikeK.of_log : ∀ {k : Nat} {x y : σ}, (∀ w : List Nat, w.length ≤ k → (∀ e ∈ w, e < E) → out (goF step x w) = out (goF step y w)) → alikeK E step out k x y
  | 0, _, _, h => h [] (Nat.le_refl _) (fun _ z => nomatch z)
  | k + 1, x, y, h => ⟨h [] (Nat.zero_le _) (fun _ z => nomatch z), fun e he => alikeK.of_log fun w hl hw => h (e :: w) (by simp; omega) (fun a ha => by
      rcases List.mem_cons.mp ha with z | z
      · rw [z]; exact he
      · exact hw a z)⟩
theorem alikeK.log : ∀ {k : Nat} {x y : σ}, alikeK E step out k x y → ∀ w : List Nat, w.length ≤ k → (∀ e ∈ w, e < E) → out (goF step x w) = out (goF step y w)
  | 0, _, _, h, [], _, _ => h
  | k + 1, _, _, h, [], _, _ => h.1
  | k + 1, x, y, h, e :: w, hl, hw => alikeK.log (h.2 e (hw e (by simp))) w (by simpa using hl) fun a ha => hw a (by simp [ha])
/-- many that are unlike each other -/
def Many (E : Nat) (step : σ → Nat → σ) (out : σ → Nat) (sts : List σ) (k n : Nat) : Prop := ∃ l : List σ, l.length = n ∧ (∀ x ∈ l, x ∈ sts) ∧ l.Pairwise fun x y => ¬ alikeK E step out k x y
theorem Many.le {sts : List σ} {k n : Nat} (h : Many E step out sts k n) : n ≤ sts.length := by
  obtain ⟨l, h1, h2, h3⟩ := h
  rw [← h1]
  refine nodup_le l sts ?_ h2
  exact List.Pairwise.imp (fun {x y} h (e : x = y) => h (by rw [e]; exact alikeK.refl k y)) h3
theorem Many.grow {sts : List σ} {k n : Nat} (h : Many E step out sts k n) {x y : σ} (hx : x ∈ sts) (hy : y ∈ sts) (h1 : alikeK E step out k x y) (h2 : ¬ alikeK E step out (k + 1) x y) : Many E step out sts (k + 1) (n + 1) := by
  obtain ⟨l, g1, g2, g3⟩ := h
  have up : ∀ {l : List σ}, l.Pairwise (fun x y => ¬ alikeK E step out k x y) → l.Pairwise fun x y => ¬ alikeK E step out (k + 1) x y := fun h => List.Pairwise.imp (fun {a b} z q => z q.down) h
  by_cases hr : ∃ r ∈ l, alikeK E step out k r x
  · obtain ⟨r, hr, hrx⟩ := hr
    obtain ⟨z, hz, hzs, hzr⟩ : ∃ z, alikeK E step out k r z ∧ z ∈ sts ∧ ¬ alikeK E step out (k + 1) r z := by
      by_cases q : alikeK E step out (k + 1) r x
      · exact ⟨y, hrx.trans h1, hy, fun z => h2 (q.symm.trans z)⟩
      · exact ⟨x, hrx, hx, q⟩
    refine ⟨l ++ [z], by simp [g1], fun a ha => (List.mem_append.mp ha).elim (g2 a) fun e => by rw [List.mem_singleton.mp e]; exact hzs, ?_⟩
    rw [List.pairwise_append]
    refine ⟨up g3, List.pairwise_singleton _ _, fun a ha b hb q => ?_⟩
    rw [List.mem_singleton.mp hb] at q
    have e : a = r := by
      have := q.down.trans hz.symm
      have ar : ∀ {l : List σ}, l.Pairwise (fun x y => ¬ alikeK E step out k x y) → a ∈ l → r ∈ l → alikeK E step out k a r → a = r := fun {l} => by
        intro hp ha hr hq
        induction l with
        | nil => cases ha
        | cons c l ih =>
          rw [List.pairwise_cons] at hp
          rcases List.mem_cons.mp ha with ea | ea
          · rcases List.mem_cons.mp hr with er | er
            · rw [ea, er]
            · exact absurd (ea ▸ hq) (hp.1 r er)
          · rcases List.mem_cons.mp hr with er | er
            · exact absurd (er ▸ hq).symm (hp.1 a ea)
            · exact ih hp.2 ea er
      exact ar g3 ha hr this
    rw [e] at q
    exact hzr q
  · refine ⟨l ++ [x], by simp [g1], fun a ha => (List.mem_append.mp ha).elim (g2 a) fun e => by rw [List.mem_singleton.mp e]; exact hx, up ?_⟩
    rw [List.pairwise_append]
    exact ⟨g3, List.pairwise_singleton _ _, fun a ha b hb q => hr ⟨a, ha, by rw [List.mem_singleton.mp hb] at q; exact q⟩⟩
theorem alike_stays {sts : List σ} (hc : ∀ x ∈ sts, ∀ e, e < E → step x e ∈ sts) {k : Nat} (hs : ∀ x ∈ sts, ∀ y ∈ sts, alikeK E step out k x y → alikeK E step out (k + 1) x y) : ∀ (j : Nat) {x y : σ}, x ∈ sts → y ∈ sts → alikeK E step out k x y → alikeK E step out (k + j) x y
  | 0, _, _, _, _, h => h
  | j + 1, x, y, hx, hy, h => by
    have h1 := hs x hx y hy h
    exact ⟨h1.1, fun e he => alike_stays hc hs j (hc x hx e he) (hc y hy e he) (h1.2 e he)⟩
/-- unlike states are parted by a log of fewer events than there are states -/
theorem part_short {sts : List σ} (hc : ∀ x ∈ sts, ∀ e, e < E → step x e ∈ sts) {x y : σ} (hx : x ∈ sts) (hy : y ∈ sts) {w : List Nat} (hw : ∀ e ∈ w, e < E) (hp : out (goF step x w) ≠ out (goF step y w)) :
    ∃ v : List Nat, v.length < sts.length ∧ (∀ e ∈ v, e < E) ∧ out (goF step x v) ≠ out (goF step y v) := by
  classical
  have key : ∃ k, k < sts.length ∧ ∀ x ∈ sts, ∀ y ∈ sts, alikeK E step out k x y → alikeK E step out (k + 1) x y := by
    refine Classical.byContradiction fun hn => ?_
    have un : ∀ k, k < sts.length → ∃ x ∈ sts, ∃ y ∈ sts, alikeK E step out k x y ∧ ¬ alikeK E step out (k + 1) x y := fun k hk => by
      refine Classical.byContradiction fun hm => hn ⟨k, hk, fun a ha b hb h => Classical.byContradiction fun q => hm ⟨a, ha, b, hb, h, q⟩⟩
    have grow : ∀ k, k ≤ sts.length → Many E step out sts k (k + 1) := fun k => by
      induction k with
      | zero => exact fun _ => ⟨[x], rfl, fun a ha => by rw [List.mem_singleton.mp ha]; exact hx, List.pairwise_singleton _ _⟩
      | succ k ih =>
        intro hk
        obtain ⟨a, ha, b, hb, h1, h2⟩ := un k (by omega)
        exact (ih (by omega)).grow ha hb h1 h2
    have := (grow sts.length (Nat.le_refl _)).le
    omega
  obtain ⟨k, hk, hs⟩ := key
  refine Classical.byContradiction fun hn => ?_
  have ha : alikeK E step out k x y := alikeK.of_log fun v hl hv => Classical.byContradiction fun q => hn ⟨v, by omega, hv, q⟩
  have := (alike_stays hc hs w.length hx hy ha).log w (by omega) hw
  exact hp this
end
end AL
namespace AL
open PySem
noncomputable section
/-! ## logs that part two summaries -/
@[simp] theorem noFn_nD (n : Nat) : (nD n).noFn = true := rfl
theorem noFns_nD : ∀ l : List Nat, D.noFns (l.map nD) = true
  | [] => rfl
  | n :: l => by simp only [List.map_cons, D.noFns, noFn_nD, noFns_nD l, Bool.and_self]
@[simp] theorem noFn_rD (l : List Nat) : (rD l).noFn = true := by simp only [rD, D.noFn, noFns_nD]
theorem noFns_rD : ∀ l : List (List Nat), D.noFns (l.map rD) = true
  | [] => rfl
  | n :: l => by simp only [List.map_cons, D.noFns, noFn_rD, noFns_rD l, Bool.and_self]
@[simp] theorem noFn_sD3 (E : Nat) (mv : List (List Nat)) (an : List Nat) : (sD3 E mv an).noFn = true := by simp only [sD3, D.noFn, D.noFns, noFn_nD, noFns_rD, noFn_rD, Bool.and_self]
@[simp] theorem noFn_int (i : Int) : (D.int i).noFn = true := rfl
@[simp] theorem noFn_non : D.non.noFn = true := rfl
@[simp] theorem noFn_bl (b : Bool) : (D.bl b).noFn = true := rfl
@[simp] theorem noFn_tup (xs : List D) : (D.tup xs).noFn = D.noFns xs := by simp only [D.noFn]
@[simp] theorem noFns_nil : D.noFns [] = true := rfl
@[simp] theorem noFns_cons (x : D) (r : List D) : D.noFns (x :: r) = (x.noFn && D.noFns r) := by simp only [D.noFns]
@[simp] theorem noFn_optR (r : Option (List Nat)) : (optR r).noFn = true := by
  cases r with
  | none => rfl
  | some w => exact noFn_rD w
@[simp] theorem clean_ok (d : D) : (T.ok d).clean = if d.noFn = true then .ok d else .fail := rfl
@[simp] theorem clean_exc (e : Exc) : (T.exc e).clean = if e.noFn = true then .exc e else .fail := rfl
/-! pairs of states as labels -/
def encP (p : Nat × Nat) : D := .tup [nD p.1, nD p.2]
theorem enc_pairs : Enc encP where
  key := fun l a => by
    have h1 : (encP a).nk = some (.tup [.num (a.1 : Nat), .num (a.2 : Nat)]) := rfl
    have h2 : ((l.map fun b => (encP b, D.bl true)).all fun p => p.1.isTup) = true := List.all_eq_true.mpr fun x hx => by
      obtain ⟨b, _, rfl⟩ := List.mem_map.mp hx
      rfl
    have e : dicOk (l.map fun b => (encP b, D.bl true)) (encP a) = ((match (encP a).nk with | some q => decide (q.depth ≤ 8) | none => false) && (l.map fun b => (encP b, D.bl true)).all fun p => p.1.isTup) := rfl
    rw [e, h1, h2]
    simp [NestedKey.depth, NestedKey.depthAll]
  eq := fun a b => by
    unfold D.keq
    have h1 : ∀ a : Nat × Nat, (encP a).nk = some (.tup [.num (a.1 : Nat), .num (a.2 : Nat)]) := fun _ => rfl
    rw [h1, h1]
    have : (some (NestedKey.tup [.num (a.1 : Nat), .num (a.2 : Nat)]) = some (NestedKey.tup [.num (b.1 : Nat), .num (b.2 : Nat)])) ↔ a = b := by
      constructor
      · intro h
        simp only [Option.some.injEq, NestedKey.tup.injEq, List.cons.injEq, NestedKey.num.injEq, and_true] at h
        exact Prod.ext (by omega) (by omega)
      · intro h
        rw [h]
    rw [decide_eq_decide.mpr this]
  plain := fun a => by simp [encP, D.plain, D.plains]
  noFn := fun a => by simp [encP]
def stepP (mv mv2 : List (List Nat)) (p : Nat × Nat) (e : Nat) : Nat × Nat := (stepM mv p.1 e, stepM mv2 p.2 e)
def goalP (an an2 : List Nat) (p : Nat × Nat) : Bool := !decide (ansM an p.1 = ansM an2 p.2)
def partStep : DEnv → T D :=
  (dTup (dCons (dIx (dSq (dIx (dSq (dIx (dSqV 2) (dC (.int 1)))) (dIx (dSqV 0) (dC (.int 0))))) (dV 1)) (dCons (dIx (dSq (dIx (dSq (dIx (dSqV 3) (dC (.int 1)))) (dIx (dSqV 0) (dC (.int 1))))) (dV 1)) dNil)))
def partGoal : DEnv → T D :=
  (dB opNe (dIx (dSq (dIx (dSqV 1) (dC (.int 2)))) (dIx (dSqV 0) (dC (.int 0)))) (dIx (dSq (dIx (dSqV 2) (dC (.int 2)))) (dIx (dSqV 0) (dC (.int 1)))))
def apPart (i j : Nat) : Nat → List D → List D → T D := apIf i (semE 4 2 2 partStep) (apIf j (semE 3 1 2 partGoal) apNone)
section
variable {E : Nat} {mv mv2 : List (List Nat)} {an an2 : List Nat}
theorem q_partStep (v : Val E mv an) (v2 : Val E mv2 an2) {p : Nat × Nat} (h1 : p.1 < mv.length) (h2 : p.2 < mv2.length) {e : Nat} (he : e < E) : semE 4 2 2 partStep [sD3 E mv an, sD3 E mv2 an2] [encP p, nD e] = .ok (encP (stepP mv mv2 p e)) := by
  obtain ⟨r, e1, e2⟩ := q_step v h1 he
  obtain ⟨r2, e3, e4⟩ := q_step v2 h2 he
  have hc : D.noFns [sD3 E mv an, sD3 E mv2 an2] = true ∧ D.noFns [encP p, nD e] = true ∧ [encP p, nD e].length = 2 ∧ [sD3 E mv an, sD3 E mv2 an2].length = 2 := by simp [encP]
  unfold semE
  rw [if_pos hc]
  simp [partStep, env0, encP, sD3, nD, stepP, e1, e2, e3, e4]
theorem q_partGoal (v : Val E mv an) (v2 : Val E mv2 an2) {p : Nat × Nat} (h1 : p.1 < mv.length) (h2 : p.2 < mv2.length) : semE 3 1 2 partGoal [sD3 E mv an, sD3 E mv2 an2] [encP p] = .ok (.bl (goalP an an2 p)) := by
  have e1 := an_get v h1
  have e2 := an_get v2 h2
  have hc : D.noFns [sD3 E mv an, sD3 E mv2 an2] = true ∧ D.noFns [encP p] = true ∧ [encP p].length = 1 ∧ [sD3 E mv an, sD3 E mv2 an2].length = 2 := by simp [encP]
  unfold semE
  rw [if_pos hc]
  simp [partGoal, env0, encP, sD3, rD, nD] at e1 e2 ⊢
  simp [e1, e2, goalP]
  omega
def inP (mv mv2 : List (List Nat)) (p : Nat × Nat) : Prop := p.1 < mv.length ∧ p.2 < mv2.length
theorem wayOf (v : Val E mv an) (v2 : Val E mv2 an2) (hN : mv.length * mv2.length ≤ 100000) {i j : Nat} (hij : j ≠ i) : Way encP E (mv.length * mv2.length) (inP mv mv2) (stepP mv mv2) (goalP an an2) (apPart i j) i j [sD3 E mv an, sD3 E mv2 an2] [sD3 E mv an, sD3 E mv2 an2] where
  en := enc_pairs
  eN := hN
  eE := by have := v.se; omega
  fin := fun rows h1 h2 => pairs_le h1 h2
  cl := fun a e h he => ⟨(v.step h.1 he).choose_spec.2.2, (v2.step h.2 he).choose_spec.2.2⟩
  st := fun a e h he => by
    have : apPart i j i = semE 4 2 2 partStep := if_pos rfl
    rw [this]
    exact q_partStep v v2 h.1 h.2 he
  go := fun a h => by
    have : apPart i j j = semE 3 1 2 partGoal := by
      show (if j = i then _ else apIf j (semE 3 1 2 partGoal) apNone j) = _
      rw [if_neg hij]
      exact if_pos rfl
    rw [this]
    exact q_partGoal v v2 h.1 h.2
def partArgs (i j : Nat) : DEnv → T (List D) := (dCons (dIx (dSqV 0) (dC (.int 0))) (dCons (dTup (dCons (dV 1) (dCons (dV 3) dNil))) (dCons (dC (.pf i [])) (dCons (dC (.pf j [])) dNil))))
theorem q_parting (v : Val E mv an) (v2 : Val E mv2 an2) {i j n : Nat} {js : Nat → List Nat} (h1 : js i = [0, 2]) (h2 : js j = [0, 2]) (hij : j ≠ i) (hN : mv.length * mv2.length + 1 ≤ n) (hn : n ≤ 10000) {s s2 : Nat} (hs : s < mv.length) (hs2 : s2 < mv2.length) {r : Option (List Nat)}
    (hr : Res E (stepP mv mv2) (goalP an an2) [((s, s2), [])] 0 r) : bodyT 4 (gRet (dCallH 4 [false, false, true, true] (x_first_way n (apPart i j)) [i, j] (fun _ => []) js (partArgs i j))) [sD3 E mv an, nD s, sD3 E mv2 an2, nD s2] = .ok (optR r) := by
  have W := wayOf v v2 (by omega) hij
  have hp : 1 ≤ mv.length * mv2.length := Nat.mul_pos v.pos v2.pos
  have hq := q_first_way W hN (a := (s, s2)) ⟨hs, hs2⟩ hp hr
  have ec : ∀ k, k = i ∨ k = j → unpf [.sh (sD3 E mv an), .sh (nD s), .sh (sD3 E mv2 an2), .sh (nD s2)] [i, j] (fun _ => []) js (.pf k []) = some (.fn k [sD3 E mv an, sD3 E mv2 an2]) := fun k hk => by
    have hj : js k = [0, 2] := by rcases hk with e | e <;> rw [e] <;> assumption
    have hm : k ∈ [i, j] := by rcases hk with e | e <;> simp [e]
    show (@ite _ (k ∈ [i, j] ∧ ([] : List (Str × Addr)) = []) (Classical.propDecidable _) ((capts [.sh (sD3 E mv an), .sh (nD s), .sh (sD3 E mv2 an2), .sh (nD s2)] (js k)).map (D.fn k)) none) = _
    rw [if_pos ⟨hm, rfl⟩, hj]
    simp [capts]
  have ea : partArgs i j [.sh (sD3 E mv an), .sh (nD s), .sh (sD3 E mv2 an2), .sh (nD s2)] = .ok [nD E, encP (s, s2), .pf i [], .pf j []] := by simp [partArgs, sD3, encP]
  have eu : unpfs [.sh (sD3 E mv an), .sh (nD s), .sh (sD3 E mv2 an2), .sh (nD s2)] [i, j] (fun _ => []) js [false, false, true, true] [nD E, encP (s, s2), .pf i [], .pf j []] = some [nD E, encP (s, s2), .fn i [sD3 E mv an, sD3 E mv2 an2], .fn j [sD3 E mv an, sD3 E mv2 an2]] := by
    simp [unpfs, ec i (.inl rfl), ec j (.inr rfl)]
  have e0 : env0 4 [sD3 E mv an, nD s, sD3 E mv2 an2, nD s2] = [.sh (sD3 E mv an), .sh (nD s), .sh (sD3 E mv2 an2), .sh (nD s2)] := rfl
  have ed : dCallH 4 [false, false, true, true] (x_first_way n (apPart i j)) [i, j] (fun _ => []) js (partArgs i j) [.sh (sD3 E mv an), .sh (nD s), .sh (sD3 E mv2 an2), .sh (nD s2)] = .ok (optR r) := by
    unfold dCallH
    rw [ea, T.bind_ok, eu]
    show (if _ then (x_first_way n (apPart i j) [nD E, encP (s, s2), .fn i [sD3 E mv an, sD3 E mv2 an2], .fn j [sD3 E mv an, sD3 E mv2 an2]]).clean else _) = _
    rw [hq]
    simp
  rw [bodyT_eq, e0, s_gRet, ed]
  simp
/-- there is an answer, and what it is worth -/
theorem goP (w : List Nat) : ∀ p : Nat × Nat, goF (stepP mv mv2) p w = (ledM mv p.1 w, ledM mv2 p.2 w) := by
  induction w with
  | nil => exact fun p => rfl
  | cons e w ih => exact fun p => ih (stepP mv mv2 p e)
theorem part_some (v : Val E mv an) (v2 : Val E mv2 an2) {s s2 : Nat} (hs : s < mv.length) (hs2 : s2 < mv2.length) : ∃ r, Res E (stepP mv mv2) (goalP an an2) [((s, s2), [])] 0 r :=
  res_some (mv.length * mv2.length) (inP mv mv2) (fun rows h1 h2 => pairs_le h1 h2) (fun a e h he => ⟨(v.step h.1 he).choose_spec.2.2, (v2.step h.2 he).choose_spec.2.2⟩) (mv.length * mv2.length + 1) [((s, s2), [])] 0 (by simp [Once]) (fun r hr => by rw [List.mem_singleton.mp hr]; exact ⟨hs, hs2⟩) (by omega)
structure PartOk (E : Nat) (mv mv2 : List (List Nat)) (an an2 : List Nat) (s s2 : Nat) (w : List Nat) : Prop where
  ev : ∀ e ∈ w, e < E
  ne : ansM an (ledM mv s w) ≠ ansM an2 (ledM mv2 s2 w)
theorem part_ok (v : Val E mv an) (v2 : Val E mv2 an2) {s s2 : Nat} {w : List Nat} (h : Res E (stepP mv mv2) (goalP an an2) [((s, s2), [])] 0 (some w)) : PartOk E mv mv2 an an2 s s2 w := by
  obtain ⟨a, ⟨h1, h2⟩, h3⟩ := h.prop (P := fun x => x.1 = goF (stepP mv mv2) (s, s2) x.2 ∧ ∀ e ∈ x.2, e < E) (fun x hx => by rw [List.mem_singleton.mp hx]; exact ⟨rfl, fun _ z => nomatch z⟩)
    (fun x e hx he => ⟨by show stepP mv mv2 x.1 e = goF (stepP mv mv2) (s, s2) (x.2 ++ [e]); rw [hx.1]; unfold goF; rw [List.foldl_append]; rfl, fun b hb => (List.mem_append.mp hb).elim (hx.2 b) fun z => by rw [List.mem_singleton.mp z]; exact he⟩) w rfl
  have h1 : a = goF (stepP mv mv2) (s, s2) w := h1
  rw [h1, goP] at h3
  exact ⟨h2, by simpa [goalP] using h3⟩
/-- the log found is shorter than both have states together -/
theorem part_len (v : Val E mv an) (v2 : Val E mv2 an2) {s s2 : Nat} (hs : s < mv.length) (hs2 : s2 < mv2.length) {w : List Nat} (h : Res E (stepP mv mv2) (goalP an an2) [((s, s2), [])] 0 (some w)) : w.length < mv.length + mv2.length := by
  have ok := part_ok v v2 h
  let st : (Nat ⊕ Nat) → Nat → (Nat ⊕ Nat) := fun x e => match x with
    | .inl a => .inl (stepM mv a e)
    | .inr a => .inr (stepM mv2 a e)
  let out : (Nat ⊕ Nat) → Nat := fun x => match x with
    | .inl a => ansM an a
    | .inr a => ansM an2 a
  have gl : ∀ (w : List Nat) (a : Nat), goF st (.inl a) w = .inl (ledM mv a w) := fun w => by
    induction w with
    | nil => exact fun _ => rfl
    | cons e w ih => exact fun a => ih (stepM mv a e)
  have gr : ∀ (w : List Nat) (a : Nat), goF st (.inr a) w = .inr (ledM mv2 a w) := fun w => by
    induction w with
    | nil => exact fun _ => rfl
    | cons e w ih => exact fun a => ih (stepM mv2 a e)
  let sts : List (Nat ⊕ Nat) := (List.range mv.length).map .inl ++ (List.range mv2.length).map .inr
  have il : ∀ a, a < mv.length → (Sum.inl a : Nat ⊕ Nat) ∈ sts := fun a ha => List.mem_append_left _ (List.mem_map.mpr ⟨a, List.mem_range.mpr ha, rfl⟩)
  have ir : ∀ a, a < mv2.length → (Sum.inr a : Nat ⊕ Nat) ∈ sts := fun a ha => List.mem_append_right _ (List.mem_map.mpr ⟨a, List.mem_range.mpr ha, rfl⟩)
  have hc : ∀ x ∈ sts, ∀ e, e < E → st x e ∈ sts := fun x hx e he => by
    rcases List.mem_append.mp hx with z | z
    · obtain ⟨a, ha, rfl⟩ := List.mem_map.mp z
      exact il _ (v.step (List.mem_range.mp ha) he).choose_spec.2.2
    · obtain ⟨a, ha, rfl⟩ := List.mem_map.mp z
      exact ir _ (v2.step (List.mem_range.mp ha) he).choose_spec.2.2
  obtain ⟨u, h1, h2, h3⟩ := part_short (E := E) (step := st) (out := out) hc (il s hs) (ir s2 hs2) ok.ev (by rw [gl, gr]; exact ok.ne)
  rw [gl, gr] at h3
  obtain ⟨u2, h4, h5⟩ := h.least (Bfs.start (s, s2)) ⟨_, List.mem_singleton.mpr rfl, rfl, rfl⟩ u h2 (by rw [goP]; simpa [goalP] using h3)
  cases h4
  have hl : sts.length = mv.length + mv2.length := by
    show ((List.range mv.length).map Sum.inl ++ (List.range mv2.length).map Sum.inr).length = _
    rw [List.length_append, List.length_map, List.length_map, List.length_range, List.length_range]
  omega
/-- both ways round -/
theorem part_swap {s s2 : Nat} {r : Option (List Nat)} (h : Res E (stepP mv mv2) (goalP an an2) [((s, s2), [])] 0 r) : Res E (stepP mv2 mv) (goalP an2 an) [((s2, s), [])] 0 r :=
  h.map (φ := fun p : Nat × Nat => (p.2, p.1)) (step' := stepP mv2 mv) (goal' := goalP an2 an) (fun a b e => by
    have e1 : a.2 = b.2 := congrArg Prod.fst e
    have e2 : a.1 = b.1 := congrArg Prod.snd e
    exact Prod.ext e2 e1) (fun a e => rfl) (fun a => by
    unfold goalP
    have : (ansM an2 a.2 = ansM an a.1) ↔ (ansM an a.1 = ansM an2 a.2) := eq_comm
    rw [decide_eq_decide.mpr this])
end
end
end AL
namespace AL
open PySem L2
noncomputable section
/-! ## more of what laws draw -/
theorem opMod_i (i j : Int) (h : 0 < j) : opMod (.int i) (.int j) = .ok (.int (i % j)) := if_pos h
theorem opMul_i {i j : Int} (h : i.natAbs < 2 ^ 30) : opMul (.int i) (.int j) = .ok (.int (i * j)) := by
  have hc : CMul i j := by
    unfold CMul
    first | omega | (left; omega) | (right; omega) | (constructor <;> omega)
  exact if_pos hc
theorem opMul_n {a b : Nat} (h : a < 1000000000) : opMul (nD a) (nD b) = .ok (nD (a * b)) := by
  have := opMul_i (i := (a : Nat)) (j := (b : Nat)) (by omega)
  rw [show nD a = .int (a : Nat) from rfl, show nD b = .int (b : Nat) from rfl, this]
  simp [nD]
theorem opAdd_n (a b : Nat) : opAdd (nD a) (nD b) = .ok (nD (a + b)) := by
  simp [nD]
/-- tuple([e for .. in s]), s read at once -/
theorem run_tup_items {ρ : DEnv} {c : Nat} {fi : DEnv → T (List D)} {fb : D → DEnv → T DEnv} {fe : DEnv → T D} {vs : List Nat} {xs : List D} {P : D → Prop} (hf : fi ρ = .ok xs) (hn : xs.length ≤ 100000) (h : ∀ x ∈ xs, ∃ ρ1, fb x (dWipe ρ vs) = .ok ρ1 ∧ run (fe ρ1) c P) :
    run (dTupOf (dSqN (dLc fi fb dYes fe vs)) ρ) (c * xs.length) fun d => ∃ ds, d = .tup ds ∧ ds.length = xs.length ∧ ∀ y ∈ ds, P y := by
  rw [s_dTupOf, s_dSqN, s_dLc, hf, T.bind_ok, if_pos (szl (by omega))]
  refine run_bind0 (run_bind0 (run_lc h) fun ys hy => run_ok (Q := fun s => ∃ ys : List D, s = Sq.l ys ∧ ys.length = xs.length ∧ ∀ y ∈ ys, P y) ⟨ys, rfl, hy.1, hy.2⟩) fun s ⟨ys, e, h1, h2⟩ => ?_
  subst e
  rw [if_pos (szl (by show ys.length ≤ _; omega))]
  exact run_ok ⟨ys, rfl, h1, h2⟩
/-- a draw below a number -/
theorem run_below {m : Nat} (h0 : 0 < m) (h1 : m < 1000000) {ρ : DEnv} {i : Nat} {f : DEnv → T D} (h2 : ρ[i]? = some (.sh .well)) (hf : f ρ = .ok (nD m)) : run (dCall 2 fTake (dCons (dV i) (dCons f dNil)) ρ) 1 fun d => ∃ n : Nat, d = nD n ∧ n < m :=
  run_dCall0 (ds := [.well, nD m]) (by simp [h2, hf]) rfl (run_take' h0 h1)
/-- a number and a draw -/
theorem run_plus {k m : Nat} (h0 : 0 < m) (h1 : m < 1000) {ρ : DEnv} {i : Nat} (h2 : ρ[i]? = some (.sh .well)) : run (dB opAdd (dC (.int (k : Nat))) (dCall 2 fTake (dCons (dV i) (dCons (dC (.int (m : Nat))) dNil))) ρ) 1 fun d => ∃ n : Nat, d = nD n ∧ k ≤ n ∧ n < k + m := by
  refine run_mono (run_dB (c1 := 0) (c2 := 1) (run_pure (t := dC (.int (k : Nat)) ρ) rfl) (run_below h0 (by omega) h2 rfl) fun x y hx hy => ?_) (Nat.le_refl _) fun _ z => z
  obtain ⟨r, rfl, hr⟩ := hy
  subst hx
  exact run_ok ⟨k + r, by simp [nD], by omega, by omega⟩
end
end AL
namespace AL
open PySem PySem.Spec PyProof.Rows L2
noncomputable section
variable [Tb]
/-! ## a dict is handed on; keys looked up in it; a place in a list; list(range(n)) -/
/-- an own dict is frozen -/
def dFreezeM (i : Nat) (ρ : DEnv) : DEnv := match ρ[i]? with
  | some (.dic kvs) => ρ.set i (.sh (.dic (kvs.map (·.1)) (kvs.map (·.2))))
  | _ => ρ
theorem zip_both {α β : Type} : ∀ l : List (α × β), (l.map (·.1)).zip (l.map (·.2)) = l
  | [] => rfl
  | (a, b) :: l => by simp only [List.map_cons, List.zip_cons_cons, zip_both l]
theorem zip_fst {α β : Type} : ∀ {a : List α} {b : List β}, a.length = b.length → (a.zip b).map (·.1) = a
  | [], [], _ => rfl
  | _ :: a, _ :: b, h => by rw [List.zip_cons_cons, List.map_cons, zip_fst (by simpa using h)]
  | [], _ :: _, h => by simp at h
  | _ :: _, [], h => by simp at h
theorem zip_snd {α β : Type} : ∀ {a : List α} {b : List β}, a.length = b.length → (a.zip b).map (·.2) = b
  | [], [], _ => rfl
  | _ :: a, _ :: b, h => by rw [List.zip_cons_cons, List.map_cons, zip_snd (by simpa using h)]
  | [], _ :: _, h => by simp at h
  | _ :: _, [], h => by simp at h
section
variable {K : PySem.W.Frag} {w : Addr} {F F' : Addr → Prop} {H H' : Hp} {n m : Nat} {σ : St} {ρ : DEnv}
/-- a frozen dict reads as an own one -/
theorem Rep.own {a : Addr} {dk dv : List D} (r : Rep K w F H (.ref a) (.dic dk dv)) : OwnAt K w F H a (.dic (dk.zip dv)) := by
  cases r with
  | dic f h sh l rk rv => exact ⟨_, _, _, h, sh, by rw [zip_fst l]; exact rk, by rw [zip_snd l]; exact rv⟩
theorem Cur.freezeM (c : Cur K w F H σ ρ n) (i : Nat) : ∃ F', StepS w F H (Own σ ρ) F' H (Own σ (dFreezeM i ρ)) ∧ Cur K w F' H σ (dFreezeM i ρ) n := by
  unfold dFreezeM
  split
  · rename_i kvs hi
    obtain ⟨a, q1, q2, q3, o, ks, vs, q4, q5, q6, q7⟩ := c.env.at_ow hi rfl
    have il : i < ρ.length := (List.getElem?_eq_some_iff.mp hi).1
    have oi : Own σ ρ a := ⟨i, _, hi, rfl, q1⟩
    have on : ∀ b, Own σ (ρ.set i (.sh (.dic (kvs.map (·.1)) (kvs.map (·.2))))) b → Own σ ρ b := fun b ⟨j, zs, h1, hz, h2⟩ => by
      rw [set_get] at h1
      split at h1
      · split at h1
        · cases h1; cases hz
        · cases h1
      · exact ⟨j, zs, h1, hz, h2⟩
    refine ⟨fun b => F b ∨ b = a, ⟨fun _ _ _ _ h _ => h, fun _ => .inl, fun b h => h.elim .inl fun z => .inr (.inr (z ▸ oi)), fun b h => .inl (on b h), fun _ h => h⟩, c.toBase.fz q3 q4 q5.nt, ?_⟩
    refine ⟨by rw [List.length_set, c.env.len], fun j d h => ?_, fun j zs h hz => ?_, fun j k zs zs' b ne h1 o1 h2 o2 h3 => ?_⟩
    · rw [set_get] at h
      split at h
      · rename_i z
        rw [if_pos (z ▸ il)] at h
        cases h
        subst z
        exact ⟨.ref a, q1, .dic (.inr rfl) q4 (by rw [zip_both]; exact q5) (by rw [List.length_map, List.length_map]) (q6.sub fun _ => .inl) (q7.sub fun _ => .inl)⟩
      · obtain ⟨v, h1, h2⟩ := c.env.sh j d h
        exact ⟨v, h1, h2.sub fun _ => .inl⟩
    · rw [set_get] at h
      split at h
      · split at h
        · cases h; cases hz
        · cases h
      · rename_i z
        obtain ⟨b, p1, p2, p3, p4⟩ := c.env.at_ow h hz
        refine ⟨b, by rw [p1]; rfl, fun f => f.elim p2 fun y => c.env.apart i j _ zs a z hi rfl h hz q1 (y ▸ p1), p3, p4.sub fun _ => .inl⟩
    · rw [set_get] at h1 h2
      split at h1
      · split at h1
        · cases h1; cases o1
        · cases h1
      · split at h2
        · split at h2
          · cases h2; cases o2
          · cases h2
        · exact c.env.apart j k zs zs' b ne h1 o1 h2 o2 h3
  · exact ⟨F, .refl, c⟩
end
section
variable {X : Cx} {W : WX}
def gFreezeM (i : Nat) (g : DEnv → T Fl) : DEnv → T Fl := fun ρ => g (dFreezeM i ρ)
@[simp] theorem s_gFreezeM (i : Nat) (g : DEnv → T Fl) (ρ : DEnv) : gFreezeM i g ρ = g (dFreezeM i ρ) := rfl
theorem ds_freezeM (i : Nat) {st : Stmt} {g : DEnv → T Fl} (h : PS X st (sD X.K X.mg W g)) : PS X st (sD X.K X.mg W (gFreezeM i g)) := PS.of h fun _ _ _ q => by
  obtain ⟨w, F, ρ, n, c, q⟩ := q
  obtain ⟨F', s, c'⟩ := c.freezeM i
  exact ⟨w, F', _, n, c', T.wp_mono (fun _ _ h => PostS.back s h) (fun _ _ h => h) q⟩
/-! ### k in x, x a dict that was handed on -/
def dVin (g : Bool) (fk f : DEnv → T D) : DEnv → T D := fun ρ => (fk ρ).bind fun d => (f ρ).bind fun x => match x with
  | .dic dk dv => if dicOk (dk.zip dv) d = true then .ok (.bl ((dget (dk.zip dv) d).isSome == g)) else .fail
  | _ => .fail
@[simp] theorem s_dVin (g : Bool) (fk f : DEnv → T D) (ρ : DEnv) : dVin g fk f ρ = (fk ρ).bind fun d => (f ρ).bind fun x => match x with
  | .dic dk dv => if dicOk (dk.zip dv) d = true then .ok (.bl ((dget (dk.zip dv) d).isSome == g)) else .fail
  | _ => .fail := rfl
theorem pc_vin {op : CmpOp} {g : Bool} {o e : Expr} {f fk : DEnv → T D} (hop : (op = .In ∧ g = true) ∨ (op = .NotIn ∧ g = false)) (hu : X.A.units + 100 < cLine) (ho : PE X o (tD X.K X.mg W f)) (he : PE X e (tD X.K X.mg W fk)) : PC X op e o (tD X.K X.mg W (dVin g fk f)) := by
  refine ⟨fun pins s σ H Q I ⟨w, F, ρ, n, c, q⟩ => ?_⟩
  refine thn (he.run pins s σ H (fun y H2 => ∃ F2 m d, StepE w F H F2 H2 ∧ Cur X.K w F2 H2 σ ρ m ∧ Rep X.K w F2 H2 y d ∧ ((f ρ).bind fun x => match x with
      | .dic dk dv => if dicOk (dk.zip dv) d = true then T.ok (D.bl ((dget (dk.zip dv) d).isSome == g)) else .fail
      | _ => .fail).wp (PostE X.K w F H Q) (PostX X.K X.mg w F H fun c dd H' => W c dd σ H') m) I ?_) fun iv s2 ⟨y, H2, I2, ry, F2, m, d, st, c2, rd, q2⟩ => ?_
  · exact tD.go c (T.wp_bind _ _ |>.mp q) (fun _ _ h => h) fun d m q5 F1 H1 v s1 c1 r => ⟨F1, m, d, s1, c1, r, q5⟩
  · refine thn (ho.run pins s2 σ H2 (fun u H3 => ∃ F3 m3 a dk dv, u = .ref a ∧ StepE w F2 H2 F3 H3 ∧ Base w F3 H3 m3 ∧ Rep X.K w F3 H3 (.ref a) (.dic dk dv) ∧ dicOk (dk.zip dv) d = true ∧ PostE X.K w F H Q (.bl ((dget (dk.zip dv) d).isSome == g)) m3) I2 ?_) fun uv s3 ⟨u, H3, I3, ru, F3, m3, a, dk, dv, eu, st3, b3, rx, ok, p⟩ => ?_
    · refine tD.go c2 (T.wp_bind _ _ |>.mp q2) (fun _ _ h => h.back st) fun x m3 q5 F3 H3 u s3 c3 r => ?_
      cases r with
      | dic f h sh l rk rv =>
        dsimp only at q5
        split at q5
        · rename_i ok
          exact ⟨F3, m3, _, _, _, rfl, s3, c3.toBase, .dic f h sh l rk rv, ok, q5⟩
        · exact q5.elim
      | _ => exact q5.elim
    · subst eu
      obtain rfl : uv = Value.ref a := ru
      exact o_in hop (by omega) I3 rx.own (rd.step st3 c2.toBase) ry ok fun s4 I4 => ⟨.bl _, H3, I4, rfl, p F3 H3 _ (st.trans st3) b3 (.bl _)⟩
theorem de_vin {op : CmpOp} {g : Bool} {o e : Expr} {pos : Pos} {f fk : DEnv → T D} (hop : (op = .In ∧ g = true) ∨ (op = .NotIn ∧ g = false)) (hu : X.A.units + 100 < cLine) (hm : behindInMarks op o = false) (ho : PE X o (tD X.K X.mg W f)) (he : PE X e (tD X.K X.mg W fk)) : PE X (.Compare e [op] [o] pos) (tD X.K X.mg W (dVin g fk f)) :=
  pe_cmp (pc_vin hop hu ho he) hm
theorem dt_vin {op : CmpOp} {g : Bool} {o e : Expr} {pos : Pos} {f fk : DEnv → T D} (hop : (op = .In ∧ g = true) ∨ (op = .NotIn ∧ g = false)) (hu : X.A.units + 100 < cLine) (hm : behindInMarks op o = false) (ho : PE X o (tD X.K X.mg W f)) (he : PE X e (tD X.K X.mg W fk)) : PT X (.Compare e [op] [o] pos) (tDT X.K X.mg W (dT (dVin g fk f))) :=
  PT.of (pt_cmp (pc_vin hop hu ho he) hm) fun σ H Q ⟨w, F, ρ, n, c, q⟩ => ⟨w, F, ρ, n, c, T.wp_mono (fun d m h F1 H1 v s1 b1 r => by
    cases d with
    | bl b => cases r; exact ⟨b, rfl, h F1 H1 s1 b1⟩
    | _ => exact h.elim) (fun _ _ h => h) (T.wp_bind _ _ |>.mp q)⟩
/-! ### the first place of a thing in a list -/
def opIndex (xs : List D) (d : D) : T D := if d.plain = true ∧ d.py.depth ≤ 64 ∧ D.plains xs = true ∧ (PyData.list (D.pys xs)).depth ≤ 64 then (match (D.pys xs).findIdx? (fun z => PyData.eqv z d.py) with | some j => .ok (.int (j : Nat)) | none => .fail) else .fail
def dIndex (f : DEnv → T Sq) (h : DEnv → T D) : DEnv → T D := fun ρ => (f ρ).bind fun s => match s with
  | .l xs => (h ρ).bind fun d => opIndex xs d
  | .t _ => .fail
@[simp] theorem s_dIndex (f : DEnv → T Sq) (h : DEnv → T D) (ρ : DEnv) : dIndex f h ρ = (f ρ).bind fun s => match s with
  | .l xs => (h ρ).bind fun d => opIndex xs d
  | .t _ => .fail := rfl
theorem de_index {o e : Expr} {apos pos : Pos} {f : DEnv → T Sq} {h : DEnv → T D} (ho : PE X o (tS X.K X.mg W f)) (he : PE X e (tD X.K X.mg W h))
    (pe : ∀ to t, PE X o to → PE X e t → PE X (.Call (.Attribute o "index" apos) [e] [] pos) (tBM X.K "list" (rIndexD X.K) to (tCons t tNil))) : PE X (.Call (.Attribute o "index" apos) [e] [] pos) (tD X.K X.mg W (dIndex f h)) := PE.of (pe _ _ ho he) fun σ H Q ⟨w, F, ρ, n, c, q⟩ => by
  refine tS.go c (T.wp_bind _ _ |>.mp q) (fun _ _ h => h) fun s m q1 F1 H1 a vs s1 c1 hs r1 => ?_
  cases s with
  | t xs => exact q1.elim
  | l xs =>
    refine ⟨.inl ⟨rfl, vs, SqL.of hs.2⟩, ?_⟩
    refine tD.go c1 (T.wp_bind _ _ |>.mp q1) (fun _ _ h => h.back s1) fun d m2 q2 F2 H2 v s2 c2 r2 => ?_
    unfold opIndex at q2
    split at q2
    · rename_i hc
      cases hj : (D.pys xs).findIdx? (fun z => PyData.eqv z d.py) with
      | none => rw [hj] at q2; exact q2.elim
      | some j =>
        rw [hj] at q2
        obtain ⟨hl, hz, hno⟩ := List.findIdx?_eq_some_iff_getElem.mp hj
        have sh : SeqAt.shaped (.list (D.pys xs)) = true := by
          unfold SeqAt.shaped
          rw [Bool.and_eq_true]
          refine ⟨?_, decide_eq_true hc.2.2.2⟩
          exact D.canLay (.lst xs) (by simpa only [D.plain] using hc.2.2.1)
        have sd : SeqAt.shaped d.py = true := by
          unfold SeqAt.shaped
          rw [Bool.and_eq_true]
          exact ⟨D.canLay _ hc.1, decide_eq_true hc.2.1⟩
        have h2 := s2.keep a _ hs.1 hs.2
        exact ⟨a, v, d.py, D.pys xs, j, _, rfl, rfl, .lst (SqL.of h2) (Reps.dp (r1.step s2 c1.toBase) hc.2.2.1), r2.dp hc.1, sh, sd, List.getElem?_eq_getElem hl, hz, fun m' z' hm hz' => by
          have hlt : m' < (D.pys xs).length := by omega
          rw [List.getElem?_eq_getElem hlt] at hz'
          cases hz'
          exact eq_false_of_ne_true (hno m' hm), q2 F2 H2 _ (s1.trans s2) c2.toBase (.int _)⟩
    · exact q2.elim
/-! ### list(range(n)) -/
def dListRg (f : DEnv → T D) : DEnv → T (List D) := fun ρ => (f ρ).bind fun d => match d with
  | .int n => if n ≤ 1000000 ∧ -1000000 ≤ n then .ok ((List.range n.toNat).map fun k : Nat => D.int k) else .fail
  | _ => .fail
@[simp] theorem s_dListRg (f : DEnv → T D) (ρ : DEnv) : dListRg f ρ = (f ρ).bind fun d => match d with
  | .int n => if n ≤ 1000000 ∧ -1000000 ≤ n then .ok ((List.range n.toNat).map fun k : Nat => D.int k) else .fail
  | _ => .fail := rfl
theorem reps_rg {K : PySem.W.Frag} {w : Addr} {F : Addr → Prop} {H : Hp} : ∀ l : List Nat, Reps K w F H (l.map fun i => V.int (0 + (i : Nat))) (l.map fun k : Nat => D.int k)
  | [] => .nil
  | i :: l => .cons (by show Rep K w F H (V.int (0 + (i : Nat))) (D.int (i : Nat)); rw [Int.zero_add]; exact .int _) (reps_rg l)
theorem dn_listRg {a : Expr} {f : DEnv → T D} {p p2 pos pos2 : Pos} (hc : X.calm = true) (hg : Gl X "list") (hm : X.mg "list" = none) (hg2 : Gl X "range") (hm2 : X.mg "range" = none) (h : PE X a (tD X.K X.mg W f))
    (na : starEach [a] X.env = (false, eval a X.env) :: starEach [] X.env := by rfl) (nb : starEach [.Call (.Name "range" p2) [a] [] pos2] X.env = (false, eval (.Call (.Name "range" p2) [a] [] pos2) X.env) :: starEach [] X.env := by rfl) :
    PE X (.Call (.Name "list" p) [.Call (.Name "range" p2) [a] [] pos2] [] pos) (tN X.K X.mg W (dListRg f)) := PE.of (pe_listRg hc hg hm (prg_1 hg2 hm2 h na) nb) fun σ H Q ⟨w, F, ρ, n, c, q⟩ => by
  refine tD.go c (T.wp_bind _ _ |>.mp q) (fun _ _ h => h) fun d m q1 F1 H1 v s1 c1 r => ?_
  cases r with
  | int i =>
    dsimp only at q1
    split at q1
    · rename_i hb
      refine ⟨i, rfl, ⟨by omega, by omega, by omega, by omega, by omega⟩, fun p hp => ?_⟩
      have rr := reps_rg (K := X.K) (w := w) (F := F1) (H := H1) (List.range i.toNat)
      have e : rgV 0 i = (List.range i.toNat).map fun i => V.int (0 + (i : Nat)) := by
        unfold rgV
        rw [Int.sub_zero]
      rw [e]
      obtain ⟨s2, b2, nf, r2⟩ := dn_new (mg := X.mg) c1.toBase rr hp
      exact q1 F1 _ p _ (s1.trans s2) b2 (s1.dom p hp) nf upd_same r2
    · exact q1.elim
  | _ => exact q1.elim
end
end
end AL
namespace AL
noncomputable section
/-! ## least summaries by what their states answer (no program in sight) -/
abbrev Beh := List Nat → Nat
instance behDec : DecidableEq Beh := fun a b => Classical.propDecidable (a = b)
def beh (E : Nat) (mv : List (List Nat)) (an : List Nat) (s : Nat) : Beh := fun w => if ∀ e ∈ w, e < E then ansM an (ledM mv s w) else 0
def der (e : Nat) (β : Beh) : Beh := fun w => β (e :: w)
def succs (E : Nat) (β : Beh) : List Beh := (List.range E).map fun e => der e β
section
variable {E : Nat} {mv mv2 : List (List Nat)} {an an2 : List Nat}
theorem der_beh {e : Nat} (he : e < E) (s : Nat) : der e (beh E mv an s) = beh E mv an (stepM mv s e) := by
  funext w
  unfold der beh
  have : (∀ x ∈ e :: w, x < E) ↔ ∀ x ∈ w, x < E := ⟨fun h x hx => h x (by simp [hx]), fun h x hx => by
    rcases List.mem_cons.mp hx with z | z
    · rw [z]; exact he
    · exact h x z⟩
  by_cases h : ∀ x ∈ w, x < E
  · rw [if_pos (this.mpr h), if_pos h]; rfl
  · rw [if_neg (fun z => h (this.mp z)), if_neg h]
theorem beh_nil (s : Nat) : beh E mv an s [] = ansM an s := by
  unfold beh
  rw [if_pos (fun _ z => nomatch z)]
  rfl
theorem beh_at {s : Nat} {w : List Nat} (h : ∀ e ∈ w, e < E) : beh E mv an s w = ansM an (ledM mv s w) := if_pos h
theorem beh_iff {s t : Nat} : beh E mv an s = beh E mv2 an2 t ↔ ∀ w : List Nat, (∀ e ∈ w, e < E) → ansM an (ledM mv s w) = ansM an2 (ledM mv2 t w) := by
  constructor
  · intro h w hw
    rw [← beh_at hw, ← beh_at hw, h]
  · intro h
    funext w
    unfold beh
    by_cases hw : ∀ e ∈ w, e < E
    · rw [if_pos hw, if_pos hw, h w hw]
    · rw [if_neg hw, if_neg hw]
theorem beh_alike {s t : Nat} : beh E mv an s = beh E mv an t ↔ ∀ k, alikeK E (stepM mv) (ansM an) k s t := by
  rw [beh_iff]
  exact ⟨fun h k => alikeK.of_log fun w _ hw => h w hw, fun h w hw => (h w.length).log w (Nat.le_refl _) hw⟩
theorem row_eq (v : Val E mv an) {s : Nat} (hs : s < mv.length) : rowAt mv s = (List.range E).map (stepM mv s) := by
  have hr := rowAt_get hs
  have hl := (v.row _ hr.2).1
  refine List.ext_getElem (by rw [hl]; simp) fun i h1 h2 => ?_
  rw [hl] at h1
  obtain ⟨r, e1, e2, _⟩ := v.step hs h1
  rw [hr.1] at e1
  cases e1
  rw [List.getElem_map, List.getElem_range]
  exact (List.getElem?_eq_some_iff.mp e2).2
theorem row_succs (v : Val E mv an) {s : Nat} (hs : s < mv.length) : (rowAt mv s).map (beh E mv an) = succs E (beh E mv an s) := by
  rw [row_eq v hs]
  unfold succs
  rw [List.map_map]
  refine List.map_congr_left fun e he => ?_
  rw [der_beh (List.mem_range.mp he)]
  rfl
/-! ### the classes, the first ones first -/
inductive Grown (E : Nat) (β0 : Beh) : List Beh → Nat → Prop
  | start : Grown E β0 [β0] 0
  | next {B n β} : Grown E β0 B n → B[n]? = some β → Grown E β0 (allK B (succs E β)) (n + 1)
variable {β0 : Beh}
theorem Grown.det : ∀ {n : Nat} {B B' : List Beh}, Grown E β0 B n → Grown E β0 B' n → B = B' := by
  intro n
  induction n with
  | zero => intro B B' h h'; cases h; cases h'; rfl
  | succ n ih =>
    intro B B' h h'
    cases h with
    | next h e =>
      cases h' with
      | next h' e' =>
        obtain rfl := ih h h'
        rw [e] at e'
        cases e'
        rfl
theorem Grown.down {B : List Beh} {n : Nat} (h : Grown E β0 B n) : ∀ {m : Nat}, m < n → ∃ B' β, Grown E β0 B' m ∧ B'[m]? = some β := by
  induction h with
  | start => intro m hm; omega
  | @next B n β h e ih =>
    intro m hm
    by_cases he : m = n
    · subst he; exact ⟨B, β, h, e⟩
    · exact ih (by omega)
theorem Grown.uniq {B B' : List Beh} (h : Grown E β0 B B.length) (h' : Grown E β0 B' B'.length) : B = B' := by
  have key : ∀ {B B' : List Beh}, Grown E β0 B B.length → Grown E β0 B' B'.length → ¬ B.length < B'.length := fun {B B'} h h' hl => by
    obtain ⟨C, β, c1, c2⟩ := h'.down hl
    obtain rfl := h.det c1
    have := (List.getElem?_eq_some_iff.mp c2).1
    omega
  have e : B.length = B'.length := by
    have h1 := key h h'
    have h2 := key h' h
    omega
  rw [e] at h
  exact h.det h'
def rowsOf (E : Nat) (B : List Beh) : List (List Nat) := B.map fun β => (List.range E).map fun e => plc (der e β) B
def ansOf (B : List Beh) : List Nat := B.map fun β => β []
/-! ### kinds that know the classes -/
def Knows (E : Nat) (mv : List (List Nat)) (an : List Nat) (R : List Nat) : Prop := ∀ s t, s < mv.length → t < mv.length → (nth R s = nth R t ↔ beh E mv an s = beh E mv an t)
variable {R : List Nat}
theorem Knows.mem (k : Knows E mv an R) {ord : List Nat} (ho : ∀ s ∈ ord, s < mv.length) {t : Nat} (ht : t < mv.length) : nth R t ∈ kin R ord ↔ beh E mv an t ∈ ord.map (beh E mv an) := by
  unfold kin
  simp only [List.mem_map]
  constructor
  · rintro ⟨s, hs, e⟩
    exact ⟨s, hs, (k s t (ho s hs) ht).mp e⟩
  · rintro ⟨s, hs, e⟩
    exact ⟨s, hs, (k s t (ho s hs) ht).mpr e⟩
theorem Knows.add (k : Knows E mv an R) {ord : List Nat} (ho : ∀ s ∈ ord, s < mv.length) {t : Nat} (ht : t < mv.length) : (addBy R ord t).map (beh E mv an) = addK (ord.map (beh E mv an)) (beh E mv an t) := by
  unfold addBy addK
  have := k.mem ho ht
  by_cases h : nth R t ∈ kin R ord
  · rw [if_pos h, if_pos (this.mp h)]
  · rw [if_neg h, if_neg (fun z => h (this.mpr z)), List.map_append]
    rfl
theorem Knows.all (k : Knows E mv an R) : ∀ {ts ord : List Nat}, (∀ s ∈ ord, s < mv.length) → (∀ t ∈ ts, t < mv.length) → (allBy R ord ts).map (beh E mv an) = allK (ord.map (beh E mv an)) (ts.map (beh E mv an))
  | [], _, _, _ => rfl
  | t :: ts, ord, ho, ht => by
    have h1 := k.add ho (ht t (by simp))
    have ho2 : ∀ s ∈ addBy R ord t, s < mv.length := fun s hs => by
      unfold addBy at hs
      split at hs
      · exact ho s hs
      · rcases List.mem_append.mp hs with z | z
        · exact ho s z
        · rw [List.mem_singleton.mp z]; exact ht t (by simp)
    have h2 := Knows.all k (ts := ts) ho2 fun x hx => ht x (by simp [hx])
    rw [h1] at h2
    exact h2
theorem plc_map {α β : Type} [DecidableEq α] [DecidableEq β] {f : α → β} {x : α} : ∀ {l : List α}, (∀ y ∈ l, y = x ↔ f y = f x) → plc x l = plc (f x) (l.map f)
  | [], _ => rfl
  | y :: l, h => by
    rw [List.map_cons, plc_cons, plc_cons]
    by_cases e : y = x
    · rw [if_pos e, if_pos ((h y (by simp)).mp e)]
    · rw [if_neg e, if_neg (fun z => e ((h y (by simp)).mpr z)), plc_map fun z hz => h z (by simp [hz])]
theorem plc_map2 {α β γ : Type} [DecidableEq γ] [DecidableEq β] {f : α → β} {g : α → γ} {x : α} : ∀ {l : List α}, (∀ y ∈ l, g y = g x ↔ f y = f x) → plc (g x) (l.map g) = plc (f x) (l.map f)
  | [], _ => rfl
  | y :: l, h => by
    rw [List.map_cons, List.map_cons, plc_cons, plc_cons]
    by_cases e : g y = g x
    · rw [if_pos e, if_pos ((h y (by simp)).mp e)]
    · rw [if_neg e, if_neg (fun z => e ((h y (by simp)).mpr z)), plc_map2 fun z hz => h z (by simp [hz])]
theorem Knows.plc (k : Knows E mv an R) {ord : List Nat} (ho : ∀ s ∈ ord, s < mv.length) {t : Nat} (ht : t < mv.length) : plc (nth R t) (kin R ord) = AL.plc (beh E mv an t) (ord.map (beh E mv an)) :=
  plc_map2 (g := nth R) (f := beh E mv an) (x := t) fun s hs => k s t (ho s hs) ht
theorem Knows.row (k : Knows E mv an R) (v : Val E mv an) {ord : List Nat} (ho : ∀ s ∈ ord, s < mv.length) {s : Nat} (hs : s < mv.length) : rowOf R ord (rowAt mv s) = (List.range E).map fun e => AL.plc (der e (beh E mv an s)) (ord.map (beh E mv an)) := by
  unfold rowOf
  rw [row_eq v hs, List.map_map]
  refine List.map_congr_left fun e he => ?_
  have h := v.step hs (List.mem_range.mp he)
  rw [der_beh (List.mem_range.mp he), ← k.plc ho h.choose_spec.2.2]
  rfl
theorem spr_grown (k : Knows E mv an R) (v : Val E mv an) : ∀ (n : Nat) (ord : List Nat) (rows : List (List Nat)), Spr R mv ord rows → Grown E (beh E mv an 0) (ord.map (beh E mv an)) rows.length →
    Grown E (beh E mv an 0) ((spr R mv n ord rows).1.map (beh E mv an)) (spr R mv n ord rows).2.length
  | 0, _, _, _, g => g
  | n + 1, ord, rows, h, g => by
    unfold spr
    by_cases hl : rows.length < ord.length
    · rw [if_pos hl]
      have hs := nth_get hl
      have hS := h.ok.lt _ (List.mem_of_getElem? hs)
      refine spr_grown k v n _ _ (h.next v.mvs hl) ?_
      rw [k.all h.ok.lt fun t ht => v.mvs.row _ (rowAt_get hS).2 t ht, row_succs v hS, List.length_append, List.length_singleton]
      exact g.next (by rw [List.getElem?_map, hs]; rfl)
    · rw [if_neg hl]
      exact g
/-! ### the kinds that are found -/
structure Stage (E : Nat) (mv : List (List Nat)) (an : List Nat) (k : Nat) (kinds : List Nat) (many : Nat) : Prop where
  nb : Nbd mv kinds many
  eq : ∀ s t, s < mv.length → t < mv.length → (nth kinds s = nth kinds t ↔ alikeK E (stepM mv) (ansM an) k s t)
theorem an_at (v : Val E mv an) {s : Nat} (hs : s < mv.length) : an[s]? = some (ansM an s) := by
  have : s < an.length := by rw [v.an]; exact hs
  unfold ansM
  rw [List.getD_eq_getElem?_getD, List.getElem?_eq_getElem this]
  rfl
theorem stage_start (v : Val E mv an) : Stage E mv an 0 (numb an) (cnt an) := ⟨nbd_numb v.an, fun s t hs ht => numb_eq (an_at v hs) (an_at v ht)⟩
theorem key_iff (v : Val E mv an) {kinds : List Nat} (hl : kinds.length = mv.length) {s t : Nat} (hs : s < mv.length) (ht : t < mv.length) : nth (numb (keysOf kinds mv)) s = nth (numb (keysOf kinds mv)) t ↔ nth kinds s = nth kinds t ∧ ∀ e, e < E → nth kinds (stepM mv s e) = nth kinds (stepM mv t e) := by
  rw [numb_eq (keysOf_get hl (rowAt_get hs).1) (keysOf_get hl (rowAt_get ht).1), Prod.mk.injEq, row_eq v hs, row_eq v ht, List.map_map, List.map_map]
  refine and_congr_right fun _ => ?_
  rw [List.map_inj_left]
  exact ⟨fun h e he => h e (List.mem_range.mpr he), fun h e he => h e (List.mem_range.mp he)⟩
theorem Stage.next (v : Val E mv an) {k : Nat} {kinds : List Nat} {many : Nat} (h : Stage E mv an k kinds many) : Stage E mv an (k + 1) (numb (keysOf kinds mv)) (cnt (keysOf kinds mv)) := by
  refine ⟨h.nb.next, fun s t hs ht => ?_⟩
  rw [key_iff v h.nb.len hs ht, h.eq s t hs ht]
  constructor
  · rintro ⟨h1, h2⟩
    refine ⟨?_, fun e he => (h.eq _ _ (v.step hs he).choose_spec.2.2 (v.step ht he).choose_spec.2.2).mp (h2 e he)⟩
    exact h1.log [] (Nat.zero_le _) fun _ z => nomatch z
  · intro h1
    exact ⟨h1.down, fun e he => (h.eq _ _ (v.step hs he).choose_spec.2.2 (v.step ht he).choose_spec.2.2).mpr (h1.2 e he)⟩
theorem fst_inj {l : List (Nat × List Nat)} {many : Nat} (hn : l.Nodup) (hl : l.length = many) (hall : ∀ j, j < many → j ∈ l.map (·.1)) {p q : Nat × List Nat} (hp : p ∈ l) (hq : q ∈ l) (e : p.1 = q.1) : p = q := by
  refine Classical.byContradiction fun hne => ?_
  have h1 : ∀ x ∈ List.range many, x ∈ (l.erase q).map (·.1) := fun x hx => by
    obtain ⟨r, hr, rfl⟩ := List.mem_map.mp (hall x (List.mem_range.mp hx))
    by_cases hrq : r = q
    · subst hrq
      exact List.mem_map.mpr ⟨p, (List.mem_erase_of_ne hne).mpr hp, e⟩
    · exact List.mem_map.mpr ⟨r, (List.mem_erase_of_ne hrq).mpr hr, rfl⟩
  have := sub_len List.nodup_range h1
  rw [List.length_range, List.length_map, List.length_erase_of_mem hq] at this
  have := List.length_pos_of_mem hq
  omega
theorem Stage.stop (v : Val E mv an) {k : Nat} {kinds : List Nat} {many : Nat} (h : Stage E mv an k kinds many) (hc : cnt (keysOf kinds mv) = many) : Knows E mv an (numb (keysOf kinds mv)) := by
  have same : ∀ s t, s < mv.length → t < mv.length → nth kinds s = nth kinds t → nth (numb (keysOf kinds mv)) s = nth (numb (keysOf kinds mv)) t := fun s t hs ht e => by
    have k1 := keysOf_get (kinds := kinds) h.nb.len (rowAt_get hs).1
    have k2 := keysOf_get (kinds := kinds) h.nb.len (rowAt_get ht).1
    rw [numb_eq k1 k2]
    exact fst_inj (allK_nodup List.nodup_nil) hc h.nb.fst (allK_mem.mpr (.inr (List.mem_of_getElem? k1))) (allK_mem.mpr (.inr (List.mem_of_getElem? k2))) e
  have hn := h.next v
  intro s t hs ht
  rw [hn.eq s t hs ht, beh_alike]
  constructor
  · intro ha
    have st := alike_stays (sts := List.range mv.length) (step := stepM mv) (out := ansM an) (E := E) (fun x hx e he => List.mem_range.mpr (v.step (List.mem_range.mp hx) he).choose_spec.2.2) (k := k)
      (fun x hx y hy z => (hn.eq x y (List.mem_range.mp hx) (List.mem_range.mp hy)).mp (same x y (List.mem_range.mp hx) (List.mem_range.mp hy) ((h.eq x y (List.mem_range.mp hx) (List.mem_range.mp hy)).mpr z)))
    intro j
    have h1 := st j (List.mem_range.mpr hs) (List.mem_range.mpr ht) ha.down
    exact alikeK.of_log fun w hl hw => h1.log w (by omega) hw
  · exact fun ha => ha (k + 1)
theorem kloop_knows (v : Val E mv an) : ∀ (n : Nat) (k : Nat) (kinds : List Nat) (many : Nat), Stage E mv an k kinds many → mv.length < n + many → Knows E mv an (kloop mv n kinds many)
  | 0, k, kinds, many, h, hn => by
    have := h.nb.le
    omega
  | n + 1, k, kinds, many, h, hn => by
    unfold kloop
    by_cases e : cnt (keysOf kinds mv) = many
    · rw [if_pos e]
      exact h.stop v e
    · rw [if_neg e]
      have := h.nb.mono
      exact kloop_knows v n (k + 1) _ _ (h.next v) (by omega)
theorem kinds_knows (v : Val E mv an) {n : Nat} (hn : mv.length < n) : Knows E mv an (kindsOf n mv an) := kloop_knows v n 0 _ _ (stage_start v) (by omega)
/-- the least summary, as told by its classes -/
theorem least_grown (v : Val E mv an) (h : mv.length < 100) : ∃ B, Grown E (beh E mv an 0) B B.length ∧ mRows 100 100 mv an = rowsOf E B ∧ (mOrd 100 100 mv an).map (nth an) = ansOf B ∧ ∀ β ∈ B, ∃ s, s < mv.length ∧ β = beh E mv an s := by
  have k := kinds_knows v h
  obtain ⟨h1, h2, h3, q, h4⟩ := merged_eq (dE := nD E) (dm := .tup (mv.map rD)) (dx := .lst (an.map nD)) v.mvs v.pos (.inl rfl) (.inr rfl) v.an h h
  have hi : Spr (kindsOf 100 mv an) mv [0] [] := ⟨⟨by simp [kin], fun s hs => by rw [List.mem_singleton.mp hs]; exact v.pos⟩, by simp, fun i r h => by simp at h⟩
  have g := spr_grown k v 100 [0] [] hi .start
  have g2 : Grown E (beh E mv an 0) ((mOrd 100 100 mv an).map (beh E mv an)) (mRows 100 100 mv an).length := g
  refine ⟨(mOrd 100 100 mv an).map (beh E mv an), by rw [List.length_map, ← h3]; exact g2, ?_, ?_, fun β hβ => ?_⟩
  · refine List.ext_getElem (by unfold rowsOf; rw [List.length_map, List.length_map, h3]) fun i i1 i2 => ?_
    obtain ⟨s, e1, e2, e3⟩ := h2.row i _ (List.getElem?_eq_getElem i1)
    have hs := h2.ok.lt s (List.mem_of_getElem? e1)
    rw [e2, k.row v h2.ok.lt hs]
    have e4 : (rowsOf E ((mOrd 100 100 mv an).map (beh E mv an)))[i]? = some ((List.range E).map fun e => plc (der e (beh E mv an s)) ((mOrd 100 100 mv an).map (beh E mv an))) := by
      unfold rowsOf
      rw [List.getElem?_map, List.getElem?_map, e1]
      rfl
    exact ((List.getElem?_eq_some_iff.mp e4).2).symm
  · unfold ansOf
    rw [List.map_map]
    refine List.map_congr_left fun s hs => ?_
    have h5 := an_at v (h2.ok.lt s hs)
    have h6 := nth_get (l := an) (i := s) (by rw [v.an]; exact h2.ok.lt s hs)
    rw [h5] at h6
    cases h6
    exact (beh_nil s).symm
  · obtain ⟨s, hs, rfl⟩ := List.mem_map.mp hβ
    exact ⟨s, h2.ok.lt s hs, rfl⟩
end
end
end AL
namespace AL
open PySem
noncomputable section
/-! ## dicts with numbers as values; a summary's reached states -/
structure KeyV {α : Type} [DecidableEq α] (enc : α → D) : Prop where
  eq : ∀ a b, (enc a).keq (enc b) = decide (a = b)
  ok : ∀ (l : List α) (f : α → D) (a : α), dicOk (l.map fun b => (enc b, f b)) (enc a) = true
section
variable {α : Type} [DecidableEq α] {enc : α → D}
def eD (enc : α → D) (l : List (α × Nat)) : List (D × D) := l.map fun p => (enc p.1, nD p.2)
theorem eD_len (l : List (α × Nat)) : (eD enc l).length = l.length := List.length_map _
theorem eD_get (w : KeyV enc) (a : α) : ∀ (l : List (α × Nat)), (a ∉ l.map (·.1) ∧ dget (eD enc l) (enc a) = none) ∨ ∃ n, (a, n) ∈ l ∧ dget (eD enc l) (enc a) = some (nD n)
  | [] => .inl ⟨by simp, rfl⟩
  | (b, n) :: l => by
    have e0 : eD enc ((b, n) :: l) = (enc b, nD n) :: eD enc l := rfl
    rw [e0, List.map_cons, dget_cons]
    simp only [w.eq]
    by_cases h : b = a
    · subst h
      exact .inr ⟨n, by simp, by simp⟩
    · have hd : decide (b = a) = false := decide_eq_false h
      rw [hd]
      simp only [Bool.false_eq_true, if_false]
      rcases eD_get w a l with ⟨h1, h2⟩ | ⟨m, h1, h2⟩
      · exact .inl ⟨by simp only [List.map_cons, List.mem_cons, not_or]; exact ⟨fun e => h e.symm, h1⟩, h2⟩
      · exact .inr ⟨m, by simp [h1], h2⟩
theorem eD_has (w : KeyV enc) (a : α) (l : List (α × Nat)) : (dget (eD enc l) (enc a)).isSome = decide (a ∈ l.map (·.1)) := by
  rcases eD_get w a l with ⟨h1, h2⟩ | ⟨n, h1, h2⟩
  · rw [h2, decide_eq_false h1]; rfl
  · rw [h2, decide_eq_true (List.mem_map.mpr ⟨_, h1, rfl⟩)]; rfl
theorem eD_put (w : KeyV enc) (l : List (α × Nat)) (a : α) (n : Nat) : ∃ l', dput (eD enc l) (enc a) (nD n) = eD enc l' ∧ l'.length ≤ l.length + 1 ∧ (∀ p ∈ l', p ∈ l ∨ p = (a, n)) ∧ (∀ b, b ∈ l'.map (·.1) ↔ b ∈ l.map (·.1) ∨ b = a) := by
  unfold dput
  rw [eD_has w]
  by_cases h : a ∈ l.map (·.1)
  · rw [decide_eq_true h, if_pos rfl]
    refine ⟨l.map fun p => if p.1 = a then (p.1, n) else p, ?_, by simp, fun p hp => ?_, fun b => ?_⟩
    · unfold eD
      rw [List.map_map, List.map_map]
      refine List.map_congr_left fun p _ => ?_
      simp only [Function.comp, w.eq]
      by_cases e : p.1 = a
      · simp [e]
      · simp [e]
    · obtain ⟨q, hq, rfl⟩ := List.mem_map.mp hp
      by_cases e : q.1 = a
      · rw [if_pos e, e]; exact .inr rfl
      · rw [if_neg e]; exact .inl hq
    · have : ((l.map fun p => if p.1 = a then (p.1, n) else p).map (·.1)) = l.map (·.1) := by
        rw [List.map_map]
        refine List.map_congr_left fun p _ => ?_
        simp only [Function.comp]
        split <;> rfl
      rw [this]
      exact ⟨.inl, fun z => z.elim id fun e => e ▸ h⟩
  · rw [decide_eq_false h, if_neg (by simp)]
    refine ⟨l ++ [(a, n)], by unfold eD; rw [List.map_append]; rfl, by simp, fun p hp => ?_, fun b => by simp⟩
    rcases List.mem_append.mp hp with z | z
    · exact .inl z
    · exact .inr (List.mem_singleton.mp z)
theorem eD_ok (w : KeyV enc) (l : List (α × Nat)) (a : α) : dicOk (eD enc l) (enc a) = true := by
  have h : ∀ l : List (α × Nat), eD enc l = (l.map fun p => (enc p.1, nD p.2)) := fun _ => rfl
  have key : ∀ (k v : List D) (hl : k.length = v.length) (d : D), dicOk (k.zip v) d = dicOk (k.map fun x => (x, D.non)) d := by
    intro k v hl d
    have ha : ∀ (p : D → Bool) (k v : List D), k.length = v.length → (k.zip v).all (fun q => p q.1) = (k.map fun x => (x, D.non)).all (fun q => p q.1) := by
      intro p k
      induction k with
      | nil => intro v _; cases v <;> rfl
      | cons x k ih =>
        intro v hv
        cases v with
        | nil => simp at hv
        | cons y v => simp only [List.zip_cons_cons, List.map_cons, List.all_cons]; rw [ih v (by simpa using hv)]
    unfold dicOk
    cases d <;> first | rfl | exact ha D.isInt k v hl | exact congrArg (_ && ·) (ha D.isTup k v hl)
  have e1 : eD enc l = (l.map fun p => enc p.1).zip (l.map fun p => nD p.2) := by
    rw [List.zip_map']
    rfl
  rw [e1, key _ _ (by simp)]
  have := w.ok (l.map (·.1)) (fun _ => D.non) a
  rw [List.map_map] at this ⊢
  exact this
end
theorem keyV_nD : KeyV nD where
  eq := nD_keq
  ok := fun l f a => by
    show (l.map fun b => (nD b, f b)).all (fun p => p.1.isInt) = true
    exact List.all_eq_true.mpr fun x hx => by obtain ⟨b, _, rfl⟩ := List.mem_map.mp hx; rfl
theorem keyV_encP : KeyV encP where
  eq := enc_pairs.eq
  ok := fun l f a => by
    have h1 : (encP a).nk = some (.tup [.num (a.1 : Nat), .num (a.2 : Nat)]) := rfl
    have h2 : ((l.map fun b => (encP b, f b)).all fun p => p.1.isTup) = true := List.all_eq_true.mpr fun x hx => by
      obtain ⟨b, _, rfl⟩ := List.mem_map.mp hx
      rfl
    have e : dicOk (l.map fun b => (encP b, f b)) (encP a) = ((match (encP a).nk with | some q => decide (q.depth ≤ 8) | none => false) && (l.map fun b => (encP b, f b)).all fun p => p.1.isTup) := rfl
    rw [e, h1, h2]
    simp [NestedKey.depth, NestedKey.depthAll]
theorem eqv_nD (a b : Nat) : PyData.eqv (nD a).py (nD b).py = decide (a = b) := by
  simp only [nD, D.py, PyData.eqv]
  by_cases h : a = b
  · simp [h]
  · have : ¬ ((a : Int) = b) := by omega
    simp [h, this]
theorem pys_map {α : Type} (f : α → D) : ∀ l : List α, D.pys (l.map f) = l.map fun x => (f x).py
  | [] => rfl
  | x :: l => by simp only [List.map_cons, D.pys, pys_map f l]
theorem in_nats (a : Nat) (l : List Nat) : inD (nD a) (l.map nD) = decide (a ∈ l) := by
  unfold inD
  rw [pys_map]
  induction l with
  | nil => simp
  | cons b l ih =>
    rw [List.map_cons, List.any_cons, ih, eqv_nD]
    by_cases h : b = a
    · simp [h]
    · have : ¬ a = b := fun e => h e.symm
      simp [h, this]
theorem plains_nats (l : List Nat) : D.plains (l.map nD) = true := plains_iff.mpr fun d hd => by
  obtain ⟨x, _, rfl⟩ := List.mem_map.mp hd
  simp only [nD, D.plain]
theorem opIn_nats (g : Bool → Bool) (a : Nat) (l : List Nat) : opIn g (nD a) (.l (l.map nD)) = .ok (.bl (g (decide (a ∈ l)))) := by
  unfold opIn
  rw [if_pos ⟨by simp only [nD, D.plain], by simp only [nD, D.py, PyData.depth]; decide, plains_nats l⟩]
  rw [show (Sq.l (l.map nD)).xs = l.map nD from rfl, in_nats]
/-! ### reached states -/
section
variable {E : Nat} {mv : List (List Nat)} {an : List Nat}
def reX : DEnv → T Fl :=
  (gSeq (gSet 6 (dIx (dSq (dIx (dSq (dIx (dSqV 0) (dC (.int 1)))) (dV 3))) (dV 5)))
  (gIf (dT (dIn not (dV 6) (dSqN (dLc (dItems (dSqV 1)) (bName 7) dYes (dIx (dSqV 7) (dC (.int 0))) [7]))))
  (gAppend 1 (dTup (dCons (dV 6) (dCons (dB opAdd (dV 4) (dTup (dCons (dV 5) dNil))) dNil))))
  gNil))
def reT : DEnv → T Fl :=
  (gIf (dT (dB opLt (dV 2) (dLen (dSqV 1))))
  (gSeq (gAsg (dIx (dSqV 1) (dV 2)) (bTup 2 (bCons (bName 3) (bCons (bName 4) bNil))))
  (gFor (dRange1 (dIx (dSqV 0) (dC (.int 0)))) (bName 5) reX))
  gNil)
def y_reached : DEnv → T Fl :=
  (gSeq (gSetN 1 (dLst (dCons (dTup (dCons (dC (.int 0)) (dCons (dTup dNil) dNil))) dNil)))
  (gSeq (gFor (dRange1 (dLen (dSq (dIx (dSqV 0) (dC (.int 1)))))) (bName 2) reT)
  (gFreeze 1 (gRet (dV 1)))))
def x_reached : List D → T D := bodyT 8 y_reached
def GoodN (mv : List (List Nat)) (rows : List (Row Nat)) : Prop := Good mv.length (fun s => s < mv.length) rows
theorem nats_le {m : Nat} (rows : List (Row Nat)) (h : Once rows) (hS : ∀ r ∈ rows, r.1 < m) : rows.length ≤ m := by
  have := sub_len (xs := rows.map (·.1)) (ys := List.range m) (show (rows.map (·.1)).Nodup from h) fun x hx => by
    obtain ⟨r, hr, rfl⟩ := List.mem_map.mp hx
    exact List.mem_range.mpr (hS r hr)
  rwa [List.length_map, List.length_range] at this
theorem re_x (v : Val E mv an) {rows : List (Row Nat)} (g : GoodN mv rows) {x : Row Nat} (hx : x.1 < mv.length) (hl : x.2.length < rows.length) {e : Nat} (he : e < E) (s2 s6 s7 : AL.Slot) :
    ∃ s6', reX [.sh (sD3 E mv an), .own (rows.map (rowD nD)), s2, .sh (nD x.1), .sh (rD x.2), .sh (nD e), s6, s7] =
      .ok (.nx [.sh (sD3 E mv an), .own ((push rows (stepM mv x.1 e, x.2 ++ [e])).map (rowD nD)), s2, .sh (nD x.1), .sh (rD x.2), .sh (nD e), s6', s7]) := by
  refine ⟨.sh (nD (stepM mv x.1 e)), ?_⟩
  obtain ⟨r, e1, e2⟩ := q_step v hx he
  have hle := g.le
  have hm := v.sm
  have h5 : x.2.length + 1 ≤ sizeLine := szl (by omega)
  have h6 : rows.length < sizeLine := szt (by omega)
  have h6' : rows.length ≤ sizeLine := szl (by omega)
  have hc : ∀ s6 s7, lcGo (bName 7) dYes (dIx (dSqV 7) (dC (.int 0))) [.sh (sD3 E mv an), .own (rows.map (rowD nD)), s2, .sh (nD x.1), .sh (rD x.2), .sh (nD e), s6, s7] (rows.map (rowD nD)) = .ok ((rows.map (·.1)).map nD) := fun s6 s7 => by
    rw [lc_map (g := fun d => match d with | .tup (a :: _) => a | _ => .non)]
    · rw [List.map_map, List.map_map]; rfl
    · intro y hy
      obtain ⟨z, _, rfl⟩ := List.mem_map.mp hy
      exact ⟨_, rfl, by simp [rowD]⟩
  have h1 : gSet 6 (dIx (dSq (dIx (dSq (dIx (dSqV 0) (dC (.int 1)))) (dV 3))) (dV 5)) [.sh (sD3 E mv an), .own (rows.map (rowD nD)), s2, .sh (nD x.1), .sh (rD x.2), .sh (nD e), s6, s7] = .ok (.nx [.sh (sD3 E mv an), .own (rows.map (rowD nD)), s2, .sh (nD x.1), .sh (rD x.2), .sh (nD e), .sh (nD (stepM mv x.1 e)), s7]) := by
    simp [sD3, nD, e1, e2]
  have hin := opIn_nats not (stepM mv x.1 e) (rows.map (·.1))
  have ht : dT (dIn not (dV 6) (dSqN (dLc (dItems (dSqV 1)) (bName 7) dYes (dIx (dSqV 7) (dC (.int 0))) [7]))) [.sh (sD3 E mv an), .own (rows.map (rowD nD)), s2, .sh (nD x.1), .sh (rD x.2), .sh (nD e), .sh (nD (stepM mv x.1 e)), s7] = .ok (!hasL rows (stepM mv x.1 e)) := by
    have eh : hasL rows (stepM mv x.1 e) = decide (stepM mv x.1 e ∈ rows.map (·.1)) := by
      rw [Bool.eq_iff_iff, hasL_iff, decide_eq_true_iff]
    have hc' := hc (.sh (nD (stepM mv x.1 e))) .no
    rw [eh]
    simp only [s_dT, s_dIn, s_dSqN, s_dLc]
    have ei : dItems (dSqV 1) [.sh (sD3 E mv an), .own (rows.map (rowD nD)), s2, .sh (nD x.1), .sh (rD x.2), .sh (nD e), .sh (nD (stepM mv x.1 e)), s7] = .ok (rows.map (rowD nD)) := rfl
    have ev : dV 6 [.sh (sD3 E mv an), .own (rows.map (rowD nD)), s2, .sh (nD x.1), .sh (rD x.2), .sh (nD e), .sh (nD (stepM mv x.1 e)), s7] = .ok (nD (stepM mv x.1 e)) := rfl
    have ew : dWipe [.sh (sD3 E mv an), .own (rows.map (rowD nD)), s2, .sh (nD x.1), .sh (rD x.2), .sh (nD e), .sh (nD (stepM mv x.1 e)), s7] [7] = [.sh (sD3 E mv an), .own (rows.map (rowD nD)), s2, .sh (nD x.1), .sh (rD x.2), .sh (nD e), .sh (nD (stepM mv x.1 e)), .no] := rfl
    rw [ei, ev, T.bind_ok, T.bind_ok, if_pos (by rw [List.length_map]; exact h6'), ew, hc', T.bind_ok, T.bind_ok, hin]
    rfl
  cases hh : hasL rows (stepM mv x.1 e) with
  | true =>
    have hp : push rows (stepM mv x.1 e, x.2 ++ [e]) = rows := if_pos hh
    rw [hp]
    rw [hh] at ht
    simp only [reX, s_gSeq, h1, T.bind_ok, s_gIf, ht, T.ex_ok]
    rfl
  | false =>
    have hp : push rows (stepM mv x.1 e, x.2 ++ [e]) = rows ++ [(stepM mv x.1 e, x.2 ++ [e])] := if_neg (by simp [hh])
    rw [hp]
    rw [hh] at ht
    simp only [reX, s_gSeq, h1, T.bind_ok, s_gIf, ht, T.ex_ok]
    simp [h6, rD, h5, rowD]
theorem re_exp (v : Val E mv an) {rows : List (Row Nat)} (g : GoodN mv rows) {x : Row Nat} (hx : x ∈ rows) (s2 s5 s6 s7 : AL.Slot) :
    ∃ s5' s6', forGo (bName 5) reX ((List.range E).map nD) [.sh (sD3 E mv an), .own (rows.map (rowD nD)), s2, .sh (nD x.1), .sh (rD x.2), s5, s6, s7] =
      .ok (.nx [.sh (sD3 E mv an), .own ((expand E (stepM mv) x rows).map (rowD nD)), s2, .sh (nD x.1), .sh (rD x.2), s5', s6', s7]) := by
  have hS := (g.all x hx).1
  obtain ⟨ρ', h1, s5', s6', h2⟩ := for_steps (fb := bName 5) (g := reX) (fun n ρ => ∃ s5' s6', ρ = [.sh (sD3 E mv an), .own ((expandN (stepM mv) x rows n).map (rowD nD)), s2, .sh (nD x.1), .sh (rD x.2), s5', s6', s7])
    (xs := (List.range E).map nD) (ρ := [.sh (sD3 E mv an), .own (rows.map (rowD nD)), s2, .sh (nD x.1), .sh (rD x.2), s5, s6, s7]) ⟨s5, s6, rfl⟩ fun n y ρ hy hI => by
    obtain ⟨s5', s6', rfl⟩ := hI
    have hn : n < E := by
      have := (List.getElem?_eq_some_iff.mp hy).1
      simpa using this
    have e2 : ((List.range E).map nD)[n]? = some (nD n) := by rw [List.getElem?_map, List.getElem?_range hn]; rfl
    rw [e2] at hy
    cases hy
    have g2 := Good.expandN nats_le g (step := stepM mv) hx n fun e he => (v.step hS (by omega : e < E)).choose_spec.2.2
    obtain ⟨l, el⟩ := expandN_pre (step := stepM mv) x rows n
    obtain ⟨s, hs⟩ := re_x v g2 hS (by rw [el, List.length_append]; have := (g.all x hx).2; omega) hn s2 s6' s7
    exact ⟨_, rfl, _, .inl hs, _, _, rfl⟩
  rw [List.length_map, List.length_range] at h2
  exact ⟨s5', s6', by rw [h1, h2]; rfl⟩
/-- the classes met so far: those of rows, the first t of them gone through -/
def behs (E : Nat) (mv : List (List Nat)) (an : List Nat) (rows : List (Row Nat)) : List Beh := rows.map fun r => beh E mv an r.1
structure Met (E : Nat) (mv : List (List Nat)) (an : List Nat) (t : Nat) (rows : List (Row Nat)) : Prop where
  grown : Grown E (beh E mv an 0) (allK [] (behs E mv an rows)) (allK [] (behs E mv an (rows.take t))).length
  old : ∀ x ∈ rows.take t, ∀ e, e < E → beh E mv an (stepM mv x.1 e) ∈ allK [] (behs E mv an rows)
  st : ∀ x ∈ rows.take t, ∀ e, e < E → ∃ y ∈ rows, y.1 = stepM mv x.1 e
theorem expandN_gets {α : Type} [DecidableEq α] {step : α → Nat → α} {x : Row α} {rows : List (Row α)} : ∀ n e, e < n → ∃ y ∈ expandN step x rows n, y.1 = step x.1 e
  | 0, _, h => absurd h (Nat.not_lt_zero _)
  | n + 1, e, h => by
    obtain ⟨l, el⟩ := push_pre (expandN step x rows n) (step x.1 n, x.2 ++ [n])
    have ex : expandN step x rows (n + 1) = push (expandN step x rows n) (step x.1 n, x.2 ++ [n]) := rfl
    by_cases he : e < n
    · obtain ⟨y, h1, h2⟩ := expandN_gets (step := step) (x := x) (rows := rows) n e he
      exact ⟨y, by rw [ex, el]; exact List.mem_append_left _ h1, h2⟩
    · have e2 : e = n := by omega
      subst e2
      rw [ex]
      unfold push
      split
      · rename_i hh
        obtain ⟨y, h1, h2⟩ := hasL_get hh
        exact ⟨y, h1, h2⟩
      · exact ⟨_, List.mem_append_right _ (List.mem_singleton.mpr rfl), rfl⟩
theorem allK_app {α : Type} [DecidableEq α] (ks a b : List α) : allK ks (a ++ b) = allK (allK ks a) b := by
  unfold allK
  rw [List.foldl_append]
theorem addK_mem_self {α : Type} [DecidableEq α] {ks : List α} {x : α} (h : x ∈ ks) : addK ks x = ks := if_pos h
theorem allK_sub {α : Type} [DecidableEq α] : ∀ {xs ks : List α}, (∀ x ∈ xs, x ∈ ks) → allK ks xs = ks
  | [], _, _ => rfl
  | x :: xs, ks, h => by
    rw [allK_cons, addK_mem_self (h x (by simp))]
    exact allK_sub fun y hy => h y (by simp [hy])
theorem met_expand (v : Val E mv an) {x : Row Nat} (hx : x.1 < mv.length) (rows : List (Row Nat)) : ∀ n, n ≤ E → allK [] (behs E mv an (expandN (stepM mv) x rows n)) = allK (allK [] (behs E mv an rows)) ((List.range n).map fun e => der e (beh E mv an x.1))
  | 0, _ => rfl
  | n + 1, hn => by
    have ih := met_expand v hx rows n (by omega)
    have hb := der_beh (mv := mv) (an := an) (show n < E by omega) x.1
    rw [List.range_succ, List.map_append, allK_app, ← ih]
    show allK [] (behs E mv an (push (expandN (stepM mv) x rows n) (stepM mv x.1 n, x.2 ++ [n]))) = addK (allK [] (behs E mv an (expandN (stepM mv) x rows n))) (der n (beh E mv an x.1))
    rw [hb]
    clear ih
    generalize expandN (stepM mv) x rows n = q
    unfold push
    by_cases h : hasL q (stepM mv x.1 n) = true
    · rw [if_pos h]
      obtain ⟨y, hy, e⟩ := hasL_get h
      refine (addK_mem_self (allK_mem.mpr (.inr ?_))).symm
      exact List.mem_map.mpr ⟨y, hy, by rw [e]⟩
    · rw [if_neg h]
      unfold behs
      rw [List.map_append, allK_app]
      rfl
theorem take_len {α : Type} {l : List α} {t : Nat} {x : α} (h : l[t]? = some x) : l.take (t + 1) = l.take t ++ [x] := by
  rw [List.take_succ, h]
  rfl
theorem Met.next (v : Val E mv an) {t : Nat} {rows : List (Row Nat)} (m : Met E mv an t rows) (g : GoodN mv rows) {x : Row Nat} (h : rows[t]? = some x) : Met E mv an (t + 1) (expand E (stepM mv) x rows) := by
  have hx := (g.all x (List.mem_of_getElem? h)).1
  obtain ⟨l, el⟩ := expandN_pre (step := stepM mv) x rows E
  have ht : t < rows.length := (List.getElem?_eq_some_iff.mp h).1
  have etk : (expand E (stepM mv) x rows).take (t + 1) = rows.take t ++ [x] := by
    unfold expand
    rw [el, List.take_append_of_le_length (by omega), take_len h]
  have eB := met_expand v hx rows E (Nat.le_refl _)
  have eB2 : allK [] (behs E mv an (expand E (stepM mv) x rows)) = allK (allK [] (behs E mv an rows)) (succs E (beh E mv an x.1)) := eB
  have sub : ∀ β, β ∈ allK [] (behs E mv an rows) → β ∈ allK [] (behs E mv an (expand E (stepM mv) x rows)) := fun β hβ => by
    rw [eB2]
    exact allK_mem.mpr (.inl hβ)
  have old' : ∀ y ∈ (expand E (stepM mv) x rows).take (t + 1), ∀ e, e < E → beh E mv an (stepM mv y.1 e) ∈ allK [] (behs E mv an (expand E (stepM mv) x rows)) := by
    rw [etk]
    intro y hy e he
    rcases List.mem_append.mp hy with z | z
    · exact sub _ (m.old y z e he)
    · rw [List.mem_singleton.mp z, eB2]
      refine allK_mem.mpr (.inr ?_)
      rw [← der_beh he]
      exact List.mem_map.mpr ⟨e, List.mem_range.mpr he, rfl⟩
  have st' : ∀ y ∈ (expand E (stepM mv) x rows).take (t + 1), ∀ e, e < E → ∃ z ∈ expand E (stepM mv) x rows, z.1 = stepM mv y.1 e := by
    rw [etk]
    intro y hy e he
    rcases List.mem_append.mp hy with z | z
    · obtain ⟨q, h1, h2⟩ := m.st y z e he
      exact ⟨q, by unfold expand; rw [el]; exact List.mem_append_left _ h1, h2⟩
    · rw [List.mem_singleton.mp z]
      exact expandN_gets E e he
  refine ⟨?_, old', st'⟩
  rw [etk, eB2]
  have e3 : allK [] (behs E mv an (rows.take t ++ [x])) = addK (allK [] (behs E mv an (rows.take t))) (beh E mv an x.1) := by
    unfold behs
    rw [List.map_append, allK_app]
    rfl
  rw [e3]
  by_cases hm : beh E mv an x.1 ∈ allK [] (behs E mv an (rows.take t))
  · rw [addK_mem_self hm, allK_sub ?_]
    · exact m.grown
    · intro β hβ
      obtain ⟨e, he, rfl⟩ := List.mem_map.mp hβ
      obtain ⟨y, hy, ey⟩ := List.mem_map.mp ((allK_mem.mp hm).resolve_left (by simp))
      have := m.old y hy e (List.mem_range.mp he)
      rw [← der_beh (List.mem_range.mp he), ey] at this
      exact this
  · have e4 : addK (allK [] (behs E mv an (rows.take t))) (beh E mv an x.1) = allK [] (behs E mv an (rows.take t)) ++ [beh E mv an x.1] := if_neg hm
    rw [e4, List.length_append, List.length_singleton]
    refine m.grown.next ?_
    have e5 : behs E mv an rows = behs E mv an (rows.take t ++ [x]) ++ behs E mv an (rows.drop (t + 1)) := by
      unfold behs
      rw [← List.map_append, ← take_len h, List.take_append_drop]
    rw [e5, allK_app, e3, e4]
    obtain ⟨r, er⟩ := allK_pre (behs E mv an (rows.drop (t + 1))) (allK [] (behs E mv an (rows.take t)) ++ [beh E mv an x.1])
    rw [er, List.append_assoc, List.getElem?_append_right (Nat.le_refl _), Nat.sub_self]
    rfl
theorem Met.skip {t : Nat} {rows : List (Row Nat)} (m : Met E mv an t rows) (h : rows.length ≤ t) : Met E mv an (t + 1) rows := by
  have e : rows.take (t + 1) = rows.take t := by rw [List.take_of_length_le (by omega), List.take_of_length_le h]
  exact ⟨by rw [e]; exact m.grown, by rw [e]; exact m.old, by rw [e]; exact m.st⟩
theorem met_start (E : Nat) (mv : List (List Nat)) (an : List Nat) : Met E mv an 0 [(0, [])] := ⟨.start, fun x hx => by simp at hx, fun x hx => by simp at hx⟩
theorem q_reached (v : Val E mv an) (hS : mv.length ≤ 100) : ∃ rows, x_reached [sD3 E mv an] = .ok (.lst (rows.map (rowD nD))) ∧ GoodN mv rows ∧ Met E mv an rows.length rows := by
  have hr : rangeT (nD mv.length) = .ok ((List.range mv.length).map nD) := range_nD (by omega)
  have g0 : GoodN mv [(0, [])] := ⟨by simp [Once], fun x hx => by rw [List.mem_singleton.mp hx]; exact ⟨v.pos, by simp⟩, v.pos⟩
  obtain ⟨ρ', h1, rows, s2, s3, s4, s5, s6, s7, rfl, g, m⟩ := for_steps (fb := bName 2) (g := reT)
    (fun t ρ => ∃ rows s2 s3 s4 s5 s6 s7, ρ = [.sh (sD3 E mv an), .own (rows.map (rowD nD)), s2, s3, s4, s5, s6, s7] ∧ GoodN mv rows ∧ Met E mv an t rows)
    (xs := (List.range mv.length).map nD) (ρ := [.sh (sD3 E mv an), .own ([(0, [])].map (rowD nD)), .no, .no, .no, .no, .no, .no]) ⟨[(0, [])], _, _, _, _, _, _, rfl, g0, met_start E mv an⟩ fun t y ρ hy hI => by
    obtain ⟨rows, s2, s3, s4, s5, s6, s7, rfl, g, m⟩ := hI
    have hn : t < mv.length := by
      have := (List.getElem?_eq_some_iff.mp hy).1
      simpa using this
    have e2 : ((List.range mv.length).map nD)[t]? = some (nD t) := by rw [List.getElem?_map, List.getElem?_range hn]; rfl
    rw [e2] at hy
    cases hy
    refine ⟨_, rfl, ?_⟩
    have htt : dT (dB opLt (dV 2) (dLen (dSqV 1))) [.sh (sD3 E mv an), .own (rows.map (rowD nD)), .sh (nD t), s3, s4, s5, s6, s7] = .ok (decide (t < rows.length)) := by
      simp [Sq.xs, nD]
    by_cases ht : t < rows.length
    · have e0 : rows[t]? = some rows[t] := List.getElem?_eq_getElem ht
      generalize rows[t] = x at e0
      have hm := List.mem_of_getElem? e0
      have hix : opIx (.l (rows.map (rowD nD))) (nD t) = .ok (rowD nD x) := opIx_l (by rw [List.getElem?_map, e0]; rfl)
      have hasg : gAsg (dIx (dSqV 1) (dV 2)) (bTup 2 (bCons (bName 3) (bCons (bName 4) bNil))) [.sh (sD3 E mv an), .own (rows.map (rowD nD)), .sh (nD t), s3, s4, s5, s6, s7] = .ok (.nx [.sh (sD3 E mv an), .own (rows.map (rowD nD)), .sh (nD t), .sh (nD x.1), .sh (rD x.2), s5, s6, s7]) := by
        have e1 : dIx (dSqV 1) (dV 2) [.sh (sD3 E mv an), .own (rows.map (rowD nD)), .sh (nD t), s3, s4, s5, s6, s7] = .ok (rowD nD x) := hix
        rw [s_gAsg, e1]
        rfl
      obtain ⟨s5', s6', hex⟩ := re_exp v g hm (.sh (nD t)) s5 s6 s7
      have hrg := range_nD (n := E) (by have := v.se; omega)
      refine ⟨_, .inl (?_ : reT _ = .ok (.nx [.sh (sD3 E mv an), .own ((expand E (stepM mv) x rows).map (rowD nD)), .sh (nD t), .sh (nD x.1), .sh (rD x.2), s5', s6', s7])), _, _, _, _, _, _, _, rfl, Good.expandN nats_le g hm E fun e he => (v.step (g.all x hm).1 he).choose_spec.2.2, m.next v g e0⟩
      have ee : dRange1 (dIx (dSqV 0) (dC (.int 0))) [.sh (sD3 E mv an), .own (rows.map (rowD nD)), .sh (nD t), .sh (nD x.1), .sh (rD x.2), s5, s6, s7] = .ok ((List.range E).map nD) := by
        simp [sD3, hrg]
      show reT [.sh (sD3 E mv an), .own (rows.map (rowD nD)), .sh (nD t), s3, s4, s5, s6, s7] = _
      simp only [reT, s_gIf, htt, T.ex_ok, decide_eq_true ht, if_true, s_gSeq, hasg, T.bind_ok, s_gFor, ee]
      exact hex
    · refine ⟨_, .inl (?_ : reT _ = .ok (.nx [.sh (sD3 E mv an), .own (rows.map (rowD nD)), .sh (nD t), s3, s4, s5, s6, s7])), _, _, _, _, _, _, _, rfl, g, m.skip (by omega)⟩
      show reT [.sh (sD3 E mv an), .own (rows.map (rowD nD)), .sh (nD t), s3, s4, s5, s6, s7] = _
      simp only [reT, s_gIf, htt, T.ex_ok, decide_eq_false ht]
      rfl
  rw [List.length_map, List.length_range] at m
  refine ⟨rows, ?_, g, ?_⟩
  · have e0 : env0 8 [sD3 E mv an] = [.sh (sD3 E mv an), .no, .no, .no, .no, .no, .no, .no] := rfl
    have h0 : gSetN 1 (dLst (dCons (dTup (dCons (dC (.int 0)) (dCons (dTup dNil) dNil))) dNil)) [.sh (sD3 E mv an), .no, .no, .no, .no, .no, .no, .no] = .ok (.nx [.sh (sD3 E mv an), .own ([(0, [])].map (rowD nD)), .no, .no, .no, .no, .no, .no]) := by
      simp [rowD, rD, nD]
    have ee : dRange1 (dLen (dSq (dIx (dSqV 0) (dC (.int 1))))) [.sh (sD3 E mv an), .own ([(0, [])].map (rowD nD)), .no, .no, .no, .no, .no, .no] = .ok ((List.range mv.length).map nD) := by
      simp only [nD] at hr ⊢
      simp [sD3, Sq.xs, hr]
    rw [x_reached, bodyT_eq, e0]
    simp only [y_reached, s_gSeq, h0, T.bind_ok, s_gFor, ee, T.ex_ok, h1]
    rfl
  · have e1 : rows.take mv.length = rows.take rows.length := by rw [List.take_of_length_le g.le, List.take_length]
    exact ⟨by rw [← e1]; exact m.grown, by rw [← e1]; exact m.old, by rw [← e1]; exact m.st⟩
/-- the classes met in the end -/
theorem Met.closed {rows : List (Row Nat)} (m : Met E mv an rows.length rows) : Grown E (beh E mv an 0) (allK [] (behs E mv an rows)) (allK [] (behs E mv an rows)).length := by
  have := m.grown
  rwa [List.take_length] at this
theorem Met.has (v : Val E mv an) {rows : List (Row Nat)} (m : Met E mv an rows.length rows) {x : Row Nat} (hx : x ∈ rows) {e : Nat} (he : e < E) : beh E mv an (stepM mv x.1 e) ∈ allK [] (behs E mv an rows) := m.old x (by rw [List.take_length]; exact hx) e he
end
end
end AL
namespace AL
open PySem
noncomputable section
/-! ## pairs of states that some log parts, marked by going back -/
/-- a for in a for, over the states -/
theorem for_sq {σ : Type} {S : Nat} {g : DEnv → T Fl} {fi : DEnv → T (List D)} {i1 i2 : Nat} (mk : σ → AL.Slot → AL.Slot → DEnv) (I : Nat → Nat → σ → Prop)
    (rd : ∀ st a b, fi (mk st a b) = .ok ((List.range S).map nD)) (b1 : ∀ d st a b, bName i1 d (mk st a b) = .ok (mk st (.sh d) b)) (b2 : ∀ d st a b, bName i2 d (mk st a b) = .ok (mk st a (.sh d)))
    (body : ∀ i j st, i < S → j < S → I i j st → ∃ st', g (mk st (.sh (nD i)) (.sh (nD j))) = .ok (.nx (mk st' (.sh (nD i)) (.sh (nD j)))) ∧ I i (j + 1) st')
    (up : ∀ i st, i < S → I i S st → I (i + 1) 0 st) {st : σ} {a b : AL.Slot} (h0 : I 0 0 st) :
    ∃ st' a' b', gFor fi (bName i1) (gFor fi (bName i2) g) (mk st a b) = .ok (.nx (mk st' a' b')) ∧ I S 0 st' := by
  have inner : ∀ i st b, i < S → I i 0 st → ∃ st' b', forGo (bName i2) g ((List.range S).map nD) (mk st (.sh (nD i)) b) = .ok (.nx (mk st' (.sh (nD i)) b')) ∧ I i S st' := fun i st b hi h => by
    obtain ⟨ρ', h1, st', b', rfl, h2⟩ := for_steps (fb := bName i2) (g := g) (fun j ρ => ∃ st' b', ρ = mk st' (.sh (nD i)) b' ∧ I i j st') (xs := (List.range S).map nD) (ρ := mk st (.sh (nD i)) b) ⟨st, b, rfl, h⟩ fun j y ρ hy hI => by
      obtain ⟨st', b', rfl, hI⟩ := hI
      have hj : j < S := by have := (List.getElem?_eq_some_iff.mp hy).1; simpa using this
      rw [List.getElem?_map, List.getElem?_range hj] at hy
      cases hy
      obtain ⟨st2, e, h2⟩ := body i j st' hi hj hI
      exact ⟨_, b2 _ _ _ _, _, .inl e, st2, _, rfl, h2⟩
    rw [List.length_map, List.length_range] at h2
    exact ⟨st', b', h1, h2⟩
  obtain ⟨ρ', h1, st', a', b', rfl, h2⟩ := for_steps (fb := bName i1) (g := gFor fi (bName i2) g) (fun i ρ => ∃ st' a' b', ρ = mk st' a' b' ∧ I i 0 st') (xs := (List.range S).map nD) (ρ := mk st a b) ⟨st, a, b, rfl, h0⟩ fun i y ρ hy hI => by
    obtain ⟨st', a', b', rfl, hI⟩ := hI
    have hi : i < S := by have := (List.getElem?_eq_some_iff.mp hy).1; simpa using this
    rw [List.getElem?_map, List.getElem?_range hi] at hy
    cases hy
    obtain ⟨st2, b2', e, h2⟩ := inner i st' b' hi hI
    exact ⟨_, b1 _ _ _ _, mk st2 (.sh (nD i)) b2', .inl (by rw [s_gFor, rd, T.ex_ok]; exact e), st2, _, _, rfl, up i st2 hi h2⟩
  rw [List.length_map, List.length_range] at h2
  exact ⟨st', a', b', by rw [s_gFor, rd, T.ex_ok]; exact h1, h2⟩
/-- the pairs gone through -/
def Done (S i j : Nat) (p : Nat × Nat) : Prop := p.1 < S ∧ p.2 < S ∧ (p.1 < i ∨ p.1 = i ∧ p.2 < j)
theorem done_next {S i j : Nat} (hi : i < S) (hj : j < S) (p : Nat × Nat) : Done S i (j + 1) p ↔ Done S i j p ∨ p = (i, j) := by
  unfold Done
  constructor
  · rintro ⟨h1, h2, h⟩
    by_cases e : p = (i, j)
    · exact .inr e
    · refine .inl ⟨h1, h2, ?_⟩
      rcases h with h | ⟨h3, h4⟩
      · exact .inl h
      · refine .inr ⟨h3, ?_⟩
        have : p.2 ≠ j := fun z => e (Prod.ext h3 z)
        omega
  · rintro (⟨h1, h2, h⟩ | rfl)
    · exact ⟨h1, h2, by omega⟩
    · exact ⟨hi, hj, .inr ⟨rfl, Nat.lt_succ_self _⟩⟩
theorem done_up {S i : Nat} (p : Nat × Nat) : Done S i S p ↔ Done S (i + 1) 0 p := by
  unfold Done
  omega
theorem done_all {S : Nat} (p : Nat × Nat) : Done S S 0 p ↔ p.1 < S ∧ p.2 < S := by
  unfold Done
  omega
theorem done_none {S : Nat} (p : Nat × Nat) : ¬ Done S 0 0 p := by
  unfold Done
  omega
section
variable {E : Nat} {mv : List (List Nat)} {an : List Nat}
def apA : DEnv → T Fl :=
  (gIf (dT (dB opNe (dIx (dSq (dIx (dSqV 0) (dC (.int 2)))) (dV 3)) (dIx (dSq (dIx (dSqV 0) (dC (.int 2)))) (dV 4))))
  (gKput 2 (dTup (dCons (dV 3) (dCons (dV 4) dNil))) (dC (.int 0)))
  gNil)
def apB : DEnv → T Fl :=
  (gSeq (gSetN 7 (dLc (dRange1 (dIx (dSqV 0) (dC (.int 0)))) (bName 8) dYes (dTup (dCons (dIx (dSq (dIx (dSq (dIx (dSqV 0) (dC (.int 1)))) (dV 3))) (dV 8)) (dCons (dIx (dSq (dIx (dSq (dIx (dSqV 0) (dC (.int 1)))) (dV 4))) (dV 8)) dNil))) [8]))
  (gIf (dTAnd (dT (dKin false 2 (dTup (dCons (dV 3) (dCons (dV 4) dNil))))) (dT (dB opNe (dFz (dLc (dItems (dSqV 7)) (bName 9) (dT (dKin true 2 (dV 9))) (dV 9) [9])) (dFz (dLst dNil)))))
  (gAppend 6 (dTup (dCons (dV 3) (dCons (dV 4) dNil))))
  gNil))
def apC : DEnv → T Fl :=
  (gSeq (gSetN 6 (dLst dNil))
  (gSeq (gFor (dItems (dSq (dV 1))) (bName 3)
  (gFor (dItems (dSq (dV 1))) (bName 4)
  apB))
  (gFreeze 6 (gFor (dItems (dSq (dV 6))) (bName 9)
  (gKput 2 (dV 9) (dV 5))))))
def y_apart : DEnv → T Fl :=
  (gSeq (gPar 1 2 (dSh (dFz (dListRg (dLen (dSq (dIx (dSqV 0) (dC (.int 1)))))))) dNewD)
  (gSeq (gFor (dItems (dSq (dV 1))) (bName 3)
  (gFor (dItems (dSq (dV 1))) (bName 4)
  apA))
  (gSeq (gFor (dRange2 (dC (.int 1)) (dB opAdd (dLen (dSq (dIx (dSqV 0) (dC (.int 1))))) (dC (.int 1)))) (bName 5)
  apC)
  (gFreezeM 2 (gRet (dV 2))))))
def x_apart : List D → T D := bodyT 10 y_apart
def keysN {α : Type} (l : List (α × Nat)) : List α := l.map (·.1)
theorem eD_hasP (p : Nat × Nat) (l : List ((Nat × Nat) × Nat)) : (dget (eD encP l) (encP p)).isSome = decide (p ∈ keysN l) := by
  rw [eD_has keyV_encP, decide_eq_decide]
  exact Iff.rfl
theorem ap_first (v : Val E mv an) (hS : mv.length ≤ 100) (s3 s4 s5 s6 s7 s8 s9 : AL.Slot) : ∃ l a b, gFor (dItems (dSq (dV 1))) (bName 3) (gFor (dItems (dSq (dV 1))) (bName 4) apA) [.sh (sD3 E mv an), .sh (.lst ((List.range mv.length).map nD)), .dic [], s3, s4, s5, s6, s7, s8, s9] =
      .ok (.nx [.sh (sD3 E mv an), .sh (.lst ((List.range mv.length).map nD)), .dic (eD encP l), a, b, s5, s6, s7, s8, s9]) ∧ l.length ≤ 10000 ∧ ∀ p : Nat × Nat, p ∈ keysN l ↔ p.1 < mv.length ∧ p.2 < mv.length ∧ ¬ alikeK E (stepM mv) (ansM an) 0 p.1 p.2 := by
  obtain ⟨l, a, b, h1, h2, h3⟩ := for_sq (S := mv.length) (g := apA) (fi := dItems (dSq (dV 1))) (i1 := 3) (i2 := 4)
    (fun (l : List ((Nat × Nat) × Nat)) a b => [.sh (sD3 E mv an), .sh (.lst ((List.range mv.length).map nD)), .dic (eD encP l), a, b, s5, s6, s7, s8, s9])
    (fun i j l => l.length ≤ i * mv.length + j ∧ ∀ p : Nat × Nat, p ∈ keysN l ↔ Done mv.length i j p ∧ ansM an p.1 ≠ ansM an p.2)
    (fun l a b => rfl) (fun d l a b => rfl) (fun d l a b => rfl) (fun i j l hi hj ⟨hl, hk⟩ => by
      have a1 := an_get v hi
      have a2 := an_get v hj
      have hne : opNe (nD (ansM an i)) (nD (ansM an j)) = .ok (.bl (!decide (ansM an i = ansM an j))) := by
        simp [nD]
        omega
      have ht : dT (dB opNe (dIx (dSq (dIx (dSqV 0) (dC (.int 2)))) (dV 3)) (dIx (dSq (dIx (dSqV 0) (dC (.int 2)))) (dV 4))) [.sh (sD3 E mv an), .sh (.lst ((List.range mv.length).map nD)), .dic (eD encP l), .sh (nD i), .sh (nD j), s5, s6, s7, s8, s9] = .ok (!decide (ansM an i = ansM an j)) := by
        simp only [nD] at a1 a2 hne
        simp [sD3, rD, nD, a1, a2, hne]
      have hb : i * mv.length + j ≤ 100 * 100 := by
        have : i * mv.length ≤ 99 * 100 := Nat.mul_le_mul (by omega) hS
        omega
      by_cases e : ansM an i = ansM an j
      · rw [decide_eq_true e] at ht
        refine ⟨l, ?_, by omega, fun p => ?_⟩
        · simp only [apA, s_gIf, ht, T.ex_ok]
          rfl
        · rw [hk p, done_next hi hj p]
          constructor
          · rintro ⟨h, h2⟩; exact ⟨.inl h, h2⟩
          · rintro ⟨h | rfl, h2⟩
            · exact ⟨h, h2⟩
            · exact absurd e h2
      · rw [decide_eq_false e] at ht
        obtain ⟨l', g1, g2, g3, g4⟩ := eD_put keyV_encP l (i, j) 0
        have hok := eD_ok keyV_encP l (i, j)
        have hz : (eD encP l).length < sizeLine := szt (by rw [eD_len]; omega)
        refine ⟨l', ?_, by omega, fun p => ?_⟩
        · simp only [apA, s_gIf, ht, T.ex_ok]
          simp only [encP, nD] at hok g1
          rw [show ((0 : Nat) : Int) = 0 from rfl] at g1
          simp [nD, hok, hz, g1, encP]
        · have e4 := g4 p
          unfold keysN at hk ⊢
          rw [e4, hk p, done_next hi hj p]
          constructor
          · rintro (⟨h, h2⟩ | rfl)
            · exact ⟨.inl h, h2⟩
            · exact ⟨.inr rfl, e⟩
          · rintro ⟨h | rfl, h2⟩
            · exact .inl ⟨h, h2⟩
            · exact .inr rfl)
    (fun i l hi ⟨h1, h2⟩ => ⟨by rw [Nat.succ_mul]; omega, fun p => by rw [h2 p, done_up]⟩) (st := []) (a := s3) (b := s4) ⟨by simp, fun p => ⟨fun h => by simp [keysN] at h, fun h => absurd h.1 (done_none p)⟩⟩
  refine ⟨l, a, b, h1, ?_, fun p => ?_⟩
  · have : mv.length * mv.length ≤ 100 * 100 := Nat.mul_le_mul hS hS
    omega
  · rw [h3 p, done_all]
    exact ⟨fun ⟨⟨h1, h2⟩, h⟩ => ⟨h1, h2, h⟩, fun ⟨h1, h2, h⟩ => ⟨⟨h1, h2⟩, h⟩⟩
theorem plains_encP (l : List (Nat × Nat)) : D.plains (l.map encP) = true := plains_iff.mpr fun d hd => by
  obtain ⟨x, _, rfl⟩ := List.mem_map.mp hd
  exact enc_pairs.plain x
theorem ap_fresh (v : Val E mv an) (hS : mv.length ≤ 100) (l : List ((Nat × Nat) × Nat)) (s3 s4 s5 s7 s8 s9 : AL.Slot) : ∃ (xs : List (Nat × Nat)) (a b t7 t8 t9 : AL.Slot), gFor (dItems (dSq (dV 1))) (bName 3) (gFor (dItems (dSq (dV 1))) (bName 4) apB) [.sh (sD3 E mv an), .sh (.lst ((List.range mv.length).map nD)), .dic (eD encP l), s3, s4, s5, .own [], s7, s8, s9] =
      .ok (.nx [.sh (sD3 E mv an), .sh (.lst ((List.range mv.length).map nD)), .dic (eD encP l), a, b, s5, .own (xs.map encP), t7, t8, t9]) ∧ xs.length ≤ 10000 ∧ ∀ p : Nat × Nat, p ∈ xs ↔ (p.1 < mv.length ∧ p.2 < mv.length) ∧ p ∉ keysN l ∧ ∃ e, e < E ∧ (stepM mv p.1 e, stepM mv p.2 e) ∈ keysN l := by
  have hE := v.se
  obtain ⟨⟨xs, t7, t8, t9⟩, a, b, h1, h2, h3⟩ := for_sq (S := mv.length) (g := apB) (fi := dItems (dSq (dV 1))) (i1 := 3) (i2 := 4)
    (fun (st : List (Nat × Nat) × AL.Slot × AL.Slot × AL.Slot) a b => [.sh (sD3 E mv an), .sh (.lst ((List.range mv.length).map nD)), .dic (eD encP l), a, b, s5, .own (st.1.map encP), st.2.1, st.2.2.1, st.2.2.2])
    (fun i j st => st.1.length ≤ i * mv.length + j ∧ ∀ p : Nat × Nat, p ∈ st.1 ↔ Done mv.length i j p ∧ p ∉ keysN l ∧ ∃ e, e < E ∧ (stepM mv p.1 e, stepM mv p.2 e) ∈ keysN l)
    (fun l a b => rfl) (fun d l a b => rfl) (fun d l a b => rfl) (fun i j ⟨xs, t7, t8, t9⟩ hi hj ⟨hl, hk⟩ => by
      have hrg := range_nD (n := E) (by omega)
      have hb : i * mv.length + j ≤ 100 * 100 := by
        have : i * mv.length ≤ 99 * 100 := Nat.mul_le_mul (by omega) hS
        omega
      have zE : ((List.range E).map nD).length ≤ sizeLine := szl (by rw [List.length_map, List.length_range]; omega)
      have hc : lcGo (bName 8) dYes (dTup (dCons (dIx (dSq (dIx (dSq (dIx (dSqV 0) (dC (.int 1)))) (dV 3))) (dV 8)) (dCons (dIx (dSq (dIx (dSq (dIx (dSqV 0) (dC (.int 1)))) (dV 4))) (dV 8)) dNil))) [.sh (sD3 E mv an), .sh (.lst ((List.range mv.length).map nD)), .dic (eD encP l), .sh (nD i), .sh (nD j), s5, .own (xs.map encP), t7, .no, t9] ((List.range E).map nD) =
          .ok (((List.range E).map fun e => (stepM mv i e, stepM mv j e)).map encP) := by
        rw [lc_map (g := fun d => match d with | .int e => encP (stepM mv i e.toNat, stepM mv j e.toNat) | _ => .non)]
        · rw [List.map_map, List.map_map]; rfl
        · intro y hy
          obtain ⟨e, he, rfl⟩ := List.mem_map.mp hy
          obtain ⟨r, q1, q2⟩ := q_step v hi (List.mem_range.mp he)
          obtain ⟨r2, q3, q4⟩ := q_step v hj (List.mem_range.mp he)
          exact ⟨_, rfl, by simp [sD3, nD, encP, q1, q2, q3, q4]⟩
      have h7 : gSetN 7 (dLc (dRange1 (dIx (dSqV 0) (dC (.int 0)))) (bName 8) dYes (dTup (dCons (dIx (dSq (dIx (dSq (dIx (dSqV 0) (dC (.int 1)))) (dV 3))) (dV 8)) (dCons (dIx (dSq (dIx (dSq (dIx (dSqV 0) (dC (.int 1)))) (dV 4))) (dV 8)) dNil))) [8]) [.sh (sD3 E mv an), .sh (.lst ((List.range mv.length).map nD)), .dic (eD encP l), .sh (nD i), .sh (nD j), s5, .own (xs.map encP), t7, t8, t9] =
          .ok (.nx [.sh (sD3 E mv an), .sh (.lst ((List.range mv.length).map nD)), .dic (eD encP l), .sh (nD i), .sh (nD j), s5, .own (xs.map encP), .own (((List.range E).map fun e => (stepM mv i e, stepM mv j e)).map encP), t8, t9]) := by
        rw [s_gSetN, s_dLc]
        have ee : dRange1 (dIx (dSqV 0) (dC (.int 0))) [.sh (sD3 E mv an), .sh (.lst ((List.range mv.length).map nD)), .dic (eD encP l), .sh (nD i), .sh (nD j), s5, .own (xs.map encP), t7, t8, t9] = .ok ((List.range E).map nD) := by
          simp [sD3, hrg]
        have ew : dWipe [.sh (sD3 E mv an), .sh (.lst ((List.range mv.length).map nD)), .dic (eD encP l), .sh (nD i), .sh (nD j), s5, .own (xs.map encP), t7, t8, t9] [8] = [.sh (sD3 E mv an), .sh (.lst ((List.range mv.length).map nD)), .dic (eD encP l), .sh (nD i), .sh (nD j), s5, .own (xs.map encP), t7, .no, t9] := rfl
        rw [ee, T.bind_ok, if_pos zE, ew, hc]
        rfl
      generalize hL : (List.range E).map (fun e => (stepM mv i e, stepM mv j e)) = L at h7
      have zL : (L.map encP).length ≤ sizeLine := szl (by rw [← hL]; simp; omega)
      have hf : lcGo (bName 9) (dT (dKin true 2 (dV 9))) (dV 9) [.sh (sD3 E mv an), .sh (.lst ((List.range mv.length).map nD)), .dic (eD encP l), .sh (nD i), .sh (nD j), s5, .own (xs.map encP), .own (L.map encP), t8, .no] (L.map encP) = .ok ((L.filter fun p => decide (p ∈ keysN l)).map encP) := by
        rw [lc_eq (p := fun d => (dget (eD encP l) d).isSome) (g := id)]
        · rw [List.map_id, List.filter_map]
          congr 2
          refine List.filter_congr fun p _ => ?_
          exact eD_hasP p l
        · intro y hy
          obtain ⟨p, _, rfl⟩ := List.mem_map.mp hy
          have hok := eD_ok keyV_encP l p
          refine ⟨_, rfl, ?_, fun _ => rfl⟩
          simp [hok]
      have hok := eD_ok keyV_encP l (i, j)
      have hhas := eD_hasP (i, j) l
      have ht1 : dT (dKin false 2 (dTup (dCons (dV 3) (dCons (dV 4) dNil)))) [.sh (sD3 E mv an), .sh (.lst ((List.range mv.length).map nD)), .dic (eD encP l), .sh (nD i), .sh (nD j), s5, .own (xs.map encP), .own (L.map encP), t8, t9] = .ok (!decide ((i, j) ∈ keysN l)) := by
        have e1 : dTup (dCons (dV 3) (dCons (dV 4) dNil)) [.sh (sD3 E mv an), .sh (.lst ((List.range mv.length).map nD)), .dic (eD encP l), .sh (nD i), .sh (nD j), s5, .own (xs.map encP), .own (L.map encP), t8, t9] = .ok (encP (i, j)) := by simp [encP]
        rw [s_dT, s_dKin]
        simp only [List.getElem?_cons_succ, List.getElem?_cons_zero, e1, T.bind_ok, hok, if_true, hhas]
        cases decide ((i, j) ∈ keysN l) <;> rfl
      have ht2 : dT (dB opNe (dFz (dLc (dItems (dSqV 7)) (bName 9) (dT (dKin true 2 (dV 9))) (dV 9) [9])) (dFz (dLst dNil))) [.sh (sD3 E mv an), .sh (.lst ((List.range mv.length).map nD)), .dic (eD encP l), .sh (nD i), .sh (nD j), s5, .own (xs.map encP), .own (L.map encP), t8, t9] = .ok (!(L.filter fun p => decide (p ∈ keysN l)).isEmpty) := by
        have ei : dItems (dSqV 7) [.sh (sD3 E mv an), .sh (.lst ((List.range mv.length).map nD)), .dic (eD encP l), .sh (nD i), .sh (nD j), s5, .own (xs.map encP), .own (L.map encP), t8, t9] = .ok (L.map encP) := rfl
        have ew : dWipe [.sh (sD3 E mv an), .sh (.lst ((List.range mv.length).map nD)), .dic (eD encP l), .sh (nD i), .sh (nD j), s5, .own (xs.map encP), .own (L.map encP), t8, t9] [9] = [.sh (sD3 E mv an), .sh (.lst ((List.range mv.length).map nD)), .dic (eD encP l), .sh (nD i), .sh (nD j), s5, .own (xs.map encP), .own (L.map encP), t8, .no] := rfl
        have hn := opNe_nilL (plains_encP (L.filter fun p => decide (p ∈ keysN l)))
        rw [s_dT, s_dB, s_dFz, s_dLc, ei, T.bind_ok, if_pos zL, ew, hf, T.bind_ok, T.bind_ok]
        have el : dFz (dLst dNil) [.sh (sD3 E mv an), .sh (.lst ((List.range mv.length).map nD)), .dic (eD encP l), .sh (nD i), .sh (nD j), s5, .own (xs.map encP), .own (L.map encP), t8, t9] = .ok (.lst []) := by simp
        rw [el, T.bind_ok, hn]
        rw [List.isEmpty_map]
        rfl
      have hex : (!(L.filter fun p => decide (p ∈ keysN l)).isEmpty) = true ↔ ∃ e, e < E ∧ (stepM mv i e, stepM mv j e) ∈ keysN l := by
        rw [Bool.not_eq_true', List.isEmpty_eq_false_iff_exists_mem]
        constructor
        · rintro ⟨x, hx⟩
          rw [List.mem_filter, decide_eq_true_iff, ← hL] at hx
          obtain ⟨e, he, rfl⟩ := List.mem_map.mp hx.1
          exact ⟨e, List.mem_range.mp he, hx.2⟩
        · rintro ⟨e, he, h⟩
          refine ⟨(stepM mv i e, stepM mv j e), ?_⟩
          rw [List.mem_filter, decide_eq_true_iff, ← hL]
          exact ⟨List.mem_map.mpr ⟨e, List.mem_range.mpr he, rfl⟩, h⟩
      have hz : (xs.map encP).length < sizeLine := szt (by rw [List.length_map]; show xs.length ≤ _; simp only at hl; omega)
      have skip : ¬ ((i, j) ∉ keysN l ∧ ∃ e, e < E ∧ (stepM mv i e, stepM mv j e) ∈ keysN l) → ∀ p : Nat × Nat, p ∈ xs ↔ Done mv.length i (j + 1) p ∧ p ∉ keysN l ∧ ∃ e, e < E ∧ (stepM mv p.1 e, stepM mv p.2 e) ∈ keysN l := fun hno p => by
        have := hk p
        simp only at this
        rw [this, done_next hi hj p]
        constructor
        · rintro ⟨h, h2⟩; exact ⟨.inl h, h2⟩
        · rintro ⟨h | rfl, h2⟩
          · exact ⟨h, h2⟩
          · exact absurd h2 hno
      simp only at hl
      by_cases k1 : (i, j) ∈ keysN l
      · rw [decide_eq_true k1] at ht1
        refine ⟨(xs, .own (L.map encP), t8, t9), ?_, by simp only; omega, skip fun z => z.1 k1⟩
        simp only [apB, s_gSeq, h7, T.bind_ok, s_gIf, s_dTAnd, ht1]
        rfl
      · rw [decide_eq_false k1] at ht1
        by_cases k2 : ∃ e, e < E ∧ (stepM mv i e, stepM mv j e) ∈ keysN l
        · rw [hex.mpr k2] at ht2
          refine ⟨(xs ++ [(i, j)], .own (L.map encP), t8, t9), ?_, by simp; omega, fun p => ?_⟩
          · have e1 : dTup (dCons (dV 3) (dCons (dV 4) dNil)) [.sh (sD3 E mv an), .sh (.lst ((List.range mv.length).map nD)), .dic (eD encP l), .sh (nD i), .sh (nD j), s5, .own (xs.map encP), .own (L.map encP), t8, t9] = .ok (encP (i, j)) := by simp [encP]
            simp only [apB, s_gSeq, h7, T.bind_ok, s_gIf, s_dTAnd, ht1, Bool.not_false, if_true, ht2, T.ex_ok, s_gAppend]
            simp only [List.getElem?_cons_succ, List.getElem?_cons_zero, e1, T.ex_ok, hz, if_true]
            rw [List.map_append]
            rfl
          · have := hk p
            simp only at this
            rw [List.mem_append, List.mem_singleton, this, done_next hi hj p]
            constructor
            · rintro (⟨h, h2⟩ | rfl)
              · exact ⟨.inl h, h2⟩
              · exact ⟨.inr rfl, k1, k2⟩
            · rintro ⟨h | rfl, h2⟩
              · exact .inl ⟨h, h2⟩
              · exact .inr rfl
        · have : (!(L.filter fun p => decide (p ∈ keysN l)).isEmpty) = false := by
            rw [← Bool.not_eq_true]
            exact fun z => k2 (hex.mp z)
          rw [this] at ht2
          refine ⟨(xs, .own (L.map encP), t8, t9), ?_, by simp only; omega, skip fun z => k2 z.2⟩
          simp only [apB, s_gSeq, h7, T.bind_ok, s_gIf, s_dTAnd, ht1, Bool.not_false, if_true, ht2]
          rfl)
    (fun i st hi ⟨h1, h2⟩ => ⟨by rw [Nat.succ_mul]; omega, fun p => by rw [h2 p, done_up]⟩) (st := ([], s7, s8, s9)) (a := s3) (b := s4) ⟨by simp, fun p => ⟨fun h => by simp at h, fun h => absurd h.1 (done_none p)⟩⟩
  refine ⟨xs, a, b, t7, t8, t9, h1, ?_, fun p => ?_⟩
  · have : mv.length * mv.length ≤ 100 * 100 := Nat.mul_le_mul hS hS
    simp only at h2
    omega
  · have := h3 p
    simp only at this
    rw [this, done_all]
end
end
end AL
namespace AL
open PySem
noncomputable section
section
variable {E : Nat} {mv : List (List Nat)} {an : List Nat}
theorem seq_nx {g g' : DEnv → T Fl} {ρ ρ' : DEnv} (h : g ρ = .ok (.nx ρ')) : gSeq g g' ρ = g' ρ' := by
  rw [s_gSeq, h]
  rfl
/-- which pairs are marked behind k rounds -/
def Marked (E : Nat) (mv : List (List Nat)) (an : List Nat) (k : Nat) (l : List ((Nat × Nat) × Nat)) : Prop := ∀ p : Nat × Nat, p ∈ keysN l ↔ p.1 < mv.length ∧ p.2 < mv.length ∧ ¬ alikeK E (stepM mv) (ansM an) k p.1 p.2
theorem ap_puts (l : List ((Nat × Nat) × Nat)) (xs : List (Nat × Nat)) (n : Nat) (hl : l.length + xs.length ≤ 10000000) (s0 s1 s3 s4 s7 s8 s9 : AL.Slot) : ∃ l' t9, gFreeze 6 (gFor (dItems (dSq (dV 6))) (bName 9) (gKput 2 (dV 9) (dV 5))) [s0, s1, .dic (eD encP l), s3, s4, .sh (nD n), .own (xs.map encP), s7, s8, s9] =
      .ok (.nx [s0, s1, .dic (eD encP l'), s3, s4, .sh (nD n), .sh (.lst (xs.map encP)), s7, s8, t9]) ∧ l'.length ≤ l.length + xs.length ∧ ∀ p, p ∈ keysN l' ↔ p ∈ keysN l ∨ p ∈ xs := by
  obtain ⟨ρ', h1, l', t9, rfl, h2, h3⟩ := for_steps (fb := bName 9) (g := gKput 2 (dV 9) (dV 5)) (fun i ρ => ∃ l' t9, ρ = [s0, s1, .dic (eD encP l'), s3, s4, .sh (nD n), .sh (.lst (xs.map encP)), s7, s8, t9] ∧ l'.length ≤ l.length + i ∧ ∀ p, p ∈ keysN l' ↔ p ∈ keysN l ∨ p ∈ xs.take i)
    (xs := xs.map encP) (ρ := [s0, s1, .dic (eD encP l), s3, s4, .sh (nD n), .sh (.lst (xs.map encP)), s7, s8, s9]) ⟨l, s9, rfl, Nat.le_refl _, by simp⟩ fun i y ρ hy hI => by
    obtain ⟨l', t9, rfl, h2, h3⟩ := hI
    have hi : i < xs.length := by have := (List.getElem?_eq_some_iff.mp hy).1; simpa using this
    have e0 : xs[i]? = some xs[i] := List.getElem?_eq_getElem hi
    generalize xs[i] = x at e0
    rw [List.getElem?_map, e0] at hy
    cases hy
    obtain ⟨l2, g1, g2, g3, g4⟩ := eD_put keyV_encP l' x n
    have hok := eD_ok keyV_encP l' x
    have hz : (eD encP l').length < sizeLine := szt (by rw [eD_len]; omega)
    refine ⟨_, rfl, [s0, s1, .dic (eD encP l2), s3, s4, .sh (nD n), .sh (.lst (xs.map encP)), s7, s8, .sh (encP x)], .inl ?_, l2, _, rfl, by omega, fun p => ?_⟩
    · show gKput 2 (dV 9) (dV 5) [s0, s1, .dic (eD encP l'), s3, s4, .sh (nD n), .sh (.lst (xs.map encP)), s7, s8, .sh (encP x)] = _
      rw [s_gKput]
      simp [hok, hz, g1]
    · have := g4 p
      show p ∈ l2.map (·.1) ↔ _
      rw [this, take_len e0, List.mem_append, List.mem_singleton]
      have := h3 p
      unfold keysN at this ⊢
      rw [this]
      exact or_assoc
  rw [List.length_map] at h2 h3
  refine ⟨l', t9, ?_, h2, fun p => by rw [h3 p, List.take_length]⟩
  rw [s_gFreeze]
  show gFor _ _ _ [s0, s1, .dic (eD encP l), s3, s4, .sh (nD n), .sh (.lst (xs.map encP)), s7, s8, s9] = _
  rw [s_gFor]
  exact h1
theorem ap_round (v : Val E mv an) (hS : mv.length ≤ 100) {k : Nat} {l : List ((Nat × Nat) × Nat)} (hl : l.length ≤ (k + 1) * 10000) (hk : k ≤ 100) (m : Marked E mv an k l) (n : Nat) (s3 s4 s6 s7 s8 s9 : AL.Slot) : ∃ l' t3 t4 t6 t7 t8 t9, apC [.sh (sD3 E mv an), .sh (.lst ((List.range mv.length).map nD)), .dic (eD encP l), s3, s4, .sh (nD n), s6, s7, s8, s9] =
      .ok (.nx [.sh (sD3 E mv an), .sh (.lst ((List.range mv.length).map nD)), .dic (eD encP l'), t3, t4, .sh (nD n), t6, t7, t8, t9]) ∧ l'.length ≤ (k + 2) * 10000 ∧ Marked E mv an (k + 1) l' := by
  obtain ⟨xs, a, b, t7, t8, t9, h1, h2, h3⟩ := ap_fresh v hS l s3 s4 (.sh (nD n)) s7 s8 s9
  obtain ⟨l', u9, h4, h5, h6⟩ := ap_puts l xs n (by omega) (.sh (sD3 E mv an)) (.sh (.lst ((List.range mv.length).map nD))) a b t7 t8 t9
  refine ⟨l', a, b, .sh (.lst (xs.map encP)), t7, t8, u9, ?_, by omega, fun p => ?_⟩
  · have h0 : gSetN 6 (dLst dNil) [.sh (sD3 E mv an), .sh (.lst ((List.range mv.length).map nD)), .dic (eD encP l), s3, s4, .sh (nD n), s6, s7, s8, s9] = .ok (.nx [.sh (sD3 E mv an), .sh (.lst ((List.range mv.length).map nD)), .dic (eD encP l), s3, s4, .sh (nD n), .own [], s7, s8, s9]) := by simp
    unfold apC
    rw [seq_nx h0, seq_nx h1]
    exact h4
  · rw [h6 p, h3 p, m p]
    constructor
    · rintro (⟨p1, p2, h⟩ | ⟨⟨p1, p2⟩, h, e, he, hm⟩)
      · exact ⟨p1, p2, fun z => h z.down⟩
      · refine ⟨p1, p2, fun z => ?_⟩
        exact ((m _).mp hm).2.2 (z.2 e he)
    · rintro ⟨p1, p2, h⟩
      by_cases ha : alikeK E (stepM mv) (ansM an) k p.1 p.2
      · refine .inr ⟨⟨p1, p2⟩, fun z => z.2.2 ha, ?_⟩
        refine Classical.byContradiction fun hn => h ⟨ha.log [] (Nat.zero_le _) fun _ z => (nomatch z), fun e he => ?_⟩
        refine Classical.byContradiction fun hne => hn ⟨e, he, ?_⟩
        exact (m _).mpr ⟨(v.step p1 he).choose_spec.2.2, (v.step p2 he).choose_spec.2.2, hne⟩
      · exact .inl ⟨p1, p2, ha⟩
theorem marked_end (v : Val E mv an) {l : List ((Nat × Nat) × Nat)} (m : Marked E mv an mv.length l) {s t : Nat} (hs : s < mv.length) (ht : t < mv.length) : (s, t) ∈ keysN l ↔ beh E mv an s ≠ beh E mv an t := by
  rw [m (s, t)]
  constructor
  · rintro ⟨_, _, h⟩ e
    exact h (beh_alike.mp e _)
  · intro hne
    refine ⟨hs, ht, fun ha => hne ?_⟩
    refine Classical.byContradiction fun hn => ?_
    have : ∃ w : List Nat, (∀ e ∈ w, e < E) ∧ ansM an (ledM mv s w) ≠ ansM an (ledM mv t w) := by
      refine Classical.byContradiction fun z => hn (beh_iff.mpr fun w hw => Classical.byContradiction fun q => z ⟨w, hw, q⟩)
    obtain ⟨w, hw, hp⟩ := this
    obtain ⟨u, h1, h2, h3⟩ := part_short (E := E) (step := stepM mv) (out := ansM an) (sts := List.range mv.length) (fun x hx e he => List.mem_range.mpr (v.step (List.mem_range.mp hx) he).choose_spec.2.2) (List.mem_range.mpr hs) (List.mem_range.mpr ht) hw hp
    rw [List.length_range] at h1
    exact h3 (ha.log u (by omega) h2)
theorem rangeT2_one {n : Nat} (h : n ≤ 1000000) : rangeT2 (.int 1) (.int ((n : Int) + 1)) = .ok ((List.range n).map fun k => nD (k + 1)) := by
  unfold rangeT2
  show (if RngOk _ ∧ RngOk _ then _ else _) = _
  rw [if_pos ⟨⟨by omega, by omega⟩, ⟨by omega, by omega⟩⟩, upFrom_eq]
  rw [show (((n : Int) + 1) - 1).toNat = n by omega]
  congr 1
  refine List.map_congr_left fun k _ => ?_
  show D.int _ = D.int _
  congr 1
  show (1 : Int) + (k : Int) = ((k + 1 : Nat) : Int)
  omega
theorem q_apart (v : Val E mv an) (hS : mv.length ≤ 100) : ∃ l : List ((Nat × Nat) × Nat), x_apart [sD3 E mv an] = .ok (.dic ((eD encP l).map (·.1)) ((eD encP l).map (·.2))) ∧ ∀ s t, s < mv.length → t < mv.length → ((s, t) ∈ keysN l ↔ beh E mv an s ≠ beh E mv an t) := by
  obtain ⟨l0, a, b, h1, h2, h3⟩ := ap_first v hS .no .no .no .no .no .no .no
  obtain ⟨ρ', h4, l, t3, t4, t5, t6, t7, t8, t9, rfl, h5, h6⟩ := for_steps (fb := bName 5) (g := apC)
    (fun k ρ => ∃ l t3 t4 t5 t6 t7 t8 t9, ρ = [.sh (sD3 E mv an), .sh (.lst ((List.range mv.length).map nD)), .dic (eD encP l), t3, t4, t5, t6, t7, t8, t9] ∧ l.length ≤ (k + 1) * 10000 ∧ Marked E mv an k l)
    (xs := (List.range mv.length).map fun k => nD (k + 1)) (ρ := [.sh (sD3 E mv an), .sh (.lst ((List.range mv.length).map nD)), .dic (eD encP l0), a, b, .no, .no, .no, .no, .no]) ⟨l0, _, _, _, _, _, _, _, rfl, by omega, h3⟩ fun k y ρ hy hI => by
    obtain ⟨l, t3, t4, t5, t6, t7, t8, t9, rfl, h5, h6⟩ := hI
    have hk : k < mv.length := by have := (List.getElem?_eq_some_iff.mp hy).1; simpa using this
    rw [List.getElem?_map, List.getElem?_range hk] at hy
    cases hy
    obtain ⟨l', u3, u4, u6, u7, u8, u9, g1, g2, g3⟩ := ap_round v hS h5 (by omega) h6 (k + 1) t3 t4 t6 t7 t8 t9
    exact ⟨_, rfl, _, .inl g1, l', _, _, _, _, _, _, _, rfl, g2, g3⟩
  rw [List.length_map, List.length_range] at h6
  refine ⟨l, ?_, fun s t hs ht => marked_end v h6 hs ht⟩
  have e0 : env0 10 [sD3 E mv an] = [.sh (sD3 E mv an), .no, .no, .no, .no, .no, .no, .no, .no, .no] := rfl
  have g0 : gPar 1 2 (dSh (dFz (dListRg (dLen (dSq (dIx (dSqV 0) (dC (.int 1)))))))) dNewD [.sh (sD3 E mv an), .no, .no, .no, .no, .no, .no, .no, .no, .no] = .ok (.nx [.sh (sD3 E mv an), .sh (.lst ((List.range mv.length).map nD)), .dic [], .no, .no, .no, .no, .no, .no, .no]) := by
    have hb : ((mv.length : Nat) : Int) ≤ 1000000 ∧ -1000000 ≤ ((mv.length : Nat) : Int) := ⟨by omega, by omega⟩
    simp [sD3, Sq.xs, hb]
    exact fun _ _ => rfl
  have hr := rangeT2_one (n := mv.length) (by omega)
  have ee : dRange2 (dC (.int 1)) (dB opAdd (dLen (dSq (dIx (dSqV 0) (dC (.int 1))))) (dC (.int 1))) [.sh (sD3 E mv an), .sh (.lst ((List.range mv.length).map nD)), .dic (eD encP l0), a, b, .no, .no, .no, .no, .no] = .ok ((List.range mv.length).map fun k => nD (k + 1)) := by
    simp [sD3, Sq.xs, hr]
  rw [x_apart, bodyT_eq, e0]
  unfold y_apart
  rw [seq_nx g0, seq_nx h1, seq_nx (by rw [s_gFor, ee, T.ex_ok]; exact h4)]
  rfl
end
end
end AL
namespace AL
open PySem
noncomputable section
/-! ## the least summary by the law's own marking -/
section
variable {E : Nat} {mv : List (List Nat)} {an : List Nat}
def llX : DEnv → T Fl :=
  (gSeq (gSetN 6 (dLc (dItems (dSqV 2)) (bName 7) (dT (dVin false (dTup (dCons (dV 7) (dCons (dV 4) dNil))) (dV 1))) (dV 7) [7]))
  (gSeq (gFreeze 6 (gIf (dT (dB opEq (dV 6) (dFz (dLst dNil))))
  (gAppend 2 (dV 4))
  gNil))
  (gFreeze 6 (gKput 3 (dV 4) (dIf (dT (dB opNe (dV 6) (dFz (dLst dNil)))) (dIndex (dSqV 2) (dIx (dSqV 6) (dC (.int 0)))) (dB opSub (dLen (dSqV 2)) (dC (.int 1))))))))
def y_lleast : DEnv → T Fl :=
  (gSeq (gPar3 1 2 3 (dSh (dCall 1 x_apart (dCons (dV 0) dNil))) (dOwn (dLst dNil)) dNewD)
  (gSeq (gFor (dItems (dSq (dCall 1 x_reached (dCons (dV 0) dNil)))) (bTup 2 (bCons (bName 4) (bCons (bName 5) bNil)))
  llX)
  (gSeq (gSetN 8 (dLc (dItems (dSqV 2)) (bName 4) dYes (dTupOf (dSqN (dLc (dItems (dSq (dIx (dSq (dIx (dSqV 0) (dC (.int 1)))) (dV 4)))) (bName 9) dYes (dKget 3 (dV 9)) [9]))) [4]))
  (gRet (dTup (dCons (dIx (dSqV 0) (dC (.int 0))) (dCons (dTupOf (dSqV 8)) (dCons (dTupOf (dSqN (dLc (dItems (dSqV 2)) (bName 4) dYes (dIx (dSq (dIx (dSqV 0) (dC (.int 2)))) (dV 4)) [4]))) dNil))))))))
def x_lleast : List D → T D := bodyT 10 y_lleast
theorem opEq_nilL {xs : List D} (h : D.plains xs = true) : opEq (.lst xs) (.lst []) = .ok (.bl xs.isEmpty) := by
  have e : min (D.lst xs).py.depth (D.lst []).py.depth ≤ 64 := by simp [D.py, D.pys, PyData.depth, PyData.depthAll]
  show (if _ ∧ _ ∧ _ then _ else _) = _
  rw [if_pos ⟨by simpa only [D.plain] using h, rfl, e⟩]
  cases xs with
  | nil => simp [D.py, D.pys, PyData.eqv, PyData.eqvAll]
  | cons x r => simp [D.py, D.pys, PyData.eqv, PyData.eqvAll]
theorem depths_nats (l : List Nat) : PyData.depthAll (D.pys (l.map nD)) = 0 := by
  induction l with
  | nil => simp [D.pys, PyData.depthAll]
  | cons a l ih => simp only [List.map_cons, D.pys, PyData.depthAll, ih, nD, D.py, PyData.depth]; rfl
theorem opIndex_nats {ks : List Nat} {a : Nat} (h : a ∈ ks) : opIndex (ks.map nD) (nD a) = .ok (nD (plc a ks)) := by
  unfold opIndex
  rw [if_pos ⟨by simp only [nD, D.plain], by simp only [nD, D.py, PyData.depth]; decide, plains_nats ks, by simp only [PyData.depth, depths_nats]; decide⟩]
  have : (D.pys (ks.map nD)).findIdx? (fun z => PyData.eqv z (nD a).py) = some (plc a ks) := by
    rw [pys_map]
    induction ks with
    | nil => cases h
    | cons b ks ih =>
      rw [List.map_cons, List.findIdx?_cons, eqv_nD, plc_cons]
      by_cases e : b = a
      · rw [if_pos e, decide_eq_true e]; rfl
      · rw [if_neg e, decide_eq_false e]
        have hm : a ∈ ks := (List.mem_cons.mp h).resolve_left fun z => e z.symm
        rw [ih hm]
        rfl
  rw [this]
  rfl
/-- what stands behind some of the rows -/
structure Kept (E : Nat) (mv : List (List Nat)) (an : List Nat) (done : List (Row Nat)) (ks : List Nat) (ns : List (Nat × Nat)) : Prop where
  cls : ks.map (beh E mv an) = allK [] (behs E mv an done)
  lt : ∀ s ∈ ks, s < mv.length
  num : ∀ p ∈ ns, p.1 < mv.length ∧ beh E mv an p.1 ∈ ks.map (beh E mv an) ∧ p.2 = plc (beh E mv an p.1) (ks.map (beh E mv an))
  all : ∀ r ∈ done, r.1 ∈ ns.map (·.1)
  len : ns.length ≤ done.length
  short : ks.length ≤ done.length
  sub : ∀ s ∈ ks, ∃ r ∈ done, r.1 = s
theorem filter_nodup {α β : Type} [DecidableEq β] {f : α → β} {b : β} : ∀ {l : List α}, (l.map f).Nodup → ∀ {x : α}, x ∈ l → f x = b → (l.filter fun y => decide (f y = b)) = [x]
  | [], _, _, h, _ => nomatch h
  | y :: l, hn, x, h, e => by
    have h2 := List.nodup_cons.mp hn
    rw [List.filter_cons]
    rcases List.mem_cons.mp h with z | z
    · subst z
      rw [decide_eq_true e, if_pos rfl]
      congr 1
      rw [List.filter_eq_nil_iff]
      intro q hq hd
      have : f q = f x := by rw [of_decide_eq_true hd, e]
      exact h2.1 (List.mem_map.mpr ⟨q, hq, this⟩)
    · have hne : ¬ f y = b := fun q => h2.1 (by
        show f y ∈ l.map f
        rw [q, ← e]
        exact List.mem_map.mpr ⟨x, z, rfl⟩)
      rw [decide_eq_false hne]
      simp only [Bool.false_eq_true, if_false]
      exact filter_nodup h2.2 z e
theorem ll_x (v : Val E mv an) (hS : mv.length ≤ 100) {l : List ((Nat × Nat) × Nat)} (hl : ∀ s t, s < mv.length → t < mv.length → ((s, t) ∈ keysN l ↔ beh E mv an s ≠ beh E mv an t)) {done : List (Row Nat)} {ks : List Nat} {ns : List (Nat × Nat)} (k : Kept E mv an done ks ns) (hd : done.length ≤ 100) {x : Row Nat} (hx : x.1 < mv.length) (s5 s6 s7 s8 s9 : AL.Slot) :
    ∃ ks' ns' t6 t7, llX [.sh (sD3 E mv an), .sh (.dic ((eD encP l).map (·.1)) ((eD encP l).map (·.2))), .own (ks.map nD), .dic (eD nD ns), .sh (nD x.1), s5, s6, s7, s8, s9] =
      .ok (.nx [.sh (sD3 E mv an), .sh (.dic ((eD encP l).map (·.1)) ((eD encP l).map (·.2))), .own (ks'.map nD), .dic (eD nD ns'), .sh (nD x.1), s5, t6, t7, s8, s9]) ∧ Kept E mv an (done ++ [x]) ks' ns' := by
  have hkl := k.short
  have zk : (ks.map nD).length ≤ sizeLine := szl (by rw [List.length_map]; omega)
  have zk2 : ks.length < sizeLine := szt (by omega)
  have hc : lcGo (bName 7) (dT (dVin false (dTup (dCons (dV 7) (dCons (dV 4) dNil))) (dV 1))) (dV 7) [.sh (sD3 E mv an), .sh (.dic ((eD encP l).map (·.1)) ((eD encP l).map (·.2))), .own (ks.map nD), .dic (eD nD ns), .sh (nD x.1), s5, s6, .no, s8, s9] (ks.map nD) = .ok ((ks.filter fun s => decide (beh E mv an s = beh E mv an x.1)).map nD) := by
    rw [lc_eq (p := fun d => match d with | .int i => decide (beh E mv an i.toNat = beh E mv an x.1) | _ => false) (g := id)]
    · rw [List.map_id, List.filter_map]
      rfl
    · intro y hy
      obtain ⟨s, hs, rfl⟩ := List.mem_map.mp hy
      have hok := eD_ok keyV_encP l (s, x.1)
      have hh := eD_hasP (s, x.1) l
      refine ⟨_, rfl, ?_, fun _ => rfl⟩
      have e1 : dTup (dCons (dV 7) (dCons (dV 4) dNil)) [.sh (sD3 E mv an), .sh (.dic ((eD encP l).map (·.1)) ((eD encP l).map (·.2))), .own (ks.map nD), .dic (eD nD ns), .sh (nD x.1), s5, s6, .sh (nD s), s8, s9] = .ok (encP (s, x.1)) := by simp [encP]
      show dT (dVin false (dTup (dCons (dV 7) (dCons (dV 4) dNil))) (dV 1)) [.sh (sD3 E mv an), .sh (.dic ((eD encP l).map (·.1)) ((eD encP l).map (·.2))), .own (ks.map nD), .dic (eD nD ns), .sh (nD x.1), s5, s6, .sh (nD s), s8, s9] = _
      rw [s_dT, s_dVin, e1, T.bind_ok]
      show ((if dicOk (((eD encP l).map (·.1)).zip ((eD encP l).map (·.2))) (encP (s, x.1)) = true then T.ok (D.bl ((dget (((eD encP l).map (·.1)).zip ((eD encP l).map (·.2))) (encP (s, x.1))).isSome == false)) else .fail).bind _) = _
      rw [zip_both, if_pos hok, hh, T.bind_ok]
      show T.ok _ = T.ok _
      congr 1
      have := hl s x.1 (k.lt s hs) hx
      show (decide ((s, x.1) ∈ keysN l) == false) = decide (beh E mv an s = beh E mv an x.1)
      by_cases q : beh E mv an s = beh E mv an x.1
      · rw [decide_eq_true q, decide_eq_false (fun z => this.mp z q)]; rfl
      · rw [decide_eq_false q, decide_eq_true (this.mpr q)]; rfl
  have h6 : gSetN 6 (dLc (dItems (dSqV 2)) (bName 7) (dT (dVin false (dTup (dCons (dV 7) (dCons (dV 4) dNil))) (dV 1))) (dV 7) [7]) [.sh (sD3 E mv an), .sh (.dic ((eD encP l).map (·.1)) ((eD encP l).map (·.2))), .own (ks.map nD), .dic (eD nD ns), .sh (nD x.1), s5, s6, s7, s8, s9] =
      .ok (.nx [.sh (sD3 E mv an), .sh (.dic ((eD encP l).map (·.1)) ((eD encP l).map (·.2))), .own (ks.map nD), .dic (eD nD ns), .sh (nD x.1), s5, .own ((ks.filter fun s => decide (beh E mv an s = beh E mv an x.1)).map nD), s7, s8, s9]) := by
    rw [s_gSetN, s_dLc]
    have ei : dItems (dSqV 2) [.sh (sD3 E mv an), .sh (.dic ((eD encP l).map (·.1)) ((eD encP l).map (·.2))), .own (ks.map nD), .dic (eD nD ns), .sh (nD x.1), s5, s6, s7, s8, s9] = .ok (ks.map nD) := rfl
    have ew : dWipe [.sh (sD3 E mv an), .sh (.dic ((eD encP l).map (·.1)) ((eD encP l).map (·.2))), .own (ks.map nD), .dic (eD nD ns), .sh (nD x.1), s5, s6, s7, s8, s9] [7] = [.sh (sD3 E mv an), .sh (.dic ((eD encP l).map (·.1)) ((eD encP l).map (·.2))), .own (ks.map nD), .dic (eD nD ns), .sh (nD x.1), s5, s6, .no, s8, s9] := rfl
    rw [ei, T.bind_ok, if_pos zk, ew, hc]
    rfl
  have hnd : (ks.map (beh E mv an)).Nodup := by rw [k.cls]; exact allK_nodup List.nodup_nil
  have hok3 := eD_ok keyV_nD ns x.1
  have hz3 : (eD nD ns).length < sizeLine := szt (by rw [eD_len]; have := k.len; omega)
  have e8 : behs E mv an (done ++ [x]) = behs E mv an done ++ [beh E mv an x.1] := by
    unfold behs
    rw [List.map_append]
    rfl
  have e9 : allK [] (behs E mv an (done ++ [x])) = addK (ks.map (beh E mv an)) (beh E mv an x.1) := by
    rw [e8, allK_app, k.cls]
    rfl
  by_cases hm : beh E mv an x.1 ∈ ks.map (beh E mv an)
  · obtain ⟨s, hs, es⟩ := List.mem_map.mp hm
    have hf := filter_nodup (f := beh E mv an) (b := beh E mv an x.1) hnd hs es
    rw [hf] at h6
    obtain ⟨ns', g1, g2, g3, g4⟩ := eD_put keyV_nD ns x.1 (plc s ks)
    have epl : plc s ks = plc (beh E mv an x.1) (ks.map (beh E mv an)) := by
      rw [← es]
      refine plc_map fun y hy => ⟨fun e => by rw [e], fun e => ?_⟩
      have : ∀ {l : List Nat}, (l.map (beh E mv an)).Nodup → ∀ {a b : Nat}, a ∈ l → b ∈ l → beh E mv an a = beh E mv an b → a = b := fun {l} => by
        induction l with
        | nil => intro _ a b h; cases h
        | cons c l ih =>
          intro hn a b ha hb e
          have h2 := List.nodup_cons.mp hn
          rcases List.mem_cons.mp ha with z | z <;> rcases List.mem_cons.mp hb with q | q
          · rw [z, q]
          · exact absurd (List.mem_map.mpr ⟨b, q, by rw [← e, z]⟩) h2.1
          · exact absurd (List.mem_map.mpr ⟨a, z, by rw [e, q]⟩) h2.1
          · exact ih h2.2 z q e
      exact this hnd hy hs e
    refine ⟨ks, ns', .sh (.lst [nD s]), s7, ?_, ⟨by rw [e9, addK_mem_self hm], k.lt, fun p hp => ?_, fun r hr => ?_, by have := k.len; simp; omega, by simp; omega, fun s hs => (k.sub s hs).elim fun r h => ⟨r, List.mem_append_left _ h.1, h.2⟩⟩⟩
    · unfold llX
      rw [seq_nx h6]
      have h7 : gFreeze 6 (gIf (dT (dB opEq (dV 6) (dFz (dLst dNil)))) (gAppend 2 (dV 4)) gNil) [.sh (sD3 E mv an), .sh (.dic ((eD encP l).map (·.1)) ((eD encP l).map (·.2))), .own (ks.map nD), .dic (eD nD ns), .sh (nD x.1), s5, .own [nD s], s7, s8, s9] =
          .ok (.nx [.sh (sD3 E mv an), .sh (.dic ((eD encP l).map (·.1)) ((eD encP l).map (·.2))), .own (ks.map nD), .dic (eD nD ns), .sh (nD x.1), s5, .sh (.lst [nD s]), s7, s8, s9]) := by
        have hq := opEq_nilL (xs := [nD s]) (plains_nats [s])
        simp [dFreeze, hq]
      rw [show [s].map nD = [nD s] from rfl, seq_nx h7]
      have hq := opNe_nilL (xs := [nD s]) (plains_nats [s])
      have hi := opIndex_nats hs
      have hx0 : opIx (.l [nD s]) (.int 0) = .ok (nD s) := opIx_l0 _ _
      rw [s_gFreeze]
      show gKput 3 _ _ [.sh (sD3 E mv an), .sh (.dic ((eD encP l).map (·.1)) ((eD encP l).map (·.2))), .own (ks.map nD), .dic (eD nD ns), .sh (nD x.1), s5, .sh (.lst [nD s]), s7, s8, s9] = _
      simp [hq, hi, hok3, hz3, g1]
    · rcases g3 p hp with z | z
      · exact k.num p z
      · rw [z]
        exact ⟨hx, hm, epl⟩
    · rw [g4]
      rcases List.mem_append.mp hr with z | z
      · exact .inl (k.all r z)
      · rw [List.mem_singleton.mp z]; exact .inr rfl
  · have hf : (ks.filter fun s => decide (beh E mv an s = beh E mv an x.1)) = [] := by
      rw [List.filter_eq_nil_iff]
      intro q hq hd
      exact hm (List.mem_map.mpr ⟨q, hq, of_decide_eq_true hd⟩)
    rw [hf] at h6
    obtain ⟨ns', g1, g2, g3, g4⟩ := eD_put keyV_nD ns x.1 ks.length
    have e10 : (ks ++ [x.1]).map (beh E mv an) = ks.map (beh E mv an) ++ [beh E mv an x.1] := by rw [List.map_append]; rfl
    refine ⟨ks ++ [x.1], ns', .sh (.lst []), s7, ?_, ⟨by rw [e9, e10]; exact (if_neg hm).symm, fun s hs => ?_, fun p hp => ?_, fun r hr => ?_, by have := k.len; simp; omega, by simp; omega, fun s hs => (List.mem_append.mp hs).elim (fun z => (k.sub s z).elim fun r h => ⟨r, List.mem_append_left _ h.1, h.2⟩) fun z => ⟨x, List.mem_append_right _ (List.mem_singleton.mpr rfl), (List.mem_singleton.mp z).symm⟩⟩⟩
    · unfold llX
      rw [seq_nx h6]
      have h7 : gFreeze 6 (gIf (dT (dB opEq (dV 6) (dFz (dLst dNil)))) (gAppend 2 (dV 4)) gNil) [.sh (sD3 E mv an), .sh (.dic ((eD encP l).map (·.1)) ((eD encP l).map (·.2))), .own (ks.map nD), .dic (eD nD ns), .sh (nD x.1), s5, .own [], s7, s8, s9] =
          .ok (.nx [.sh (sD3 E mv an), .sh (.dic ((eD encP l).map (·.1)) ((eD encP l).map (·.2))), .own ((ks ++ [x.1]).map nD), .dic (eD nD ns), .sh (nD x.1), s5, .sh (.lst []), s7, s8, s9]) := by
        have hq := opEq_nilL (xs := []) rfl
        simp [dFreeze, hq, zk2]
      rw [show ([] : List Nat).map nD = [] from rfl, seq_nx h7]
      have hq := opNe_nilL (xs := []) rfl
      have hs1 : opSub (.int ((ks.length : Int) + 1)) (.int 1) = .ok (nD ks.length) := by simp [nD]
      rw [s_gFreeze]
      show gKput 3 _ _ [.sh (sD3 E mv an), .sh (.dic ((eD encP l).map (·.1)) ((eD encP l).map (·.2))), .own ((ks ++ [x.1]).map nD), .dic (eD nD ns), .sh (nD x.1), s5, .sh (.lst []), s7, s8, s9] = _
      simp [hq, Sq.xs, hok3, hz3]
      have g1' := g1
      simp only [nD] at g1'
      exact g1'
    · rcases List.mem_append.mp hs with z | z
      · exact k.lt s z
      · rw [List.mem_singleton.mp z]; exact hx
    · rcases g3 p hp with z | z
      · obtain ⟨a1, a2, a3⟩ := k.num p z
        refine ⟨a1, by rw [e10]; exact List.mem_append_left _ a2, ?_⟩
        rw [a3, e10, plc_app _ a2]
      · rw [z]
        refine ⟨hx, by rw [e10]; simp, ?_⟩
        show ks.length = _
        rw [e10]
        have : ∀ {l : List Beh} {b : Beh}, b ∉ l → plc b (l ++ [b]) = l.length := fun {l b} => by
          induction l with
          | nil => intro _; rw [List.nil_append, plc_cons, if_pos rfl]; rfl
          | cons c l ih =>
            intro h
            rw [List.cons_append, plc_cons, if_neg (fun z => h (by rw [z]; simp)), ih (fun z => h (by simp [z]))]
            rfl
        rw [this hm, List.length_map]
    · rw [g4]
      rcases List.mem_append.mp hr with z | z
      · exact .inl (k.all r z)
      · rw [List.mem_singleton.mp z]; exact .inr rfl
end
end
end AL
namespace AL
open PySem
noncomputable section
section
variable {E : Nat} {mv : List (List Nat)} {an : List Nat}
theorem q_lleast (v : Val E mv an) (hS : mv.length ≤ 100) : ∃ B, x_lleast [sD3 E mv an] = .ok (sD3 E (rowsOf E B) (ansOf B)) ∧ Grown E (beh E mv an 0) B B.length := by
  obtain ⟨l, a1, a2⟩ := q_apart v hS
  obtain ⟨rows, r1, g, m⟩ := q_reached v hS
  obtain ⟨ρ', h1, ks, ns, s4, s5, s6, s7, s8, s9, rfl, k⟩ := for_steps (fb := bTup 2 (bCons (bName 4) (bCons (bName 5) bNil))) (g := llX)
    (fun t ρ => ∃ ks ns s4 s5 s6 s7 s8 s9, ρ = [.sh (sD3 E mv an), .sh (.dic ((eD encP l).map (·.1)) ((eD encP l).map (·.2))), .own (ks.map nD), .dic (eD nD ns), s4, s5, s6, s7, s8, s9] ∧ Kept E mv an (rows.take t) ks ns)
    (xs := rows.map (rowD nD)) (ρ := [.sh (sD3 E mv an), .sh (.dic ((eD encP l).map (·.1)) ((eD encP l).map (·.2))), .own [], .dic [], .no, .no, .no, .no, .no, .no]) ⟨[], [], _, _, _, _, _, _, rfl, ⟨rfl, by simp, by simp, by simp, by simp, by simp, by simp⟩⟩ fun t y ρ hy hI => by
    obtain ⟨ks, ns, s4, s5, s6, s7, s8, s9, rfl, k⟩ := hI
    have ht : t < rows.length := by have := (List.getElem?_eq_some_iff.mp hy).1; simpa using this
    have e0 : rows[t]? = some rows[t] := List.getElem?_eq_getElem ht
    generalize rows[t] = x at e0
    rw [List.getElem?_map, e0] at hy
    cases hy
    have hx := (g.all x (List.mem_of_getElem? e0)).1
    have hle := g.le
    obtain ⟨ks', ns', t6, t7, q1, q2⟩ := ll_x v hS a2 k (by rw [List.length_take]; omega) hx (.sh (rD x.2)) s6 s7 s8 s9
    rw [← take_len e0] at q2
    exact ⟨_, rfl, _, .inl q1, ks', ns', _, _, _, _, _, _, rfl, q2⟩
  rw [List.length_map, List.take_length] at k
  have hle := g.le
  have hkl := k.short
  have hE := v.se
  have hB : Grown E (beh E mv an 0) (ks.map (beh E mv an)) (ks.map (beh E mv an)).length := by
    rw [k.cls]
    exact m.closed
  have hlt : ∀ s ∈ ks, ∀ e, e < E → stepM mv s e ∈ ns.map (·.1) := fun s hs e he => by
    obtain ⟨r, hr, rfl⟩ := k.sub s hs
    obtain ⟨y, hy, ey⟩ := m.st r (by rw [List.take_length]; exact hr) e he
    rw [← ey]
    exact k.all y hy
  have znum : ∀ s ∈ ks, ∀ e, e < E → dget (eD nD ns) (nD (stepM mv s e)) = some (nD (plc (der e (beh E mv an s)) (ks.map (beh E mv an)))) := fun s hs e he => by
    rcases eD_get keyV_nD (stepM mv s e) ns with ⟨h, _⟩ | ⟨n, h, h2⟩
    · exact absurd (hlt s hs e he) h
    · rw [h2, der_beh he]
      have := (k.num _ h).2.2
      simp only at this
      rw [this]
  have zk : (ks.map nD).length ≤ sizeLine := szl (by rw [List.length_map]; omega)
  have zE : E ≤ sizeLine := szl (by omega)
  -- the inner comprehension
  have hin : ∀ s ∈ ks, ∀ (t5 t6 t7 t8 t9 : AL.Slot), dTupOf (dSqN (dLc (dItems (dSq (dIx (dSq (dIx (dSqV 0) (dC (.int 1)))) (dV 4)))) (bName 9) dYes (dKget 3 (dV 9)) [9])) [.sh (sD3 E mv an), .sh (.dic ((eD encP l).map (·.1)) ((eD encP l).map (·.2))), .own (ks.map nD), .dic (eD nD ns), .sh (nD s), t5, t6, t7, t8, t9] =
      .ok (rD ((List.range E).map fun e => plc (der e (beh E mv an s)) (ks.map (beh E mv an)))) := fun s hs t5 t6 t7 t8 t9 => by
    have hS := k.lt s hs
    have hrow := rowAt_get hS
    have er := row_eq v hS
    have ei : dItems (dSq (dIx (dSq (dIx (dSqV 0) (dC (.int 1)))) (dV 4))) [.sh (sD3 E mv an), .sh (.dic ((eD encP l).map (·.1)) ((eD encP l).map (·.2))), .own (ks.map nD), .dic (eD nD ns), .sh (nD s), t5, t6, t7, t8, t9] = .ok ((rowAt mv s).map nD) := by
      have e1 : opIx (.t (mv.map rD)) (nD s) = .ok (rD (rowAt mv s)) := opIx_t (i := s) (by rw [List.getElem?_map, hrow.1]; rfl)
      simp only [nD, rD] at e1
      simp [sD3, nD, rD, e1, Sq.xs]
    have zr : ((rowAt mv s).map nD).length ≤ sizeLine := by rw [List.length_map, er, List.length_map, List.length_range]; exact zE
    have hl : lcGo (bName 9) dYes (dKget 3 (dV 9)) [.sh (sD3 E mv an), .sh (.dic ((eD encP l).map (·.1)) ((eD encP l).map (·.2))), .own (ks.map nD), .dic (eD nD ns), .sh (nD s), t5, t6, t7, t8, .no] ((rowAt mv s).map nD) = .ok (((List.range E).map fun e => plc (der e (beh E mv an s)) (ks.map (beh E mv an))).map nD) := by
      rw [er, lc_map (g := fun d => match dget (eD nD ns) d with | some x => x | none => .non)]
      · rw [List.map_map, List.map_map, List.map_map]
        congr 1
        refine List.map_congr_left fun e he => ?_
        show (match dget (eD nD ns) (nD (stepM mv s e)) with | some x => x | none => .non) = _
        rw [znum s hs e (List.mem_range.mp he)]
        rfl
      · intro y hy
        obtain ⟨x, hx, rfl⟩ := List.mem_map.mp hy
        obtain ⟨e, he, rfl⟩ := List.mem_map.mp hx
        have hok := eD_ok keyV_nD ns (stepM mv s e)
        have hz := znum s hs e (List.mem_range.mp he)
        refine ⟨_, rfl, ?_⟩
        show dKget 3 (dV 9) [.sh (sD3 E mv an), .sh (.dic ((eD encP l).map (·.1)) ((eD encP l).map (·.2))), .own (ks.map nD), .dic (eD nD ns), .sh (nD s), t5, t6, t7, t8, .sh (nD (stepM mv s e))] = _
        rw [s_dKget]
        simp [hok, hz]
    have ew : dWipe [.sh (sD3 E mv an), .sh (.dic ((eD encP l).map (·.1)) ((eD encP l).map (·.2))), .own (ks.map nD), .dic (eD nD ns), .sh (nD s), t5, t6, t7, t8, t9] [9] = [.sh (sD3 E mv an), .sh (.dic ((eD encP l).map (·.1)) ((eD encP l).map (·.2))), .own (ks.map nD), .dic (eD nD ns), .sh (nD s), t5, t6, t7, t8, .no] := rfl
    have zq : (((List.range E).map fun e => plc (der e (beh E mv an s)) (ks.map (beh E mv an))).map nD).length ≤ sizeLine := by rw [List.length_map, List.length_map, List.length_range]; exact zE
    rw [s_dTupOf, s_dSqN, s_dLc, ei, T.bind_ok, if_pos zr, ew, hl, T.bind_ok, T.bind_ok]
    exact if_pos zq
  have h8 : gSetN 8 (dLc (dItems (dSqV 2)) (bName 4) dYes (dTupOf (dSqN (dLc (dItems (dSq (dIx (dSq (dIx (dSqV 0) (dC (.int 1)))) (dV 4)))) (bName 9) dYes (dKget 3 (dV 9)) [9]))) [4]) [.sh (sD3 E mv an), .sh (.dic ((eD encP l).map (·.1)) ((eD encP l).map (·.2))), .own (ks.map nD), .dic (eD nD ns), s4, s5, s6, s7, s8, s9] =
      .ok (.nx [.sh (sD3 E mv an), .sh (.dic ((eD encP l).map (·.1)) ((eD encP l).map (·.2))), .own (ks.map nD), .dic (eD nD ns), s4, s5, s6, s7, .own ((rowsOf E (ks.map (beh E mv an))).map rD), s9]) := by
    have ei : dItems (dSqV 2) [.sh (sD3 E mv an), .sh (.dic ((eD encP l).map (·.1)) ((eD encP l).map (·.2))), .own (ks.map nD), .dic (eD nD ns), s4, s5, s6, s7, s8, s9] = .ok (ks.map nD) := rfl
    have ew : dWipe [.sh (sD3 E mv an), .sh (.dic ((eD encP l).map (·.1)) ((eD encP l).map (·.2))), .own (ks.map nD), .dic (eD nD ns), s4, s5, s6, s7, s8, s9] [4] = [.sh (sD3 E mv an), .sh (.dic ((eD encP l).map (·.1)) ((eD encP l).map (·.2))), .own (ks.map nD), .dic (eD nD ns), .no, s5, s6, s7, s8, s9] := rfl
    rw [s_gSetN, s_dLc, ei, T.bind_ok, if_pos zk, ew, lc_map (g := fun d => match d with | .int s => rD ((List.range E).map fun e => plc (der e (beh E mv an s.toNat)) (ks.map (beh E mv an))) | _ => .non)]
    · rw [T.ex_ok]
      unfold rowsOf
      rw [List.map_map, List.map_map, List.map_map]
      rfl
    · intro y hy
      obtain ⟨s, hs, rfl⟩ := List.mem_map.mp hy
      exact ⟨_, rfl, hin s hs s5 s6 s7 s8 s9⟩
  have hA : ∀ t8 : AL.Slot, lcGo (bName 4) dYes (dIx (dSq (dIx (dSqV 0) (dC (.int 2)))) (dV 4)) [.sh (sD3 E mv an), .sh (.dic ((eD encP l).map (·.1)) ((eD encP l).map (·.2))), .own (ks.map nD), .dic (eD nD ns), .no, s5, s6, s7, t8, s9] (ks.map nD) = .ok ((ansOf (ks.map (beh E mv an))).map nD) := fun t8 => by
    rw [lc_map (g := fun d => match d with | .int s => nD (ansM an s.toNat) | _ => .non)]
    · unfold ansOf
      rw [List.map_map, List.map_map, List.map_map]
      refine congrArg T.ok (List.map_congr_left fun s _ => ?_)
      show nD (ansM an s) = nD (beh E mv an s [])
      rw [beh_nil]
    · intro y hy
      obtain ⟨s, hs, rfl⟩ := List.mem_map.mp hy
      have ea := an_get v (k.lt s hs)
      refine ⟨_, rfl, ?_⟩
      simp only [nD] at ea
      simp [sD3, rD, nD, ea]
  have eret : (gRet (dTup (dCons (dIx (dSqV 0) (dC (.int 0))) (dCons (dTupOf (dSqV 8)) (dCons (dTupOf (dSqN (dLc (dItems (dSqV 2)) (bName 4) dYes (dIx (dSq (dIx (dSqV 0) (dC (.int 2)))) (dV 4)) [4]))) dNil)))) [.sh (sD3 E mv an), .sh (.dic ((eD encP l).map (·.1)) ((eD encP l).map (·.2))), .own (ks.map nD), .dic (eD nD ns), s4, s5, s6, s7, .own ((rowsOf E (ks.map (beh E mv an))).map rD), s9]) =
      .ok (.rt (sD3 E (rowsOf E (ks.map (beh E mv an))) (ansOf (ks.map (beh E mv an))))) := by
    have z1 : (rowsOf E (ks.map (beh E mv an))).length ≤ sizeLine := by unfold rowsOf; rw [List.length_map, List.length_map]; exact szl (by omega)
    have z2 : (ansOf (ks.map (beh E mv an))).length ≤ sizeLine := by unfold ansOf; rw [List.length_map, List.length_map]; exact szl (by omega)
    have c1 : dIx (dSqV 0) (dC (.int 0)) [.sh (sD3 E mv an), .sh (.dic ((eD encP l).map (·.1)) ((eD encP l).map (·.2))), .own (ks.map nD), .dic (eD nD ns), s4, s5, s6, s7, .own ((rowsOf E (ks.map (beh E mv an))).map rD), s9] = .ok (nD E) := by simp [sD3]
    have c2 : dTupOf (dSqV 8) [.sh (sD3 E mv an), .sh (.dic ((eD encP l).map (·.1)) ((eD encP l).map (·.2))), .own (ks.map nD), .dic (eD nD ns), s4, s5, s6, s7, .own ((rowsOf E (ks.map (beh E mv an))).map rD), s9] = .ok (.tup ((rowsOf E (ks.map (beh E mv an))).map rD)) := by
      rw [s_dTupOf]
      show (if _ then _ else _) = _
      rw [if_pos (by show ((rowsOf E (ks.map (beh E mv an))).map rD).length ≤ _; rw [List.length_map]; exact z1)]
      rfl
    have c3 : dTupOf (dSqN (dLc (dItems (dSqV 2)) (bName 4) dYes (dIx (dSq (dIx (dSqV 0) (dC (.int 2)))) (dV 4)) [4])) [.sh (sD3 E mv an), .sh (.dic ((eD encP l).map (·.1)) ((eD encP l).map (·.2))), .own (ks.map nD), .dic (eD nD ns), s4, s5, s6, s7, .own ((rowsOf E (ks.map (beh E mv an))).map rD), s9] = .ok (rD (ansOf (ks.map (beh E mv an)))) := by
      have ei : dItems (dSqV 2) [.sh (sD3 E mv an), .sh (.dic ((eD encP l).map (·.1)) ((eD encP l).map (·.2))), .own (ks.map nD), .dic (eD nD ns), s4, s5, s6, s7, .own ((rowsOf E (ks.map (beh E mv an))).map rD), s9] = .ok (ks.map nD) := rfl
      have ew : dWipe [.sh (sD3 E mv an), .sh (.dic ((eD encP l).map (·.1)) ((eD encP l).map (·.2))), .own (ks.map nD), .dic (eD nD ns), s4, s5, s6, s7, .own ((rowsOf E (ks.map (beh E mv an))).map rD), s9] [4] = [.sh (sD3 E mv an), .sh (.dic ((eD encP l).map (·.1)) ((eD encP l).map (·.2))), .own (ks.map nD), .dic (eD nD ns), .no, s5, s6, s7, .own ((rowsOf E (ks.map (beh E mv an))).map rD), s9] := rfl
      rw [s_dTupOf, s_dSqN, s_dLc, ei, T.bind_ok, if_pos zk, ew, hA, T.bind_ok, T.bind_ok]
      exact if_pos (by show ((ansOf (ks.map (beh E mv an))).map nD).length ≤ _; rw [List.length_map]; exact z2)
    rw [s_gRet, s_dTup]
    simp only [s_dCons, c1, c2, c3, s_dNil, T.bind_ok]
    rfl
  refine ⟨ks.map (beh E mv an), ?_, hB⟩
  have e0 : env0 10 [sD3 E mv an] = [.sh (sD3 E mv an), .no, .no, .no, .no, .no, .no, .no, .no, .no] := rfl
  have g0 : gPar3 1 2 3 (dSh (dCall 1 x_apart (dCons (dV 0) dNil))) (dOwn (dLst dNil)) dNewD [.sh (sD3 E mv an), .no, .no, .no, .no, .no, .no, .no, .no, .no] = .ok (.nx [.sh (sD3 E mv an), .sh (.dic ((eD encP l).map (·.1)) ((eD encP l).map (·.2))), .own [], .dic [], .no, .no, .no, .no, .no, .no]) := by
    simp [a1]
  have ee : dItems (dSq (dCall 1 x_reached (dCons (dV 0) dNil))) [.sh (sD3 E mv an), .sh (.dic ((eD encP l).map (·.1)) ((eD encP l).map (·.2))), .own [], .dic [], .no, .no, .no, .no, .no, .no] = .ok (rows.map (rowD nD)) := by
    simp [r1, Sq.xs]
  rw [x_lleast, bodyT_eq, e0]
  unfold y_lleast
  rw [seq_nx g0, seq_nx (by rw [s_gFor, ee, T.ex_ok]; exact h1), seq_nx h8, eret]
  rfl
end
end
end AL
namespace AL
open PySem
noncomputable section
/-! ## what the least summary is worth -/
section
variable {E : Nat} {mv mv2 : List (List Nat)} {an an2 : List Nat} {B B2 : List Beh}
def Lst (E : Nat) (mv : List (List Nat)) (an : List Nat) (B : List Beh) : Prop := Grown E (beh E mv an 0) B B.length
theorem lst_ex (v : Val E mv an) (h : mv.length < 100) : ∃ B, Lst E mv an B := (least_grown v h).elim fun B h => ⟨B, h.1⟩
theorem q_least (v : Val E mv an) (h : mv.length < 100) (hB : Lst E mv an B) : x_least_in [sD3 E mv an] = .ok (sD3 E (rowsOf E B) (ansOf B)) := by
  obtain ⟨B', h1, h2, h3, _⟩ := least_grown v h
  obtain rfl := hB.uniq h1
  rw [q_least_in v h, h2, h3]
theorem q_lle (v : Val E mv an) (h : mv.length < 100) (hB : Lst E mv an B) : x_lleast [sD3 E mv an] = .ok (sD3 E (rowsOf E B) (ansOf B)) := by
  obtain ⟨B', h1, h2⟩ := q_lleast v (by omega)
  obtain rfl := hB.uniq h2
  exact h1
theorem lst_val (v : Val E mv an) (h : mv.length < 100) (hB : Lst E mv an B) : Val E (rowsOf E B) (ansOf B) ∧ (rowsOf E B).length ≤ mv.length ∧ ∀ x ∈ ansOf B, x ∈ an := by
  obtain ⟨B', h1, h2, h3, h4⟩ := least_grown v h
  obtain rfl := hB.uniq h1
  have := least_val v h
  rw [h2, h3] at this
  refine ⟨this.1, this.2, fun x hx => ?_⟩
  obtain ⟨β, hβ, rfl⟩ := List.mem_map.mp hx
  obtain ⟨s, hs, rfl⟩ := h4 β hβ
  rw [beh_nil]
  exact List.mem_of_getElem? (an_at v hs)
theorem Grown.first {β0 : Beh} {n : Nat} (h : Grown E β0 B n) : B[0]? = some β0 := by
  induction h with
  | start => rfl
  | @next B n β h e ih =>
    obtain ⟨r, er⟩ := allK_pre (succs E β) B
    rw [er, List.getElem?_append_left (List.getElem?_eq_some_iff.mp ih).1]
    exact ih
theorem Grown.shut {β0 : Beh} {n : Nat} (h : Grown E β0 B n) : ∀ i β, i < n → B[i]? = some β → ∀ e, e < E → der e β ∈ B := by
  induction h with
  | start => intro i β hi; omega
  | @next B n β h e ih =>
    intro i γ hi hg ev he
    obtain ⟨r, er⟩ := allK_pre (succs E β) B
    have hn : n < B.length := (List.getElem?_eq_some_iff.mp e).1
    rw [er, List.getElem?_append_left (by omega)] at hg
    by_cases hin : i < n
    · exact allK_mem.mpr (.inl (ih i γ hin hg ev he))
    · have : i = n := by omega
      subst this
      rw [e] at hg
      cases hg
      exact allK_mem.mpr (.inr (List.mem_map.mpr ⟨ev, List.mem_range.mpr he, rfl⟩))
theorem rows_step {i : Nat} {β : Beh} (h : B[i]? = some β) {e : Nat} (he : e < E) : stepM (rowsOf E B) i e = plc (der e β) B := by
  have h1 : (rowsOf E B)[i]? = some ((List.range E).map fun e => plc (der e β) B) := by
    unfold rowsOf
    rw [List.getElem?_map, h]
    rfl
  have h2 : (rowsOf E B).getD i [] = (List.range E).map fun e => plc (der e β) B := by rw [List.getD_eq_getElem?_getD, h1]; rfl
  unfold stepM
  rw [h2, List.getD_eq_getElem?_getD, List.getElem?_map, List.getElem?_range he]
  rfl
theorem lst_at (hB : Lst E mv an B) : ∀ (w : List Nat), (∀ e ∈ w, e < E) → ∀ i β, B[i]? = some β → ansM (ansOf B) (ledM (rowsOf E B) i w) = β w
  | [], _, i, β, h => by
    show ansM (ansOf B) i = β []
    unfold ansM ansOf
    rw [List.getD_eq_getElem?_getD, List.getElem?_map, h]
    rfl
  | e :: w, hw, i, β, h => by
    have he := hw e (by simp)
    show ansM (ansOf B) (ledM (rowsOf E B) (stepM (rowsOf E B) i e) w) = β (e :: w)
    rw [rows_step h he]
    have hm := hB.shut i β (List.getElem?_eq_some_iff.mp h).1 h e he
    exact lst_at hB w (fun x hx => hw x (by simp [hx])) _ _ (plc_get hm)
theorem lst_beh (hB : Lst E mv an B) : beh E (rowsOf E B) (ansOf B) 0 = beh E mv an 0 := by
  rw [beh_iff]
  intro w hw
  rw [lst_at hB w hw 0 _ hB.first, beh_at hw]
theorem lst_self (hB : Lst E mv an B) : Lst E (rowsOf E B) (ansOf B) B := by
  unfold Lst
  rw [lst_beh hB]
  exact hB
theorem lst_same (hB : Lst E mv an B) (hB2 : Lst E mv2 an2 B2) : (rowsOf E B = rowsOf E B2 ∧ ansOf B = ansOf B2) ↔ beh E mv an 0 = beh E mv2 an2 0 := by
  constructor
  · rintro ⟨h1, h2⟩
    rw [← lst_beh hB, ← lst_beh hB2, h1, h2]
  · intro h
    have : B = B2 := by
      unfold Lst at hB
      rw [h] at hB
      exact hB.uniq hB2
    rw [this]
    exact ⟨rfl, rfl⟩
theorem lst_of (hB : Lst E mv an B) (h : beh E mv2 an2 0 = beh E mv an 0) : Lst E mv2 an2 B := by
  unfold Lst
  rw [h]
  exact hB
/-! ### are two alike -/
theorem part_none {r : Option (List Nat)} (h : Res E (stepP mv mv2) (goalP an an2) [((0, 0), [])] 0 r) (v : Val E mv an) (v2 : Val E mv2 an2) : (optR r).isNon = decide (beh E mv an 0 = beh E mv2 an2 0) := by
  cases r with
  | none =>
    have : beh E mv an 0 = beh E mv2 an2 0 := beh_iff.mpr fun w hw => by
      refine Classical.byContradiction fun hn => ?_
      obtain ⟨u, h1, _⟩ := h.least (Bfs.start (0, 0)) ⟨_, List.mem_singleton.mpr rfl, rfl, rfl⟩ w hw (by rw [goP]; simpa [goalP] using hn)
      cases h1
    rw [decide_eq_true this]
    rfl
  | some w =>
    have ok := part_ok v v2 h
    have : ¬ beh E mv an 0 = beh E mv2 an2 0 := fun e => ok.ne (beh_iff.mp e w ok.ev)
    rw [decide_eq_false this]
    rfl
/-! ### equal as values -/
theorem eqvAll_map {α : Type} [DecidableEq α] {f : α → D} (hf : ∀ a b, PyData.eqv (f a).py (f b).py = decide (a = b)) : ∀ l m : List α, PyData.eqvAll (D.pys (l.map f)) (D.pys (m.map f)) = decide (l = m)
  | [], [] => by simp [D.pys, PyData.eqvAll]
  | [], _ :: _ => by simp [D.pys, PyData.eqvAll]
  | _ :: _, [] => by simp [D.pys, PyData.eqvAll]
  | a :: l, b :: m => by
    simp only [List.map_cons, D.pys, PyData.eqvAll, hf, eqvAll_map hf l m]
    rw [Bool.eq_iff_iff]
    simp
theorem eqv_rD (a b : List Nat) : PyData.eqv (rD a).py (rD b).py = decide (a = b) := by
  simp only [rD, D.py, PyData.eqv, eqvAll_map eqv_nD]
theorem eqv_sD3 : PyData.eqv (sD3 E mv an).py (sD3 E mv2 an2).py = decide (mv = mv2 ∧ an = an2) := by
  have h1 : PyData.eqv (D.tup (mv.map rD)).py (D.tup (mv2.map rD)).py = decide (mv = mv2) := by simp only [D.py, PyData.eqv, eqvAll_map eqv_rD]
  show PyData.eqv (D.tup [nD E, .tup (mv.map rD), rD an]).py (D.tup [nD E, .tup (mv2.map rD), rD an2]).py = _
  rw [show (D.tup [nD E, .tup (mv.map rD), rD an]).py = PyData.tuple [(nD E).py, (D.tup (mv.map rD)).py, (rD an).py] from by simp only [D.py, D.pys],
    show (D.tup [nD E, .tup (mv2.map rD), rD an2]).py = PyData.tuple [(nD E).py, (D.tup (mv2.map rD)).py, (rD an2).py] from by simp only [D.py, D.pys]]
  simp only [PyData.eqv, PyData.eqvAll, eqv_nD, h1, eqv_rD]
  rw [Bool.eq_iff_iff]
  simp
theorem plain_sD3 : (sD3 E mv an).plain = true := by
  have h1 : D.plains (mv.map rD) = true := plains_iff.mpr fun d hd => by
    obtain ⟨x, _, rfl⟩ := List.mem_map.mp hd
    exact plain_rD x
  simp only [sD3, D.plain, D.plains, h1, plain_rD, nD, Bool.and_self]
theorem depth_sD3 : (sD3 E mv an).py.depth ≤ 3 := by
  rw [dep_py]
  have h1 := deps_rD mv
  have h2 := dep_rD an
  simp only [sD3, D.dep, D.deps, dep_nD]
  omega
theorem opEq_sD3 : opEq (sD3 E mv an) (sD3 E mv2 an2) = .ok (.bl (decide (mv = mv2 ∧ an = an2))) := by
  have d1 := depth_sD3 (E := E) (mv := mv) (an := an)
  have hd : min (sD3 E mv an).py.depth (sD3 E mv2 an2).py.depth ≤ 64 := by omega
  show (if _ ∧ _ ∧ _ then _ else _) = _
  rw [if_pos ⟨plain_sD3, plain_sD3, hd⟩, eqv_sD3]
  rfl
/-! ### twofold summaries -/
structure Two (E : Nat) (mv : List (List Nat)) (an : List Nat) (mv2 : List (List Nat)) (an2 : List Nat) : Prop where
  row : ∀ i, i < 2 * mv.length → ∀ e, e < E → stepM mv2 i e < 2 * mv.length ∧ stepM mv2 i e % mv.length = stepM mv (i % mv.length) e
  ans : ∀ i, i < 2 * mv.length → ansM an2 i = ansM an (i % mv.length)
theorem Two.led (t : Two E mv an mv2 an2) : ∀ (w : List Nat), (∀ e ∈ w, e < E) → ∀ i, i < 2 * mv.length → ansM an2 (ledM mv2 i w) = ansM an (ledM mv (i % mv.length) w)
  | [], _, i, hi => t.ans i hi
  | e :: w, hw, i, hi => by
    obtain ⟨h1, h2⟩ := t.row i hi e (hw e (by simp))
    show ansM an2 (ledM mv2 (stepM mv2 i e) w) = ansM an (ledM mv (stepM mv (i % mv.length) e) w)
    rw [← h2]
    exact Two.led t w (fun x hx => hw x (by simp [hx])) _ h1
theorem Two.beh (t : Two E mv an mv2 an2) (hp : 0 < mv.length) : AL.beh E mv2 an2 0 = AL.beh E mv an 0 := by
  rw [beh_iff]
  intro w hw
  have := t.led w hw 0 (by omega)
  rwa [Nat.zero_mod] at this
end
/-! ### a comprehension with draws, place by place -/
theorem run_lc2 {fb : D → DEnv → T DEnv} {fe : DEnv → T D} {ρ : DEnv} {c : Nat} {R : D → D → Prop} : ∀ {xs : List D}, (∀ x ∈ xs, ∃ ρ1, fb x ρ = .ok ρ1 ∧ run (fe ρ1) c (R x)) → run (lcGo fb dYes fe ρ xs) (c * xs.length) fun ys => ys.length = xs.length ∧ ∀ (i : Nat) x y, xs[i]? = some x → ys[i]? = some y → R x y
  | [], _ => run_ok ⟨rfl, fun _ _ _ h => by simp at h⟩
  | x :: r, h => by
    obtain ⟨ρ1, e1, e2⟩ := h x (by simp)
    have ih := run_lc2 (xs := r) (fun y hy => h y (by simp [hy]))
    unfold lcGo
    rw [e1, T.nox_ok, T.bind_ok, show (dYes ρ1).nox = .ok true from rfl, T.bind_ok, if_pos rfl]
    have e3 : c * (x :: r).length = c + c * r.length := by rw [List.length_cons, Nat.mul_succ]; omega
    rw [e3]
    refine run_bind (run_nox e2) fun y hy => run_bind0 ih fun ys q => run_ok ⟨by rw [List.length_cons, List.length_cons, q.1], fun i a b ha hb => ?_⟩
    cases i with
    | zero =>
      cases ha
      cases hb
      exact hy
    | succ i => exact q.2 i a b (by simpa using ha) (by simpa using hb)
theorem run_tup_items2 {ρ : DEnv} {c : Nat} {fi : DEnv → T (List D)} {fb : D → DEnv → T DEnv} {fe : DEnv → T D} {vs : List Nat} {xs : List D} {R : D → D → Prop} (hf : fi ρ = .ok xs) (hn : xs.length ≤ 100000) (h : ∀ x ∈ xs, ∃ ρ1, fb x (dWipe ρ vs) = .ok ρ1 ∧ run (fe ρ1) c (R x)) :
    run (dTupOf (dSqN (dLc fi fb dYes fe vs)) ρ) (c * xs.length) fun d => ∃ ds, d = .tup ds ∧ ds.length = xs.length ∧ ∀ (i : Nat) x y, xs[i]? = some x → ds[i]? = some y → R x y := by
  rw [s_dTupOf, s_dSqN, s_dLc, hf, T.bind_ok, if_pos (szl (by omega))]
  refine run_bind0 (run_bind0 (run_lc2 h) fun ys hy => run_ok (Q := fun s => ∃ ys : List D, s = Sq.l ys ∧ ys.length = xs.length ∧ ∀ (i : Nat) x y, xs[i]? = some x → ys[i]? = some y → R x y) ⟨ys, rfl, hy.1, hy.2⟩) fun s ⟨ys, e, h1, h2⟩ => ?_
  subst e
  rw [if_pos (szl (by show ys.length ≤ _; omega))]
  exact run_ok ⟨ys, rfl, h1, h2⟩
end
end AL
namespace AL
open PySem
noncomputable section
/-! ## all short logs; twofold summaries -/
def loX : DEnv → T Fl := (gExtend 5 (dSqN (dLc (dRange1 (dV 0)) (bName 7) dYes (dB opAdd (dV 6) (dTup (dCons (dV 7) dNil))) [7])))
def loT : DEnv → T Fl :=
  (gSeq (gSetN 5 (dLst dNil))
  (gSeq (gFor (dItems (dSq (dV 2))) (bName 6)
  loX)
  (gSeq (gFreeze 5 (gSet 2 (dV 5)))
  (gExtend 3 (dSqV 2)))))
def y_logs : DEnv → T Fl :=
  (gSeq (gPar 2 3 (dSh (dFz (dLst (dCons (dTup dNil) dNil)))) (dOwn (dLst (dCons (dTup dNil) dNil))))
  (gSeq (gFor (dRange1 (dV 1)) (bName 4)
  loT)
  (gFreeze 3 (gRet (dV 3)))))
def x_logs : List D → T D := bodyT 8 y_logs
def LogOk (E i : Nat) (w : List Nat) : Prop := (∀ e ∈ w, e < E) ∧ w.length ≤ i
theorem rD_snoc (w : List Nat) (e : Nat) (h : w.length + 1 ≤ sizeLine) : opAdd (rD w) (.tup [nD e]) = .ok (rD (w ++ [e])) := by
  unfold rD
  rw [opAdd_tup, if_pos (by rw [List.length_map]; exact h), List.map_append]
  rfl
theorem lo_in {E i : Nat} (hE : E ≤ 4) (hi : i ≤ 8) {latest : List (List Nat)} (hl : ∀ w ∈ latest, LogOk E i w) (hn : latest.length ≤ 65536) (n : D) (s3 s4 s6 s7 : AL.Slot) :
    ∃ (longer : List (List Nat)) (t6 t7 : AL.Slot), forGo (bName 6) loX (latest.map rD) [.sh (nD E), .sh n, .sh (.lst (latest.map rD)), s3, s4, .own [], s6, s7] = .ok (.nx [.sh (nD E), .sh n, .sh (.lst (latest.map rD)), s3, s4, .own (longer.map rD), t6, t7]) ∧ longer.length = latest.length * E ∧ ∀ w ∈ longer, LogOk E (i + 1) w := by
  have hr := range_nD (n := E) (by omega)
  obtain ⟨ρ', h1, longer, t6, t7, rfl, h2, h3⟩ := for_steps (fb := bName 6) (g := loX) (fun j ρ => ∃ (longer : List (List Nat)) (t6 t7 : AL.Slot), ρ = [.sh (nD E), .sh n, .sh (.lst (latest.map rD)), s3, s4, .own (longer.map rD), t6, t7] ∧ longer.length = j * E ∧ ∀ w ∈ longer, LogOk E (i + 1) w)
    (xs := latest.map rD) (ρ := [.sh (nD E), .sh n, .sh (.lst (latest.map rD)), s3, s4, .own [], s6, s7]) ⟨[], _, _, rfl, by simp, by simp⟩ fun j y ρ hy hI => by
    obtain ⟨longer, t6, t7, rfl, h2, h3⟩ := hI
    have hj : j < latest.length := by have := (List.getElem?_eq_some_iff.mp hy).1; simpa using this
    have e0 : latest[j]? = some latest[j] := List.getElem?_eq_getElem hj
    generalize latest[j] = w at e0
    rw [List.getElem?_map, e0] at hy
    cases hy
    obtain ⟨w1, w2⟩ := hl w (List.mem_of_getElem? e0)
    have hc : lcGo (bName 7) dYes (dB opAdd (dV 6) (dTup (dCons (dV 7) dNil))) [.sh (nD E), .sh n, .sh (.lst (latest.map rD)), s3, s4, .own (longer.map rD), .sh (rD w), .no] ((List.range E).map nD) = .ok (((List.range E).map fun e => w ++ [e]).map rD) := by
      rw [lc_map (g := fun d => match d with | .int e => rD (w ++ [e.toNat]) | _ => .non)]
      · rw [List.map_map, List.map_map]; rfl
      · intro y hy
        obtain ⟨e, he, rfl⟩ := List.mem_map.mp hy
        have := rD_snoc w e (szl (by omega))
        exact ⟨_, rfl, by simp [this]; rfl⟩
    have zE : ((List.range E).map nD).length ≤ sizeLine := szl (by rw [List.length_map, List.length_range]; omega)
    have jE : j * E ≤ 65536 * 4 := Nat.mul_le_mul (by omega) hE
    have zz : (longer.map rD).length + (((List.range E).map fun e => w ++ [e]).map rD).length ≤ sizeLine := szl (by simp only [List.length_map, List.length_range]; omega)
    refine ⟨_, rfl, [.sh (nD E), .sh n, .sh (.lst (latest.map rD)), s3, s4, .own ((longer ++ (List.range E).map fun e => w ++ [e]).map rD), .sh (rD w), t7], .inl ?_, _, _, _, rfl, ?_, fun u hu => ?_⟩
    · show loX [.sh (nD E), .sh n, .sh (.lst (latest.map rD)), s3, s4, .own (longer.map rD), .sh (rD w), t7] = _
      unfold loX
      show ((dSqN _ _).ex _ _) = _
      have ei : dRange1 (dV 0) [.sh (nD E), .sh n, .sh (.lst (latest.map rD)), s3, s4, .own (longer.map rD), .sh (rD w), t7] = .ok ((List.range E).map nD) := hr
      have ew : dWipe [.sh (nD E), .sh n, .sh (.lst (latest.map rD)), s3, s4, .own (longer.map rD), .sh (rD w), t7] [7] = [.sh (nD E), .sh n, .sh (.lst (latest.map rD)), s3, s4, .own (longer.map rD), .sh (rD w), .no] := rfl
      rw [s_dSqN, s_dLc, ei, T.bind_ok, if_pos zE, ew, hc, T.bind_ok, T.ex_ok]
      show (if _ then _ else _) = _
      rw [if_pos zz, List.map_append]
      rfl
    · rw [List.length_append, h2, List.length_map, List.length_range, Nat.succ_mul]
    · rcases List.mem_append.mp hu with z | z
      · exact h3 u z
      · obtain ⟨e, he, rfl⟩ := List.mem_map.mp z
        refine ⟨fun x hx => ?_, by simp; omega⟩
        rcases List.mem_append.mp hx with q | q
        · exact w1 x q
        · rw [List.mem_singleton.mp q]; exact List.mem_range.mp he
  rw [List.length_map] at h2
  exact ⟨longer, t6, t7, h1, h2, h3⟩
theorem q_logs {E L : Nat} (hE : E ≤ 4) (hL : L ≤ 8) : ∃ ls : List (List Nat), x_logs [nD E, nD L] = .ok (.lst (ls.map rD)) ∧ ∀ w ∈ ls, LogOk E L w := by
  have hr := range_nD (n := L) (by omega)
  obtain ⟨ρ', h1, latest, found, s4, s5, s6, s7, rfl, k1, k2, k3, k4⟩ := for_steps (fb := bName 4) (g := loT)
    (fun i ρ => ∃ (latest found : List (List Nat)) (s4 s5 s6 s7 : AL.Slot), ρ = [.sh (nD E), .sh (nD L), .sh (.lst (latest.map rD)), .own (found.map rD), s4, s5, s6, s7] ∧ (∀ w ∈ latest, LogOk E i w) ∧ (∀ w ∈ found, LogOk E i w) ∧ latest.length ≤ 4 ^ i ∧ found.length ≤ 4 ^ (i + 1))
    (xs := (List.range L).map nD) (ρ := [.sh (nD E), .sh (nD L), .sh (.lst ([[]].map rD)), .own ([[]].map rD), .no, .no, .no, .no])
    ⟨[[]], [[]], _, _, _, _, rfl, by simp [LogOk], by simp [LogOk], by simp, by simp⟩ fun i y ρ hy hI => by
    obtain ⟨latest, found, s4, s5, s6, s7, rfl, k1, k2, k3, k4⟩ := hI
    have hi : i < L := by have := (List.getElem?_eq_some_iff.mp hy).1; simpa using this
    rw [List.getElem?_map, List.getElem?_range hi] at hy
    cases hy
    have p4 : 4 ^ i ≤ 4 ^ 7 := Nat.pow_le_pow_right (by decide) (by omega)
    have e1 : 4 ^ (i + 1) = 4 ^ i * 4 := Nat.pow_succ ..
    have e2 : 4 ^ (i + 1 + 1) = 4 ^ (i + 1) * 4 := Nat.pow_succ ..
    obtain ⟨longer, t6, t7, g1, g2, g3⟩ := lo_in hE (by omega : i ≤ 8) k1 (by omega) (nD L) (.own (found.map rD)) (.sh (nD i)) s6 s7
    have jE : latest.length * E ≤ 4 ^ i * 4 := Nat.mul_le_mul k3 hE
    have z1 : (found.map rD).length + (longer.map rD).length ≤ sizeLine := szl (by rw [List.length_map, List.length_map]; omega)
    refine ⟨_, rfl, [.sh (nD E), .sh (nD L), .sh (.lst (longer.map rD)), .own ((found ++ longer).map rD), .sh (nD i), .sh (.lst (longer.map rD)), t6, t7], .inl ?_, _, _, _, _, _, _, rfl, g3, fun w hw => ?_, by rw [g2]; omega, ?_⟩
    · show loT [.sh (nD E), .sh (nD L), .sh (.lst (latest.map rD)), .own (found.map rD), .sh (nD i), s5, s6, s7] = _
      have h0 : gSetN 5 (dLst dNil) [.sh (nD E), .sh (nD L), .sh (.lst (latest.map rD)), .own (found.map rD), .sh (nD i), s5, s6, s7] = .ok (.nx [.sh (nD E), .sh (nD L), .sh (.lst (latest.map rD)), .own (found.map rD), .sh (nD i), .own [], s6, s7]) := by simp
      unfold loT
      have h6 : gFor (dItems (dSq (dV 2))) (bName 6) loX [.sh (nD E), .sh (nD L), .sh (.lst (latest.map rD)), .own (found.map rD), .sh (nD i), .own [], s6, s7] = .ok (.nx [.sh (nD E), .sh (nD L), .sh (.lst (latest.map rD)), .own (found.map rD), .sh (nD i), .own (longer.map rD), t6, t7]) := g1
      rw [seq_nx h0, seq_nx h6]
      have h5 : gFreeze 5 (gSet 2 (dV 5)) [.sh (nD E), .sh (nD L), .sh (.lst (latest.map rD)), .own (found.map rD), .sh (nD i), .own (longer.map rD), t6, t7] = .ok (.nx [.sh (nD E), .sh (nD L), .sh (.lst (longer.map rD)), .own (found.map rD), .sh (nD i), .sh (.lst (longer.map rD)), t6, t7]) := rfl
      rw [seq_nx h5]
      show (if _ then _ else _) = _
      rw [if_pos z1, List.map_append]
      rfl
    · rcases List.mem_append.mp hw with z | z
      · obtain ⟨a, b⟩ := k2 w z
        exact ⟨a, by omega⟩
      · exact g3 w z
    · rw [List.length_append, g2]
      omega
  rw [List.length_map, List.length_range] at k2
  refine ⟨found, ?_, k2⟩
  have e0 : env0 8 [nD E, nD L] = [.sh (nD E), .sh (nD L), .no, .no, .no, .no, .no, .no] := rfl
  have g0 : gPar 2 3 (dSh (dFz (dLst (dCons (dTup dNil) dNil)))) (dOwn (dLst (dCons (dTup dNil) dNil))) [.sh (nD E), .sh (nD L), .no, .no, .no, .no, .no, .no] = .ok (.nx [.sh (nD E), .sh (nD L), .sh (.lst ([[]].map rD)), .own ([[]].map rD), .no, .no, .no, .no]) := by simp [rD]
  have ee : dRange1 (dV 1) [.sh (nD E), .sh (nD L), .sh (.lst ([[]].map rD)), .own ([[]].map rD), .no, .no, .no, .no] = .ok ((List.range L).map nD) := hr
  rw [x_logs, bodyT_eq, e0]
  unfold y_logs
  rw [seq_nx g0, seq_nx (by rw [s_gFor, ee, T.ex_ok]; exact h1)]
  rfl
/-! ### a twofold summary -/
def twX : DEnv → T Fl :=
  (gSeq (gAppend 3 (dTupOf (dSqN (dLc (dItems (dSq (dIx (dSq (dIx (dSqV 1) (dC (.int 1)))) (dV 6)))) (bName 7) dYes (dB opAdd (dV 7) (dB opMul (dV 2) (dCall 2 fTake (dCons (dV 0) (dCons (dC (.int 2)) dNil))))) [7]))))
  (gAppend 4 (dIx (dSq (dIx (dSqV 1) (dC (.int 2)))) (dV 6))))
def y_twofold : DEnv → T Fl :=
  (gSeq (gPar3 2 3 4 (dSh (dLen (dSq (dIx (dSqV 1) (dC (.int 1)))))) (dOwn (dLst dNil)) (dOwn (dLst dNil)))
  (gSeq (gFor (dRange1 (dC (.int 2))) (bName 5)
  (gFor (dRange1 (dV 2)) (bName 6)
  twX))
  (gSeq (gAppend 3 (dTupOf (dSqN (dLc (dRange1 (dIx (dSqV 1) (dC (.int 0)))) (bName 8) dYes (dCall 2 fTake (dCons (dV 0) (dCons (dB opMul (dC (.int 2)) (dV 2)) dNil))) [8]))))
  (gRet (dTup (dCons (dIx (dSqV 1) (dC (.int 0))) (dCons (dTupOf (dSqV 3)) (dCons (dTupOf (dSqN (dCat (dSqV 4) (dSqN (dLst (dCons (dCall 2 fTake (dCons (dV 0) (dCons (dC (.int 3)) dNil))) dNil)))))) dNil))))))))
def x_twofold : List D → T D := bodyT 9 y_twofold
section
variable {E : Nat} {mv : List (List Nat)} {an : List Nat}
/-- the rows put together so far -/
structure TwoK (E : Nat) (mv : List (List Nat)) (an : List Nat) (rows : List (List Nat)) (as : List Nat) (k : Nat) : Prop where
  rl : rows.length = k
  al : as.length = k
  row : ∀ i r, rows[i]? = some r → r.length = E ∧ ∀ e, e < E → r.getD e 0 < 2 * mv.length ∧ r.getD e 0 % mv.length = stepM mv (i % mv.length) e
  ans : ∀ i, i < k → as.getD i 0 = ansM an (i % mv.length)
theorem run_twX (v : Val E mv an) (hE : E ≤ 6) (hm : mv.length ≤ 20) {rows : List (List Nat)} {as : List Nat} {n : Nat} (h : TwoK E mv an rows as n) (hn : n ≤ 1000) {k : Nat} (hk : k < mv.length) (hnk : n % mv.length = k) (s5 s7 s8 : AL.Slot) :
    run (twX [.sh .well, .sh (sD3 E mv an), .sh (nD mv.length), .own (rows.map rD), .own (as.map nD), s5, .sh (nD k), s7, s8]) 6 fun fl => ∃ rows' as', TwoK E mv an rows' as' (n + 1) ∧ fl = .nx [.sh .well, .sh (sD3 E mv an), .sh (nD mv.length), .own (rows'.map rD), .own (as'.map nD), s5, .sh (nD k), s7, s8] := by
  have hrow := rowAt_get hk
  have hv := v.row _ hrow.2
  have ei : dItems (dSq (dIx (dSq (dIx (dSqV 1) (dC (.int 1)))) (dV 6))) [.sh .well, .sh (sD3 E mv an), .sh (nD mv.length), .own (rows.map rD), .own (as.map nD), s5, .sh (nD k), s7, s8] = .ok ((rowAt mv k).map nD) := by
    have e1 : opIx (.t (mv.map rD)) (nD k) = .ok (rD (rowAt mv k)) := opIx_t (i := k) (by rw [List.getElem?_map, hrow.1]; rfl)
    simp only [nD, rD] at e1
    simp [sD3, nD, rD, e1, Sq.xs]
  have rl := h.rl
  have al := h.al
  refine run_mono (c := 1 * ((rowAt mv k).map nD).length + 0) ?_ (by rw [List.length_map, hv.1]; omega) fun _ z => z
  unfold twX
  refine run_seq (P := fun ρ => ∃ q : List Nat, q.length = E ∧ (∀ e, e < E → q.getD e 0 < 2 * mv.length ∧ q.getD e 0 % mv.length = stepM mv k e) ∧ ρ = [.sh .well, .sh (sD3 E mv an), .sh (nD mv.length), .own ((rows ++ [q]).map rD), .own (as.map nD), s5, .sh (nD k), s7, s8]) ?_ ?_
  · refine run_gAppend (xs := rows.map rD) rfl (by rw [List.length_map]; omega) (run_tup_items2 (R := fun x d => ∃ y z : Nat, x = nD y ∧ d = nD z ∧ (y < mv.length → z < 2 * mv.length ∧ z % mv.length = y)) ei (by rw [List.length_map, hv.1]; omega) fun x hx => ?_) ?_
    · obtain ⟨y, hy, rfl⟩ := List.mem_map.mp hx
      refine ⟨_, rfl, ?_⟩
      have hy2 := hv.2 y hy
      refine run_mono (run_dB (c1 := 0) (c2 := 1) (P := fun d => d = nD y) (Q := fun d => ∃ b : Nat, b < 2 ∧ d = nD (mv.length * b)) (run_pure (by rfl)) (run_mono (run_dB (c1 := 0) (c2 := 1) (P := fun d => d = nD mv.length) (run_pure (by rfl)) (run_below (m := 2) (by decide) (by decide) rfl rfl) fun a b ha hb => ?_) (Nat.le_refl _) fun _ z => z) fun a b ha hb => ?_) (Nat.le_refl _) fun _ z => z
      · obtain ⟨b, rfl, hb⟩ := hb
        subst ha
        exact run_eq (opMul_n (by omega)) ⟨b, hb, rfl⟩
      · obtain ⟨b, hb, rfl⟩ := hb
        subst ha
        refine run_eq (opAdd_n y (mv.length * b)) ⟨y, _, rfl, rfl, fun _ => ⟨?_, ?_⟩⟩
        · have : mv.length * b ≤ mv.length * 1 := Nat.mul_le_mul_left _ (by omega)
          omega
        · rw [Nat.add_mul_mod_self_left, Nat.mod_eq_of_lt hy2]
    · rintro d ⟨ds, rfl, hl, hp⟩
      have hex : ∃ q : List Nat, ds = q.map nD := by
        refine (nats_of (m := 2 * mv.length) fun y hy => ?_).elim fun q h => ⟨q, h.1⟩
        obtain ⟨i, hi⟩ := List.mem_iff_getElem?.mp hy
        have hlt : i < ((rowAt mv k).map nD).length := by rw [← hl]; exact (List.getElem?_eq_some_iff.mp hi).1
        obtain ⟨a, b, e1, e2, e3⟩ := hp i _ y (List.getElem?_eq_getElem hlt) hi
        rw [List.getElem_map] at e1
        have : a = (rowAt mv k)[i]'(by simpa using hlt) := by
          have := e1
          simp only [nD, D.int.injEq] at this
          omega
        exact ⟨b, e2, (e3 (by rw [this]; exact hv.2 _ (List.getElem_mem _))).1⟩
      obtain ⟨q, rfl⟩ := hex
      rw [List.length_map, List.length_map, hv.1] at hl
      refine ⟨_, rfl, q, hl, fun e he => ?_, by rw [List.map_append]; rfl⟩
      have hq : q[e]? = some (q.getD e 0) := by
        rw [List.getD_eq_getElem?_getD, List.getElem?_eq_getElem (by omega)]
        rfl
      obtain ⟨r, r1, r2, r3⟩ := v.step hk he
      rw [hrow.1] at r1
      cases r1
      obtain ⟨a, b, e1, e2, e3⟩ := hp e (nD (stepM mv k e)) (nD (q.getD e 0)) (by rw [List.getElem?_map, r2]; rfl) (by rw [List.getElem?_map, hq]; rfl)
      have ea : a = stepM mv k e := by simp only [nD, D.int.injEq] at e1; omega
      have eb : b = q.getD e 0 := by simp only [nD, D.int.injEq] at e2; omega
      rw [← eb]
      rw [ea] at e3
      exact e3 r3
  · rintro ρ ⟨q, hq1, hq2, rfl⟩
    have ea := an_get v hk
    refine run_gAppend (xs := as.map nD) rfl (by rw [List.length_map]; omega) (run_pure (a := nD (ansM an k)) ?_) ?_
    · simp only [nD] at ea
      simp [sD3, rD, nD, ea]
    · rintro d rfl
      refine ⟨rows ++ [q], as ++ [ansM an k], ⟨by simp [rl], by simp [al], fun i r hr => ?_, fun i hi => ?_⟩, ?_⟩
      · by_cases hi : i < rows.length
        · rw [List.getElem?_append_left hi] at hr
          exact h.row i r hr
        · have hlt := (List.getElem?_eq_some_iff.mp hr).1
          rw [List.length_append, List.length_singleton] at hlt
          have ei : i = rows.length := by omega
          rw [ei, List.getElem?_append_right (Nat.le_refl _), Nat.sub_self] at hr
          cases hr
          rw [ei, rl, hnk]
          exact ⟨hq1, hq2⟩
      · by_cases hin : i < n
        · rw [List.getD_eq_getElem?_getD, List.getElem?_append_left (by omega), ← List.getD_eq_getElem?_getD]
          exact h.ans i hin
        · have : i = n := by omega
          subst this
          rw [List.getD_eq_getElem?_getD, List.getElem?_append_right (by omega), al, Nat.sub_self, hnk]
          rfl
      · rw [List.map_append, List.map_append]
        rfl
theorem run_copy (v : Val E mv an) (hE : E ≤ 6) (hm : mv.length ≤ 20) {rows : List (List Nat)} {as : List Nat} {c : Nat} (hc : c < 2) (h : TwoK E mv an rows as (c * mv.length)) (s5 s6 s7 s8 : AL.Slot) :
    run (gFor (dRange1 (dV 2)) (bName 6) twX [.sh .well, .sh (sD3 E mv an), .sh (nD mv.length), .own (rows.map rD), .own (as.map nD), s5, s6, s7, s8]) (6 * mv.length) fun fl => ∃ rows' as' s6', TwoK E mv an rows' as' ((c + 1) * mv.length) ∧ fl = .nx [.sh .well, .sh (sD3 E mv an), .sh (nD mv.length), .own (rows'.map rD), .own (as'.map nD), s5, s6', s7, s8] := by
  have hr : rangeT (nD mv.length) = .ok ((List.range mv.length).map nD) := range_nD (by omega)
  have hc20 : c * mv.length ≤ 1 * 20 := Nat.mul_le_mul (by omega) hm
  refine run_for0 (xs := (List.range mv.length).map nD) (by rw [s_dRange1]; exact hr) ?_
  have r := run_for (fb := bName 6) (g := twX) (c := 6) (fun i ρ => ∃ rows' as' s6', TwoK E mv an rows' as' (c * mv.length + i) ∧ ρ = [.sh .well, .sh (sD3 E mv an), .sh (nD mv.length), .own (rows'.map rD), .own (as'.map nD), s5, s6', s7, s8]) ((List.range mv.length).map nD) 0
    [.sh .well, .sh (sD3 E mv an), .sh (nD mv.length), .own (rows.map rD), .own (as.map nD), s5, s6, s7, s8] ⟨rows, as, s6, h, rfl⟩ fun i x ρ hx hI => by
    obtain ⟨rows', as', s6', hf, rfl⟩ := hI
    have hi : i < mv.length := by have := (List.getElem?_eq_some_iff.mp hx).1; simpa using this
    rw [List.getElem?_map, List.getElem?_range hi] at hx
    cases hx
    rw [Nat.zero_add] at hf
    refine ⟨_, rfl, run_imp (run_twX v hE hm hf (by omega) hi (by rw [Nat.mul_comm, Nat.mul_add_mod, Nat.mod_eq_of_lt hi]) s5 s7 s8) ?_⟩
    rintro fl ⟨rows2, as2, h2, rfl⟩
    exact ⟨_, .inl rfl, rows2, as2, _, by rw [Nat.zero_add]; exact h2, rfl⟩
  refine run_mono r (by rw [List.length_map, List.length_range]; exact Nat.le_refl _) ?_
  rintro fl ⟨ρ2, rfl, rows', as', s6', h2, rfl⟩
  rw [List.length_map, List.length_range, Nat.zero_add, ← Nat.succ_mul] at h2
  exact ⟨rows', as', s6', h2, rfl⟩
/-- a drawn twofold summary answers as the one it was made of -/
theorem run_twofold (v : Val E mv an) (ha : ∀ x ∈ an, x < 100) (hE : E ≤ 6) (hm : mv.length ≤ 20) : run (x_twofold [.well, sD3 E mv an]) (12 * mv.length + 7) fun d => ∃ mv2 an2, d = sD3 E mv2 an2 ∧ Val E mv2 an2 ∧ mv2.length = 2 * mv.length + 1 ∧ (∀ x ∈ an2, x < 100) ∧ beh E mv2 an2 0 = beh E mv an 0 := by
  refine run_body ?_
  unfold y_twofold
  rw [show env0 9 [D.well, sD3 E mv an] = [.sh .well, .sh (sD3 E mv an), .no, .no, .no, .no, .no, .no, .no] from rfl]
  refine run_mono (c := 6 * mv.length * 2 + (6 + 1)) ?_ (by omega) fun _ z => z
  refine run_seq0 (ρ' := [.sh .well, .sh (sD3 E mv an), .sh (nD mv.length), .own [], .own [], .no, .no, .no, .no]) (by simp [sD3, nD, Sq.xs]) ?_
  have hr : rangeT (.int 2) = .ok ((List.range 2).map nD) := rangeT_nat (n := 2) (by omega)
  refine run_seq (P := fun ρ => ∃ rows as s5 s6, TwoK E mv an rows as (2 * mv.length) ∧ ρ = [.sh .well, .sh (sD3 E mv an), .sh (nD mv.length), .own (rows.map rD), .own (as.map nD), s5, s6, .no, .no]) ?_ ?_
  · refine run_for0 (xs := (List.range 2).map nD) (by rw [s_dRange1, s_dC, T.bind_ok]; exact hr) ?_
    have r := run_for (fb := bName 5) (g := gFor (dRange1 (dV 2)) (bName 6) twX) (c := 6 * mv.length) (fun i ρ => ∃ rows as s5 s6, TwoK E mv an rows as (i * mv.length) ∧ ρ = [.sh .well, .sh (sD3 E mv an), .sh (nD mv.length), .own (rows.map rD), .own (as.map nD), s5, s6, .no, .no]) ((List.range 2).map nD) 0
      [.sh .well, .sh (sD3 E mv an), .sh (nD mv.length), .own [], .own [], .no, .no, .no, .no] ⟨[], [], _, _, ⟨by simp, by simp, by simp, by simp⟩, rfl⟩ fun i x ρ hx hI => by
      obtain ⟨rows, as, s5, s6, hf, rfl⟩ := hI
      have hi : i < 2 := by have := (List.getElem?_eq_some_iff.mp hx).1; simpa using this
      rw [Nat.zero_add] at hf
      refine ⟨_, rfl, run_imp (run_copy v hE hm hi hf (.sh x) s6 .no .no) ?_⟩
      rintro fl ⟨rows', as', s6', h2, rfl⟩
      exact ⟨_, .inl rfl, rows', as', _, s6', by rw [Nat.zero_add]; exact h2, rfl⟩
    refine run_mono r (by simp) ?_
    rintro fl ⟨ρ2, rfl, rows, as, s5, s6, h2, rfl⟩
    exact ⟨_, rfl, rows, as, s5, s6, h2, rfl⟩
  rintro ρ ⟨rows, as, s5, s6, h, rfl⟩
  have l1 := h.rl
  have l2 := h.al
  refine run_seq (P := fun ρ => ∃ q : List Nat, q.length = E ∧ (∀ x ∈ q, x < 2 * mv.length) ∧ ρ = [.sh .well, .sh (sD3 E mv an), .sh (nD mv.length), .own ((rows ++ [q]).map rD), .own (as.map nD), s5, s6, .no, .no]) ?_ ?_
  · refine run_gAppend (xs := rows.map rD) rfl (by rw [List.length_map]; omega) (run_mono (run_tup_draws (n := E) (c := 1) (P := fun d => ∃ x : Nat, d = nD x ∧ x < 2 * mv.length) (by simp [sD3, nD]) (by omega) fun k hk => run_below (m := 2 * mv.length) (by have := v.pos; omega) (by omega) rfl ?_) (by omega) fun _ z => z) ?_
    · have := opMul_n (a := 2) (b := mv.length) (by omega)
      simp only [nD] at this
      rw [show ((2 : Nat) : Int) = 2 from rfl] at this
      simp [dWipe, nD, this]
    · rintro d ⟨ds, rfl, hl, hp⟩
      obtain ⟨q, rfl, hq⟩ := nats_of hp
      rw [List.length_map] at hl
      refine ⟨_, rfl, q, hl, hq, ?_⟩
      rw [List.map_append]
      rfl
  rintro ρ ⟨q, hq1, hq2, rfl⟩
  have hz : rows.length + 1 ≤ sizeLine := szl (by omega)
  have hz2 : as.length + 1 ≤ sizeLine := szl (by omega)
  refine run_imp (run_ret (P := fun d => ∃ z : Nat, z < 3 ∧ d = sD3 E (rows ++ [q]) (as ++ [z])) ?_) ?_
  · have rl : run (dTupOf (dSqN (dCat (dSqV 4) (dSqN (dLst (dCons (dCall 2 fTake (dCons (dV 0) (dCons (dC (.int 3)) dNil))) dNil))))) [.sh .well, .sh (sD3 E mv an), .sh (nD mv.length), .own ((rows ++ [q]).map rD), .own (as.map nD), s5, s6, .no, .no]) 1 fun d => ∃ z : Nat, z < 3 ∧ d = rD (as ++ [z]) := by
      have rb := run_below (m := 3) (ρ := [.sh .well, .sh (sD3 E mv an), .sh (nD mv.length), .own ((rows ++ [q]).map rD), .own (as.map nD), s5, s6, .no, .no]) (i := 0) (f := dC (.int 3)) (by decide) (by decide) rfl rfl
      rw [s_dTupOf, s_dSqN]
      show run (((((dLst (dCons (dCall 2 fTake (dCons (dV 0) (dCons (dC (.int 3)) dNil))) dNil) _).bind _).bind _).bind _).bind _) 1 _
      rw [s_dLst, s_dCons]
      simp only [T.bind_assoc]
      refine run_bind0 rb fun d hd => ?_
      obtain ⟨z, rfl, hz3⟩ := hd
      refine run_eq (a := rD (as ++ [z])) ?_ ⟨z, hz3, rfl⟩
      simp [Sq.xs, hz2, rD]
    refine run_mono (run_dTup (run_cons (run_pure (a := nD E) (by simp [sD3, nD])) (run_cons (run_pure (a := .tup ((rows ++ [q]).map rD)) (by simp [Sq.xs, hz])) (run_cons rl run_nil))) fun ds h => by
      obtain ⟨d1, r1, rfl, _, d2, r2, rfl, _, d3, r3, rfl, _, rfl⟩ := h
      simp) (by omega) ?_
    rintro d ⟨_, rfl, d1, r1, rfl, rfl, d2, r2, rfl, rfl, d3, r3, rfl, ⟨z, hz3, rfl⟩, rfl⟩
    exact ⟨z, hz3, rfl⟩
  · rintro fl ⟨d, ⟨z, hz3, rfl⟩, rfl⟩
    have hp := v.pos
    have stp : ∀ i, i < 2 * mv.length → ∀ e, e < E → stepM (rows ++ [q]) i e < 2 * mv.length ∧ stepM (rows ++ [q]) i e % mv.length = stepM mv (i % mv.length) e := fun i hi e he => by
      have e1 : (rows ++ [q]).getD i [] = rows.getD i [] := by rw [List.getD_eq_getElem?_getD, List.getElem?_append_left (by omega), ← List.getD_eq_getElem?_getD]
      have e2 : rows[i]? = some (rows.getD i []) := by
        rw [List.getD_eq_getElem?_getD, List.getElem?_eq_getElem (by omega)]
        rfl
      unfold stepM
      rw [e1]
      exact (h.row i _ e2).2 e he
    have two : Two E mv an (rows ++ [q]) (as ++ [z]) := ⟨stp, fun i hi => by
      unfold ansM
      rw [List.getD_eq_getElem?_getD, List.getElem?_append_left (by omega), ← List.getD_eq_getElem?_getD]
      exact h.ans i hi⟩
    refine ⟨_, ⟨rows ++ [q], as ++ [z], rfl, ⟨v.e1, by simp, fun r hr => ?_, by simp [l1, l2], by omega, by simp; omega⟩, by simp [l1], fun x hx => ?_, two.beh hp⟩, rfl⟩
    · rw [List.length_append, List.length_singleton, l1]
      rcases List.mem_append.mp hr with y | y
      · obtain ⟨i, hi⟩ := List.mem_iff_getElem?.mp y
        obtain ⟨r1, r2⟩ := h.row i r hi
        refine ⟨r1, fun x hx => ?_⟩
        obtain ⟨j, hj⟩ := List.mem_iff_getElem?.mp hx
        have hjl := (List.getElem?_eq_some_iff.mp hj).1
        have := (r2 j (by omega)).1
        rw [List.getD_eq_getElem?_getD, hj] at this
        exact Nat.lt_succ_of_lt this
      · rw [List.mem_singleton.mp y]; exact ⟨hq1, fun x hx => by have := hq2 x hx; omega⟩
    · rcases List.mem_append.mp hx with y | y
      · obtain ⟨i, hi⟩ := List.mem_iff_getElem?.mp y
        have hlt := (List.getElem?_eq_some_iff.mp hi).1
        have := h.ans i (by omega)
        rw [List.getD_eq_getElem?_getD, hi] at this
        have e : x = ansM an (i % mv.length) := this
        rw [e]
        exact ha _ (List.mem_of_getElem? (an_at v (Nat.mod_lt _ hp)))
      · rw [List.mem_singleton.mp y]; omega
end
end
end AL
namespace AL
open PySem
noncomputable section
/-! ## a summary with another move or another answer -/
/-- one thing of a tuple exchanged -/
theorem run_mid {ρ : DEnv} {fs : DEnv → T Sq} {fi fc : DEnv → T D} {l : List D} {k c : Nat} {P : D → Prop} (hs : fs ρ = .ok (.t l)) (hi : fi ρ = .ok (nD k)) (hc : run (fc ρ) c P) (hl : l.length ≤ 1000) :
    run (dB opAdd (dB opAdd (dSlT fs dNoP (dP fi)) (dTup (dCons fc dNil))) (dSlT fs (dP (dB opAdd fi (dC (.int 1)))) dNoP) ρ) c fun d => ∃ x, P x ∧ d = .tup (l.take k ++ [x] ++ l.drop (k + 1)) := by
  have rt : run (dTup (dCons fc dNil) ρ) c fun d => ∃ x, P x ∧ d = .tup [x] := by
    refine run_mono (run_dTup (run_cons (c2 := 0) hc run_nil) fun ds h => by obtain ⟨_, _, rfl, _, rfl⟩ := h; simp) (Nat.le_refl _) ?_
    rintro d ⟨_, rfl, x, _, rfl, hx, rfl⟩
    exact ⟨x, hx, rfl⟩
  have s1 : (dSlT fs dNoP (dP fi)) ρ = .ok (.tup (l.take k)) := by simp [hs, hi, nD, cut_to]
  have s2 : (dSlT fs (dP (dB opAdd fi (dC (.int 1)))) dNoP) ρ = .ok (.tup (l.drop (k + 1))) := by simp [hs, hi, nD, cut_from1]
  refine run_mono (run_dB (c1 := c) (c2 := 0) (P := fun d => ∃ x, P x ∧ d = .tup (l.take k ++ [x])) (run_mono (run_dB (c1 := 0) (c2 := c) (run_pure s1) rt fun a b ha hb => ?_) (by omega) fun _ z => z) (run_pure s2) fun a b ha hb => ?_) (Nat.le_refl _) fun _ z => z
  · obtain ⟨x, hx, rfl⟩ := hb
    subst ha
    exact run_eq (a := .tup (l.take k ++ [x])) (by rw [opAdd_tup, if_pos (szl (by simp; omega))]) ⟨x, hx, rfl⟩
  · obtain ⟨x, hx, rfl⟩ := ha
    subst hb
    exact run_eq (a := .tup (l.take k ++ [x] ++ l.drop (k + 1))) (by rw [opAdd_tup, if_pos (szl (by simp; omega))]) ⟨x, hx, rfl⟩
theorem mid_map {α : Type} (f : α → D) (l : List α) (x : α) (k : Nat) : (l.map f).take k ++ [f x] ++ (l.map f).drop (k + 1) = (l.take k ++ [x] ++ l.drop (k + 1)).map f := by
  simp [List.map_take, List.map_drop]
theorem mid_len {α : Type} {l : List α} {x : α} {k : Nat} (h : k < l.length) : (l.take k ++ [x] ++ l.drop (k + 1)).length = l.length := by simp; omega
theorem mid_mem {α : Type} {l : List α} {x y : α} {k : Nat} (h : y ∈ l.take k ++ [x] ++ l.drop (k + 1)) : y ∈ l ∨ y = x := by
  rcases List.mem_append.mp h with h | h
  · rcases List.mem_append.mp h with h | h
    · exact .inl (List.mem_of_mem_take h)
    · exact .inr (List.mem_singleton.mp h)
  · exact .inl (List.mem_of_mem_drop h)
theorem run_seq_rt {ρ : DEnv} {c : Nat} {g g' : DEnv → T Fl} {P : D → Prop} (h : run (g ρ) c fun fl => ∃ d, P d ∧ fl = .rt d) : run (gSeq g g' ρ) c fun fl => ∃ d, P d ∧ fl = .rt d := by
  rw [s_gSeq]
  refine run_bind0 h fun fl hf => ?_
  obtain ⟨d, hd, rfl⟩ := hf
  exact run_ok ⟨d, hd, rfl⟩
theorem ex_bind2 {α : Type} {ρ : DEnv} {F : α → T Fl} {k : Fl → T Fl} (hk : ∀ e, k (.rs e ρ) = .ok (.rs e ρ)) (t : T α) : (t.ex ρ F).bind k = t.ex ρ fun x => (F x).bind k := by
  induction t with
  | ok a => simp
  | exc e => simp [hk]
  | draw m f ih => simp only [T.bind_draw, T.ex_draw]; exact congrArg _ (funext ih)
  | fail => simp
/-- a test that is drawn parts two returns -/
theorem run_seq_if {ρ : DEnv} {c1 c2 : Nat} {t : DEnv → T Bool} {a g : DEnv → T Fl} {P : D → Prop} (h : run (t ρ) c1 fun _ => True) (ha : run (a ρ) c2 fun fl => ∃ d, P d ∧ fl = .rt d) (hg : run (g ρ) c2 fun fl => ∃ d, P d ∧ fl = .rt d) : run (gSeq (gIf t a gNil) g ρ) (c1 + c2) fun fl => ∃ d, P d ∧ fl = .rt d := by
  have e : gSeq (gIf t a gNil) g ρ = (t ρ).ex ρ fun x => ((if x then a ρ else gNil ρ).bind fun fl => match fl with | .nx ρ' => g ρ' | fl => .ok fl) := ex_bind2 (α := Bool) (ρ := ρ) (k := fun fl => match fl with | .nx ρ' => g ρ' | fl => .ok fl) (F := fun x => if x then a ρ else gNil ρ) (fun _ => rfl) (t ρ)
  rw [e]
  refine run_ex h fun x _ => ?_
  cases x with
  | true =>
    rw [if_pos rfl]
    refine run_bind0 ha fun fl hf => ?_
    obtain ⟨d, hd, rfl⟩ := hf
    exact run_ok ⟨d, hd, rfl⟩
  | false => exact hg
def beA : DEnv → T Fl :=
  (gSeq (gSet 4 (dB opAdd (dB opAdd (dSlT (dSq (dIx (dSqV 1) (dC (.int 2)))) dNoP (dP (dV 2))) (dTup (dCons (dCall 2 fTake (dCons (dV 0) (dCons (dC (.int 3)) dNil))) dNil))) (dSlT (dSq (dIx (dSqV 1) (dC (.int 2)))) (dP (dB opAdd (dV 2) (dC (.int 1)))) dNoP)))
  (gRet (dB opAdd (dSlT (dSqV 1) dNoP (dP (dC (.int 2)))) (dTup (dCons (dV 4) dNil)))))
def beB : DEnv → T Fl :=
  (gSeq (gSet 5 (dB opAdd (dB opAdd (dSlT (dSq (dIx (dSq (dIx (dSqV 1) (dC (.int 1)))) (dV 2))) dNoP (dP (dV 3))) (dTup (dCons (dCall 2 fTake (dCons (dV 0) (dCons (dLen (dSq (dIx (dSqV 1) (dC (.int 1))))) dNil))) dNil))) (dSlT (dSq (dIx (dSq (dIx (dSqV 1) (dC (.int 1)))) (dV 2))) (dP (dB opAdd (dV 3) (dC (.int 1)))) dNoP)))
  (gRet (dTup (dCons (dIx (dSqV 1) (dC (.int 0))) (dCons (dB opAdd (dB opAdd (dSlT (dSq (dIx (dSqV 1) (dC (.int 1)))) dNoP (dP (dV 2))) (dTup (dCons (dV 5) dNil))) (dSlT (dSq (dIx (dSqV 1) (dC (.int 1)))) (dP (dB opAdd (dV 2) (dC (.int 1)))) dNoP)) (dCons (dIx (dSqV 1) (dC (.int 2))) dNil))))))
def y_bent : DEnv → T Fl :=
  (gSeq (gPar 2 3 (dSh (dCall 2 fTake (dCons (dV 0) (dCons (dLen (dSq (dIx (dSqV 1) (dC (.int 1))))) dNil)))) (dSh (dCall 2 fTake (dCons (dV 0) (dCons (dIx (dSqV 1) (dC (.int 0))) dNil)))))
  (gSeq (gIf (dT (dB opEq (dCall 2 fTake (dCons (dV 0) (dCons (dC (.int 2)) dNil))) (dC (.int 0))))
  beA
  gNil)
  beB))
def x_bent : List D → T D := bodyT 6 y_bent
section
variable {E : Nat} {mv : List (List Nat)} {an : List Nat}
def BentOk (E m : Nat) (d : D) : Prop := ∃ mv an, d = sD3 E mv an ∧ Val E mv an ∧ mv.length = m ∧ ∀ x ∈ an, x < 100
theorem run_beA (v : Val E mv an) (ha : ∀ x ∈ an, x < 100) (hm : mv.length ≤ 100) {s : Nat} (hs : s < mv.length) (s3 s4 s5 : AL.Slot) : run (beA [.sh .well, .sh (sD3 E mv an), .sh (nD s), s3, s4, s5]) 1 fun fl => ∃ d, BentOk E mv.length d ∧ fl = .rt d := by
  have hl := v.an
  unfold beA
  refine run_mono (c := 1 + 0) ?_ (by omega) fun _ z => z
  refine run_seq (P := fun ρ => ∃ z, z < 3 ∧ ρ = [.sh .well, .sh (sD3 E mv an), .sh (nD s), s3, .sh (rD (an.take s ++ [z] ++ an.drop (s + 1))), s5]) ?_ ?_
  · refine run_imp (run_set (run_mid (l := an.map nD) (k := s) (P := fun d => ∃ z : Nat, d = nD z ∧ z < 3) (by simp [sD3, rD]) rfl (run_below (m := 3) (by decide) (by decide) rfl rfl) (by rw [List.length_map]; omega))) ?_
    rintro fl ⟨d, ⟨x, ⟨z, rfl, hz⟩, rfl⟩, rfl⟩
    exact ⟨_, rfl, z, hz, by rw [mid_map]; rfl⟩
  rintro ρ ⟨z, hz, rfl⟩
  refine run_ret (P := BentOk E mv.length) (run_eq (a := sD3 E mv (an.take s ++ [z] ++ an.drop (s + 1))) ?_ ⟨mv, _, rfl, ⟨v.e1, v.ne, v.row, by rw [mid_len (by omega), hl], v.se, v.sm⟩, rfl, fun x hx => ?_⟩)
  · generalize an.take s ++ [z] ++ an.drop (s + 1) = q
    have s3' : ∀ s4 s5 : AL.Slot, (dSlT (dSqV 1) dNoP (dP (dC (.int 2)))) [.sh .well, .sh (sD3 E mv an), .sh (nD s), s3, s4, s5] = .ok (.tup [nD E, .tup (mv.map rD)]) := fun s4 s5 => by simp [sD3, cut_two]
    rw [s_dB, s3', T.bind_ok]
    simp [opAdd_tup, szl, sD3]
  · rcases mid_mem hx with h | h
    · exact ha x h
    · omega
theorem run_beB (v : Val E mv an) (ha : ∀ x ∈ an, x < 100) (hm : mv.length ≤ 100) {s e : Nat} (hs : s < mv.length) (he : e < E) (s4 s5 : AL.Slot) : run (beB [.sh .well, .sh (sD3 E mv an), .sh (nD s), .sh (nD e), s4, s5]) 1 fun fl => ∃ d, BentOk E mv.length d ∧ fl = .rt d := by
  have hl := v.an
  have hrow := rowAt_get hs
  have hv := v.row _ hrow.2
  have hE := v.se
  have hp := v.pos
  unfold beB
  refine run_mono (c := 1 + 0) ?_ (by omega) fun _ z => z
  refine run_seq (P := fun ρ => ∃ z, z < mv.length ∧ ρ = [.sh .well, .sh (sD3 E mv an), .sh (nD s), .sh (nD e), s4, .sh (rD ((rowAt mv s).take e ++ [z] ++ (rowAt mv s).drop (e + 1)))]) ?_ ?_
  · have hfs : dSq (dIx (dSq (dIx (dSqV 1) (dC (.int 1)))) (dV 2)) [.sh .well, .sh (sD3 E mv an), .sh (nD s), .sh (nD e), s4, s5] = .ok (.t ((rowAt mv s).map nD)) := by
      have e1 : opIx (.t (mv.map rD)) (nD s) = .ok (rD (rowAt mv s)) := opIx_t (i := s) (by rw [List.getElem?_map, hrow.1]; rfl)
      simp only [nD, rD] at e1
      simp [sD3, nD, rD, e1]
    refine run_imp (run_set (run_mid (l := (rowAt mv s).map nD) (k := e) (P := fun d => ∃ z : Nat, d = nD z ∧ z < mv.length) hfs rfl (run_below (m := mv.length) hp (by omega) rfl (by simp [sD3, nD, Sq.xs])) (by rw [List.length_map, hv.1]; omega))) ?_
    rintro fl ⟨d, ⟨x, ⟨z, rfl, hz⟩, rfl⟩, rfl⟩
    exact ⟨_, rfl, z, hz, by rw [mid_map]; rfl⟩
  rintro ρ ⟨z, hz, rfl⟩
  have hr1 : ((rowAt mv s).take e ++ [z] ++ (rowAt mv s).drop (e + 1)).length = E := by rw [mid_len (by rw [hv.1]; exact he), hv.1]
  have hr2 : ∀ x ∈ (rowAt mv s).take e ++ [z] ++ (rowAt mv s).drop (e + 1), x < mv.length := fun x hx => (mid_mem hx).elim (hv.2 x) fun h => by omega
  generalize (rowAt mv s).take e ++ [z] ++ (rowAt mv s).drop (e + 1) = q at hr1 hr2
  have rm : run (dB opAdd (dB opAdd (dSlT (dSq (dIx (dSqV 1) (dC (.int 1)))) dNoP (dP (dV 2))) (dTup (dCons (dV 5) dNil))) (dSlT (dSq (dIx (dSqV 1) (dC (.int 1)))) (dP (dB opAdd (dV 2) (dC (.int 1)))) dNoP) [.sh .well, .sh (sD3 E mv an), .sh (nD s), .sh (nD e), s4, .sh (rD q)]) 0 fun d => ∃ x, x = rD q ∧ d = .tup ((mv.map rD).take s ++ [x] ++ (mv.map rD).drop (s + 1)) :=
    run_mid (l := mv.map rD) (k := s) (P := fun d => d = rD q) (by simp [sD3]) rfl (run_pure rfl) (by rw [List.length_map]; omega)
  refine run_ret (P := BentOk E mv.length) (run_mono (run_dTup (run_cons (c1 := 0) (run_pure (a := nD E) (by simp [sD3])) (run_cons (c1 := 0) rm (run_cons (c1 := 0) (c2 := 0) (run_pure (a := rD an) (by simp [sD3])) run_nil))) fun ds h => by
      obtain ⟨d1, r1, rfl, _, d2, r2, rfl, _, d3, r3, rfl, _, rfl⟩ := h
      simp) (by omega) ?_)
  rintro d ⟨_, rfl, d1, r1, rfl, rfl, d2, r2, rfl, ⟨x, rfl, rfl⟩, d3, r3, rfl, rfl, rfl⟩
  refine ⟨mv.take s ++ [q] ++ mv.drop (s + 1), an, by rw [mid_map]; rfl, ⟨v.e1, by simp, fun r hr => ?_, by rw [mid_len hs, hl], v.se, by rw [mid_len hs]; exact v.sm⟩, mid_len hs, ha⟩
  rw [mid_len hs]
  rcases mid_mem hr with h | h
  · exact v.row r h
  · rw [h]; exact ⟨hr1, hr2⟩
theorem run_bent (v : Val E mv an) (ha : ∀ x ∈ an, x < 100) (hm : mv.length ≤ 100) : run (x_bent [.well, sD3 E mv an]) 4 (BentOk E mv.length) := by
  have hE := v.se
  have he1 := v.e1
  have hp := v.pos
  refine run_body ?_
  unfold y_bent
  rw [show env0 6 [D.well, sD3 E mv an] = [.sh .well, .sh (sD3 E mv an), .no, .no, .no, .no] from rfl]
  refine run_mono (c := 2 + 2) ?_ (by omega) fun _ z => z
  refine run_seq (P := fun ρ => ∃ s e : Nat, s < mv.length ∧ e < E ∧ ρ = [.sh .well, .sh (sD3 E mv an), .sh (nD s), .sh (nD e), .no, .no]) ?_ ?_
  · refine run_imp (run_gPar (c1 := 1) (c2 := 1) (run_dSh (run_below (m := mv.length) hp (by omega) rfl (by simp [sD3, nD, Sq.xs]))) (run_dSh (run_below (m := E) (by omega) (by omega) rfl (by simp [sD3, nD])))) ?_
    rintro fl ⟨a, b, ⟨_, ⟨s, rfl, hs⟩, rfl⟩, ⟨_, ⟨e, rfl, he⟩, rfl⟩, rfl⟩
    exact ⟨_, rfl, s, e, hs, he, rfl⟩
  rintro ρ ⟨s, e, hs, he, rfl⟩
  have rt : run ((dT (dB opEq (dCall 2 fTake (dCons (dV 0) (dCons (dC (.int 2)) dNil))) (dC (.int 0)))) [.sh .well, .sh (sD3 E mv an), .sh (nD s), .sh (nD e), .no, .no]) 1 fun b => b = true ∨ b = false := by
    refine run_dT (run_mono (run_dB (c1 := 1) (c2 := 0) (run_below (m := 2) (by decide) (by decide) rfl rfl) (run_pure (a := .int 0) rfl) (R := fun d => ∃ b, d = .bl b ∧ (b = true ∨ b = false)) fun x y hx hy => ?_) (by omega) fun _ z => z)
    obtain ⟨n, rfl, _⟩ := hx
    subst hy
    exact run_eq (opEq_int _ _) ⟨_, rfl, by cases decide ((n : Int) = 0) <;> simp⟩
  exact run_seq_if (run_imp rt fun _ _ => trivial) (run_beA v ha hm hs _ _ _) (run_beB v ha hm hs he _ _)
end
end
end AL
namespace G04
open PySem PySem.Spec PyProof.Rows L2 AL
noncomputable section
def topS (i : Nat) : Stmt := PySem.Challenge.pw_arrivesalike_k04_whole_least_summaries.main.body.getD i (.Pass ⟨0, 0, 0, 0⟩)
abbrev s_law_well : Stmt := topS 24
theorem sc_law_well : FnScope ["script", "at", "seed", "cell", "own"] ["script", "at"] (defScope s_law_well) := ⟨rfl, rfl, rfl, by decide +kernel, rfl, by decide +kernel, by decide +kernel⟩
abbrev s_law_led : Stmt := topS 30
theorem sc_law_led : FnScope ["summary", "state", "log", "event"] ["summary", "state", "log"] (defScope s_law_led) := ⟨rfl, rfl, rfl, by decide +kernel, rfl, by decide +kernel, by decide +kernel⟩
abbrev s_law_answer : Stmt := topS 31
theorem sc_law_answer : FnScope ["summary", "log"] ["summary", "log"] (defScope s_law_answer) := ⟨rfl, rfl, rfl, by decide +kernel, rfl, by decide +kernel, by decide +kernel⟩
abbrev s_law_take : Stmt := topS 25
theorem sc_law_take : FnScope ["well", "many", "digit", "one", "two"] ["well", "many"] (defScope s_law_take) := ⟨rfl, rfl, rfl, by decide +kernel, rfl, by decide +kernel, by decide +kernel⟩
abbrev s_law_bent : Stmt := topS 36
theorem sc_law_bent : FnScope ["well", "summary", "state", "event", "answers", "row"] ["well", "summary"] (defScope s_law_bent) := ⟨rfl, rfl, rfl, by decide +kernel, rfl, by decide +kernel, by decide +kernel⟩
abbrev s_law_equal : Stmt := topS 27
theorem sc_law_equal : FnScope ["told", "due"] ["told", "due"] (defScope s_law_equal) := ⟨rfl, rfl, rfl, by decide +kernel, rfl, by decide +kernel, by decide +kernel⟩
abbrev s_law_apart : Stmt := topS 34
theorem sc_law_apart : FnScope ["summary", "states", "found", "one", "two", "size", "fresh", "later", "event", "pair"] ["summary"] (defScope s_law_apart) := ⟨rfl, rfl, rfl, by decide +kernel, rfl, by decide +kernel, by decide +kernel⟩
abbrev s_law_reached : Stmt := topS 33
theorem sc_law_reached : FnScope ["summary", "found", "turn", "state", "log", "event", "later", "one"] ["summary"] (defScope s_law_reached) := ⟨rfl, rfl, rfl, by decide +kernel, rfl, by decide +kernel, by decide +kernel⟩
abbrev s_law_least : Stmt := topS 35
theorem sc_law_least : FnScope ["summary", "apart", "kept", "numbers", "state", "log", "twins", "one", "moves", "later"] ["summary"] (defScope s_law_least) := ⟨rfl, rfl, rfl, by decide +kernel, rfl, by decide +kernel, by decide +kernel⟩
abbrev s_law_logs : Stmt := topS 28
theorem sc_law_logs : FnScope ["events", "length", "latest", "found", "turn", "longer", "log", "event"] ["events", "length"] (defScope s_law_logs) := ⟨rfl, rfl, rfl, by decide +kernel, rfl, by decide +kernel, by decide +kernel⟩
abbrev s_law_summary : Stmt := topS 29
theorem sc_law_summary : FnScope ["well", "events", "states", "answers", "moves", "state", "event"] ["well", "events", "states", "answers"] (defScope s_law_summary) := ⟨rfl, rfl, rfl, by decide +kernel, rfl, by decide +kernel, by decide +kernel⟩
abbrev s_law_twofold : Stmt := topS 32
theorem sc_law_twofold : FnScope ["well", "summary", "many", "moves", "answers", "copy", "state", "later", "event"] ["well", "summary"] (defScope s_law_twofold) := ⟨rfl, rfl, rfl, by decide +kernel, rfl, by decide +kernel, by decide +kernel⟩
abbrev s_is_integer : Stmt := topS 5
theorem sc_is_integer : FnScope ["thing"] ["thing"] (defScope s_is_integer) := ⟨rfl, rfl, rfl, by decide +kernel, rfl, by decide +kernel, by decide +kernel⟩
abbrev s_is_from : Stmt := topS 6
theorem sc_is_from : FnScope ["low", "thing"] ["low", "thing"] (defScope s_is_from) := ⟨rfl, rfl, rfl, by decide +kernel, rfl, by decide +kernel, by decide +kernel⟩
abbrev s_is_below : Stmt := topS 7
theorem sc_is_below : FnScope ["many", "thing"] ["many", "thing"] (defScope s_is_below) := ⟨rfl, rfl, rfl, by decide +kernel, rfl, by decide +kernel, by decide +kernel⟩
abbrev s_is_row : Stmt := topS 9
theorem sc_is_row : FnScope ["many", "thing", "one"] ["many", "thing"] (defScope s_is_row) := ⟨rfl, rfl, rfl, by decide +kernel, rfl, by decide +kernel, by decide +kernel⟩
abbrev s_is_tuple : Stmt := topS 8
theorem sc_is_tuple : FnScope ["many", "thing"] ["many", "thing"] (defScope s_is_tuple) := ⟨rfl, rfl, rfl, by decide +kernel, rfl, by decide +kernel, by decide +kernel⟩
abbrev s_summary_fault : Stmt := topS 11
theorem sc_summary_fault : FnScope ["value", "state", "row", "one"] ["value"] (defScope s_summary_fault) := ⟨rfl, rfl, rfl, by decide +kernel, rfl, by decide +kernel, by decide +kernel⟩
abbrev s_check_summary : Stmt := topS 12
theorem sc_check_summary : FnScope ["thing", "place"] ["thing"] (defScope s_check_summary) := ⟨rfl, rfl, rfl, by decide +kernel, rfl, by decide +kernel, by decide +kernel⟩
abbrev s_check_other : Stmt := topS 13
theorem sc_check_other : FnScope ["summary", "thing"] ["summary", "thing"] (defScope s_check_other) := ⟨rfl, rfl, rfl, by decide +kernel, rfl, by decide +kernel, by decide +kernel⟩
abbrev s_first_way : Stmt := topS 20
theorem sc_first_way : FnScope ["events", "start", "step", "is_goal", "known", "latest", "longer", "label", "log", "event", "later"] ["events", "start", "step", "is_goal"] (defScope s_first_way) := ⟨rfl, rfl, rfl, by decide +kernel, rfl, by decide +kernel, by decide +kernel⟩
abbrev s_parting_from : Stmt := topS 21
theorem sc_parting_from : FnScope ["summary", "state", "other", "other_state"] ["summary", "state", "other", "other_state"] (defScope s_parting_from) := ⟨rfl, rfl, rfl, by decide +kernel, rfl, by decide +kernel, by decide +kernel⟩
abbrev s_are_alike : Stmt := topS 22
theorem sc_are_alike : FnScope ["summary", "other"] ["summary", "other"] (defScope s_are_alike) := ⟨rfl, rfl, rfl, by decide +kernel, rfl, by decide +kernel, by decide +kernel⟩
abbrev s_kinds_of : Stmt := topS 14
theorem sc_kinds_of : FnScope ["moves", "marks", "known", "kinds", "mark", "many", "keys", "later", "kind", "row", "key"] ["moves", "marks"] (defScope s_kinds_of) := ⟨rfl, rfl, rfl, by decide +kernel, rfl, by decide +kernel, by decide +kernel⟩
abbrev s_spread : Stmt := topS 15
theorem sc_spread : FnScope ["kinds", "moves", "order", "seen", "rows", "row", "state"] ["kinds", "moves"] (defScope s_spread) := ⟨rfl, rfl, rfl, by decide +kernel, rfl, by decide +kernel, by decide +kernel⟩
abbrev s_merged : Stmt := topS 16
theorem sc_merged : FnScope ["events", "moves", "answers", "order", "rows", "state"] ["events", "moves", "answers"] (defScope s_merged) := ⟨rfl, rfl, rfl, by decide +kernel, rfl, by decide +kernel, by decide +kernel⟩
abbrev s_least_in : Stmt := topS 17
theorem sc_least_in : FnScope ["summary"] ["summary"] (defScope s_least_in) := ⟨rfl, rfl, rfl, by decide +kernel, rfl, by decide +kernel, by decide +kernel⟩
abbrev s_is_least : Stmt := topS 19
theorem sc_is_least : FnScope ["summary"] ["summary"] (defScope s_is_least) := ⟨rfl, rfl, rfl, by decide +kernel, rfl, by decide +kernel, by decide +kernel⟩
abbrev s_least : Stmt := topS 18
theorem sc_least : FnScope ["summary"] ["summary"] (defScope s_least) := ⟨rfl, rfl, rfl, by decide +kernel, rfl, by decide +kernel, by decide +kernel⟩
abbrev s_law_right : Stmt := topS 37
theorem sc_law_right : FnScope ["well", "events", "summary", "twofold", "kept", "due", "bent", "same", "log"] ["well"] (defScope s_law_right) := ⟨rfl, rfl, rfl, by decide +kernel, rfl, by decide +kernel, by decide +kernel⟩
abbrev s_law : Stmt := topS 38
theorem sc_law : FnScope ["script", "at", "well", "turn"] ["script"] (defScope s_law) := ⟨rfl, rfl, rfl, by decide +kernel, rfl, by decide +kernel, by decide +kernel⟩
def fr_w0 : List Str := ["summary", "other"]
abbrev x_w0 : Expr := (eArg 2 (sVal (sAt (defBody s_parting_from) 0)))
abbrev wd_w0 : AL.Word := ⟨"<lambda>", ((("parting_from" : Str) ++ ".<locals>.") ++ "<lambda>"), lamP x_w0, .expr (lamB x_w0), lamS x_w0, fr_w0⟩
theorem sc_w0 : NdefX.NScope ["pair", "event", "summary", "other"] ["pair", "event"] fr_w0 (lamS x_w0) := NdefX.nscope_by (by decide +kernel)
def fr_w1 : List Str := ["summary", "other"]
abbrev x_w1 : Expr := (eArg 3 (sVal (sAt (defBody s_parting_from) 0)))
abbrev wd_w1 : AL.Word := ⟨"<lambda>", ((("parting_from" : Str) ++ ".<locals>.") ++ "<lambda>"), lamP x_w1, .expr (lamB x_w1), lamS x_w1, fr_w1⟩
theorem sc_w1 : NdefX.NScope ["pair", "summary", "other"] ["pair"] fr_w1 (lamS x_w1) := NdefX.nscope_by (by decide +kernel)
def words : Nat → AL.Word := fun i => match i with
  | 0 => wd_w0
  | 1 => wd_w1
  | _ => noWord
class Cd where
  c_parting_from : Addr
  P_parting_from : Addr
  nd : [P_parting_from].Nodup
variable [Cd]
def nm_parting_from : Nat → Nat → Str := fun _ _ => ((("parting_from" : Str) ++ ".<locals>.") ++ "<lambda>")
instance tbI : Tb := ⟨[(Cd.P_parting_from, nm_parting_from)], words⟩
def codes : List (Addr × Addr) := [(Cd.c_parting_from, Cd.P_parting_from)]
structure Txt (K : PySem.W.Frag) (mg : Str → Option Value) (base : Heap) where
  a_law_well : Addr
  fd_law_well : FuncData
  F_law_well : Fun K "_law_well" "_law_well" s_law_well a_law_well fd_law_well
  m_law_well : mg "_law_well" = some (.ref a_law_well)
  b_law_well : Binds K fd_law_well ["script", "at"] []
  a_law_led : Addr
  fd_law_led : FuncData
  F_law_led : Fun K "_law_led" "_law_led" s_law_led a_law_led fd_law_led
  m_law_led : mg "_law_led" = some (.ref a_law_led)
  b_law_led : Binds K fd_law_led ["summary", "state", "log"] []
  a_law_answer : Addr
  fd_law_answer : FuncData
  F_law_answer : Fun K "_law_answer" "_law_answer" s_law_answer a_law_answer fd_law_answer
  m_law_answer : mg "_law_answer" = some (.ref a_law_answer)
  b_law_answer : Binds K fd_law_answer ["summary", "log"] []
  a_law_take : Addr
  fd_law_take : FuncData
  F_law_take : Fun K "_law_take" "_law_take" s_law_take a_law_take fd_law_take
  m_law_take : mg "_law_take" = some (.ref a_law_take)
  b_law_take : Binds K fd_law_take ["well", "many"] []
  a_law_bent : Addr
  fd_law_bent : FuncData
  F_law_bent : Fun K "_law_bent" "_law_bent" s_law_bent a_law_bent fd_law_bent
  m_law_bent : mg "_law_bent" = some (.ref a_law_bent)
  b_law_bent : Binds K fd_law_bent ["well", "summary"] []
  a_law_equal : Addr
  fd_law_equal : FuncData
  F_law_equal : Fun K "_law_equal" "_law_equal" s_law_equal a_law_equal fd_law_equal
  m_law_equal : mg "_law_equal" = some (.ref a_law_equal)
  b_law_equal : Binds K fd_law_equal ["told", "due"] []
  a_law_apart : Addr
  fd_law_apart : FuncData
  F_law_apart : Fun K "_law_apart" "_law_apart" s_law_apart a_law_apart fd_law_apart
  m_law_apart : mg "_law_apart" = some (.ref a_law_apart)
  b_law_apart : Binds K fd_law_apart ["summary"] []
  a_law_reached : Addr
  fd_law_reached : FuncData
  F_law_reached : Fun K "_law_reached" "_law_reached" s_law_reached a_law_reached fd_law_reached
  m_law_reached : mg "_law_reached" = some (.ref a_law_reached)
  b_law_reached : Binds K fd_law_reached ["summary"] []
  a_law_least : Addr
  fd_law_least : FuncData
  F_law_least : Fun K "_law_least" "_law_least" s_law_least a_law_least fd_law_least
  m_law_least : mg "_law_least" = some (.ref a_law_least)
  b_law_least : Binds K fd_law_least ["summary"] []
  a_law_logs : Addr
  fd_law_logs : FuncData
  F_law_logs : Fun K "_law_logs" "_law_logs" s_law_logs a_law_logs fd_law_logs
  m_law_logs : mg "_law_logs" = some (.ref a_law_logs)
  b_law_logs : Binds K fd_law_logs ["events", "length"] []
  a_law_summary : Addr
  fd_law_summary : FuncData
  F_law_summary : Fun K "_law_summary" "_law_summary" s_law_summary a_law_summary fd_law_summary
  m_law_summary : mg "_law_summary" = some (.ref a_law_summary)
  b_law_summary : Binds K fd_law_summary ["well", "events", "states", "answers"] []
  a_law_twofold : Addr
  fd_law_twofold : FuncData
  F_law_twofold : Fun K "_law_twofold" "_law_twofold" s_law_twofold a_law_twofold fd_law_twofold
  m_law_twofold : mg "_law_twofold" = some (.ref a_law_twofold)
  b_law_twofold : Binds K fd_law_twofold ["well", "summary"] []
  a_is_integer : Addr
  fd_is_integer : FuncData
  F_is_integer : Fun K "is_integer" "is_integer" s_is_integer a_is_integer fd_is_integer
  m_is_integer : mg "is_integer" = some (.ref a_is_integer)
  b_is_integer : Binds K fd_is_integer ["thing"] []
  a_is_from : Addr
  fd_is_from : FuncData
  F_is_from : Fun K "is_from" "is_from" s_is_from a_is_from fd_is_from
  m_is_from : mg "is_from" = some (.ref a_is_from)
  b_is_from : Binds K fd_is_from ["low", "thing"] []
  a_is_below : Addr
  fd_is_below : FuncData
  F_is_below : Fun K "is_below" "is_below" s_is_below a_is_below fd_is_below
  m_is_below : mg "is_below" = some (.ref a_is_below)
  b_is_below : Binds K fd_is_below ["many", "thing"] []
  a_is_row : Addr
  fd_is_row : FuncData
  F_is_row : Fun K "is_row" "is_row" s_is_row a_is_row fd_is_row
  m_is_row : mg "is_row" = some (.ref a_is_row)
  b_is_row : Binds K fd_is_row ["many", "thing"] []
  a_is_tuple : Addr
  fd_is_tuple : FuncData
  F_is_tuple : Fun K "is_tuple" "is_tuple" s_is_tuple a_is_tuple fd_is_tuple
  m_is_tuple : mg "is_tuple" = some (.ref a_is_tuple)
  b_is_tuple : Binds K fd_is_tuple ["many", "thing"] []
  a_summary_fault : Addr
  fd_summary_fault : FuncData
  F_summary_fault : Fun K "summary_fault" "summary_fault" s_summary_fault a_summary_fault fd_summary_fault
  m_summary_fault : mg "summary_fault" = some (.ref a_summary_fault)
  b_summary_fault : Binds K fd_summary_fault ["value"] []
  a_check_summary : Addr
  fd_check_summary : FuncData
  F_check_summary : Fun K "check_summary" "check_summary" s_check_summary a_check_summary fd_check_summary
  m_check_summary : mg "check_summary" = some (.ref a_check_summary)
  b_check_summary : Binds K fd_check_summary ["thing"] []
  a_check_other : Addr
  fd_check_other : FuncData
  F_check_other : Fun K "check_other" "check_other" s_check_other a_check_other fd_check_other
  m_check_other : mg "check_other" = some (.ref a_check_other)
  b_check_other : Binds K fd_check_other ["summary", "thing"] []
  a_first_way : Addr
  fd_first_way : FuncData
  F_first_way : Fun K "first_way" "first_way" s_first_way a_first_way fd_first_way
  m_first_way : mg "first_way" = some (.ref a_first_way)
  b_first_way : Binds K fd_first_way ["events", "start", "step", "is_goal"] []
  a_parting_from : Addr
  fd_parting_from : FuncData
  F_parting_from : Fun K "parting_from" "parting_from" s_parting_from a_parting_from fd_parting_from
  m_parting_from : mg "parting_from" = some (.ref a_parting_from)
  b_parting_from : Binds K fd_parting_from ["summary", "state", "other", "other_state"] []
  cc_parting_from : fd_parting_from.code = .ref Cd.c_parting_from
  a_are_alike : Addr
  fd_are_alike : FuncData
  F_are_alike : Fun K "are_alike" "are_alike" s_are_alike a_are_alike fd_are_alike
  m_are_alike : mg "are_alike" = some (.ref a_are_alike)
  b_are_alike : Binds K fd_are_alike ["summary", "other"] []
  a_kinds_of : Addr
  fd_kinds_of : FuncData
  F_kinds_of : Fun K "kinds_of" "kinds_of" s_kinds_of a_kinds_of fd_kinds_of
  m_kinds_of : mg "kinds_of" = some (.ref a_kinds_of)
  b_kinds_of : Binds K fd_kinds_of ["moves", "marks"] []
  a_spread : Addr
  fd_spread : FuncData
  F_spread : Fun K "spread" "spread" s_spread a_spread fd_spread
  m_spread : mg "spread" = some (.ref a_spread)
  b_spread : Binds K fd_spread ["kinds", "moves"] []
  a_merged : Addr
  fd_merged : FuncData
  F_merged : Fun K "merged" "merged" s_merged a_merged fd_merged
  m_merged : mg "merged" = some (.ref a_merged)
  b_merged : Binds K fd_merged ["events", "moves", "answers"] []
  a_least_in : Addr
  fd_least_in : FuncData
  F_least_in : Fun K "least_in" "least_in" s_least_in a_least_in fd_least_in
  m_least_in : mg "least_in" = some (.ref a_least_in)
  b_least_in : Binds K fd_least_in ["summary"] []
  a_is_least : Addr
  fd_is_least : FuncData
  F_is_least : Fun K "is_least" "is_least" s_is_least a_is_least fd_is_least
  m_is_least : mg "is_least" = some (.ref a_is_least)
  b_is_least : Binds K fd_is_least ["summary"] []
  a_least : Addr
  fd_least : FuncData
  F_least : Fun K "least" "least" s_least a_least fd_least
  m_least : mg "least" = some (.ref a_least)
  b_least : Binds K fd_least ["summary"] []
  a_law_right : Addr
  fd_law_right : FuncData
  F_law_right : Fun K "_law_right" "_law_right" s_law_right a_law_right fd_law_right
  m_law_right : mg "_law_right" = some (.ref a_law_right)
  b_law_right : Binds K fd_law_right ["well"] []
  a_law : Addr
  fd_law : FuncData
  F_law : Fun K "law" "law" s_law a_law fd_law
  m_law : mg "law" = some (.ref a_law)
  b_law : Binds K fd_law ["script"] []
  z_abs : mg "abs" = none
  z_all : mg "all" = none
  z_bool : mg "bool" = none
  z_enumerate : mg "enumerate" = none
  z_int : mg "int" = none
  z_isinstance : mg "isinstance" = none
  z_len : mg "len" = none
  z_list : mg "list" = none
  z_max : mg "max" = none
  z_min : mg "min" = none
  z_range : mg "range" = none
  z_repr : mg "repr" = none
  z_tuple : mg "tuple" = none
  z_zip : mg "zip" = none
  tb : ∀ p ∈ codes, LamX.TabB base mg p.1 p.2
section
variable {P : Program} {w : World} {K : PySem.W.Frag} {mg : Str → Option Value} {base : Heap}
theorem kw_are_alike_p0_other_summary (T : Txt K mg base) : KwOk T.fd_are_alike ["summary", "other"] ["other", "summary"] 0 [1, 0] := kw_of T.F_are_alike fun _ _ _ _ _ _ us ws hu hw => match us, ws, hu, hw with | [], [_, _], _, _ => rfl
theorem kw_least_p0_summary (T : Txt K mg base) : KwOk T.fd_least ["summary"] ["summary"] 0 [0] := kw_of T.F_least fun _ _ _ _ _ _ us ws hu hw => match us, ws, hu, hw with | [], [_], _, _ => rfl
def f_law_well : List D → T D := fun _ => .fail
theorem ok_law_well (T : Txt K mg base) : FnG P w K mg base 1 T.a_law_well T.fd_law_well ["script", "at"] (spWell K) := by
  refine FnG.of_ok (T.F_law_well.okX sc_law_well (fun vs H Q E h => by obtain ⟨a, ns, i, rfl, _⟩ := h; rfl) fun cdv A outer s H vs Q E hr h => ?_)
  obtain ⟨a, ns, i, rfl, hS, hlen, hbits, hi0, hi1, q⟩ := h
  have hl : (ns.map V.int).length ≤ 63 := by rw [List.length_map]; exact hlen
  refine ⟨_, pss_cons (ps_set (i := 2) sc_law_well.nd rfl (.inl rfl) (pe_op op_add (pe_op op_add (pe_op op_mulX pe_int (pv 1)) (pe_op op_mulX pe_int (pe_callB call_len_seq (by rfl) T.z_len (by decide +kernel) (pa_cons (pe_slice sl_list (pv 0) po_none (po_some pe_int)) pa_nil)))) pe_int))
    (pss_cons (ps_for (passes_of rfl) rfl (pi_list (pe_slice sl_list (pv 0) po_none (po_some pe_int))) (pg_name (i := 3) sc_law_well.nd rfl (.inl rfl))
      (pss_one (ps_set (i := 2) sc_law_well.nd rfl (.inl rfl) (pe_op op_mod (pe_callTy call_int1 (by rfl) T.z_int (by decide +kernel) (pa_cons (pe_op op_add (pe_op op_add (pe_op op_mulX (pv 2) pe_int) (pe_op op_mulX (pe_callTy call_int1 (by rfl) T.z_int (by decide +kernel) (pa_cons (pv 3) pa_nil)) pe_int)) pe_int) pa_nil)) (pe_op op_add (pe_op op_powI pe_int pe_int) pe_int)))))
    (pss_cons (ps_set (i := 4) sc_law_well.nd rfl (.inl rfl) (pe_ifExp (pt_cmpR op_lt (pv 1) (pe_callB call_len_seq (by rfl) T.z_len (by decide +kernel) (pa_cons (pv 0) pa_nil)) (nomark _)) (pe_callB call_abs (by rfl) T.z_abs (by decide +kernel) (pa_cons (pe_callTy call_int1 (by rfl) T.z_int (by decide +kernel) (pa_cons (pe_ix ix_list (pv 0) (pv 1) (fun _ _ => rfl)) pa_nil)) pa_nil)) pe_int))
    (pss_one (ps_ret (pe_lst (pa_cons (pe_callB (call_max2 rfl) (by rfl) T.z_max (by decide +kernel) (pa_cons pe_int (pa_cons (pe_op op_sub (pv 4) (pe_op op_powI pe_int pe_int)) pa_nil))) (pa_cons (pv 2) (pa_cons pe_int pa_nil)))))))), ?_⟩
  have c0 : (86243 : Int).natAbs < 2 ^ 17 := by decide
  have c1 : (1009 : Int).natAbs < 2 ^ 17 := by decide
  have d0 : i.natAbs < 2 ^ 6 := by omega
  have d1 : (((ns.map V.int).length : Nat) : Int).natAbs < 2 ^ 6 := by omega
  refine ⟨_, rfl, _, _, rfl, rfl, mul_ok c0 d0 (by decide) (by decide) (by decide), _, rfl, _, rfl, a, _, rfl, hS, fun c nc => ?_⟩
  rw [cut63 hl]
  have k1 := keep_upd (o := .lst (ns.map V.int)) nc
  refine ⟨_, _, rfl, .inl (.inl (.inl upd_same)), _, _, rfl, rfl, mul_ok c1 d1 (by decide) (by decide) (by decide), _, _, rfl, rfl, _, _, rfl, rfl, ?_⟩
  have h1 : SqL K (upd H c (.lst (ns.map V.int))) a (ns.map V.int) := SqL.keep k1 hS
  refine ⟨_, rfl, _, rfl, a, _, rfl, h1, fun c2 nc2 => ?_⟩
  rw [cut63 hl]
  have k2 := keep_upd (o := .lst (ns.map V.int)) nc2
  have h2 : SqL K (upd (upd H c (.lst (ns.map V.int))) c2 (.lst (ns.map V.int))) a (ns.map V.int) := SqL.keep k2 h1
  have kH : ∀ b o, H b = some o → (upd (upd H c (.lst (ns.map V.int))) c2 (.lst (ns.map V.int))) b = some o := fun b o h => k2 b o (k1 b o h)
  have hC : (upd (upd H c (.lst (ns.map V.int))) c2 (.lst (ns.map V.int))) c2 = some (.lst (ns.map V.int)) := upd_same
  revert h2 kH hC
  generalize upd (upd H c (.lst (ns.map V.int))) c2 (.lst (ns.map V.int)) = H2
  intro h2 kH hC
  have s0 : (86243 * i + 1009 * (((ns.map V.int).length : Nat) : Int) + 17).natAbs < 2 ^ 120 := lt_mono (a := 60) (by omega) (by decide)
  have jm : (0 : Int) < 10 ^ (29 : Int).toNat + 319 := by decide +kernel
  have km : ((10 : Int) ^ (29 : Int).toNat + 319).natAbs < 2 ^ 120 := by decide +kernel
  have p1 : PowOk 10 29 := pow_ok (i := 10) (a := 4) (e := 29) (by decide) (by decide) (by decide)
  have p2 : PowOk 10 17 := pow_ok (i := 10) (a := 4) (e := 17) (by decide) (by decide) (by decide)
  have m0 : (6700417 : Int).natAbs < 2 ^ 40 := by decide
  have m1 : (2147483647 : Int).natAbs < 2 ^ 40 := by decide
  refine ⟨_, rfl, ⟨_, SqL.of hC⟩, for_list (K := K) (a := c2) (xs := ns.map V.int) (fun k σ H3 => ∃ (sd : Int) (v3 : Option V), σ = [some (.ref a), some (.int i), some (.int sd), v3, none] ∧ sd.natAbs < 2 ^ 120 ∧ H3 = H2)
    ⟨_, none, rfl, s0, rfl⟩ (fun k σ H3 _ ⟨_, _, _, _, e⟩ => by rw [e]; exact SqL.of hC) ?_ ?_⟩
  · rintro k y σ H3 hk ⟨sd, v3, rfl, hsd, rfl⟩
    obtain ⟨z, hz, rfl⟩ : ∃ z, z ∈ ns ∧ y = V.int z := by
      rw [List.getElem?_map] at hk
      cases e : ns[k]? with
      | none => rw [e] at hk; cases hk
      | some z => rw [e] at hk; exact ⟨z, List.mem_of_getElem? e, (Option.some.inj hk).symm⟩
    have bz := lt_bits (hbits z hz)
    refine ⟨_, rfl, _, _, rfl, rfl, mul_ok hsd m0 (by decide) (by decide) (by decide), _, rfl, .inl ⟨_, rfl, _, _, rfl, rfl, mul_ok bz m1 (by decide) (by decide) (by decide), _, _, rfl, rfl, _, _, rfl, rfl, .inl ⟨_, rfl, _, _, rfl, rfl, p1, _, _, rfl, rfl, _, _, rfl, rfl, jm, ?_⟩⟩⟩
    exact ⟨_, _, rfl, mod_lt jm km, rfl⟩
  · rintro σ H3 ⟨sd, v3, rfl, hsd, rfl⟩
    -- the cell itself
    have fin : ∀ (ow : Int), ow.natAbs < 2 ^ 1048577 → ∀ p, H3 p = none → Q (.ref p) (upd H3 p (.lst [.int (if (ow - 10 ^ (17 : Int).toNat) > 0 then (ow - 10 ^ (17 : Int).toNat) else 0), .int sd, .int 0])) := fun ow how p np => by
      refine q _ p _ sd (fun b o h => keep_upd np b o (kH b o h)) ?_ upd_same ?_ ?_ (lt_mono hsd (by decide))
      · cases e : H p with
        | none => rfl
        | some o => rw [kH p o e] at np; cases np
      · split <;> omega
      · have h10 : ((10 : Int) ^ (17 : Int).toNat).natAbs < 2 ^ 60 := by decide +kernel
        have h11 : (0 : Int) < (10 : Int) ^ (17 : Int).toNat := by decide +kernel
        have big : (2 : Nat) ^ 1048577 ≤ 2 ^ 2000000 := Nat.pow_le_pow_right (by decide) (by decide)
        split
        · exact Nat.lt_of_lt_of_le (by omega : (ow - 10 ^ (17 : Int).toNat).natAbs < 2 ^ 1048577) big
        · exact Nat.pow_pos (by decide)
    refine ⟨_, rfl, _, rfl, a, _, rfl, .inl h2, _, _, rfl, rfl, _, rfl, ite2 (fun e => ?_) (fun e => ?_)⟩
    · have e1 : i < (((ns.map V.int).length : Nat) : Int) := of_decide_eq_true e
      have e2 : i.toNat < ns.length := by rw [List.length_map] at e1; omega
      obtain ⟨z, hz, e3⟩ : ∃ z, z ∈ ns ∧ (ns.map V.int)[i.toNat]? = some (.int z) := ⟨ns[i.toNat], List.getElem_mem e2, by rw [List.getElem?_map, List.getElem?_eq_getElem e2]; rfl⟩
      have bz := lt_bits (hbits _ hz)
      have ea : atI (ns.map V.int) i = some (.int z) := by
        have := atI_nat e3
        rwa [Int.toNat_of_nonneg hi0] at this
      refine ⟨_, rfl, _, rfl, a, _, i, .int z, rfl, rfl, h2, ea, .inl ⟨_, rfl, _, rfl, _, rfl, _, _, rfl, rfl, p2, _, _, rfl, rfl, _, _, rfl, _, rfl, by show 3 ≤ sizeLine; decide, fun p np => ?_⟩⟩
      refine fin _ ?_ p np
      exact lt_mono (a := 1048576) (by split <;> omega) (by decide)
    · exact ⟨_, rfl, _, _, rfl, rfl, p2, _, _, rfl, rfl, _, _, rfl, _, rfl, by show 3 ≤ sizeLine; decide, fun p np => fin 0 (Nat.pow_pos (by decide)) p np⟩

def g_law_led : DEnv → T Fl :=
  (gSeq (gFor (dItems (dSq (dV 2))) (bName 3)
  (gSet 1 (dIx (dSq (dIx (dSq (dIx (dSqV 0) (dC (.int 1)))) (dV 1))) (dV 3))))
  (gRet (dV 1)))
def f_law_led : List D → T D := bodyT 4 g_law_led
theorem ok_law_led (T : Txt K mg base) : FnG P w K mg base 1 T.a_law_led T.fd_law_led ["summary", "state", "log"] (spD K mg 3 f_law_led) :=
  FnG.of_body T.F_law_led sc_law_led g_law_led 4 3 rfl rfl fun cdv A outer s H E hr hG hu tk =>
  (dss_cons (ds_for (passes_of rfl) rfl (di_seq (dQ_fz (de_var 2 (pv 2)))) (dg_name (i := 3) sc_law_led.nd rfl (by first | exact .inl rfl | exact .inr rfl))
  (dss_one (ds_set (i := 1) sc_law_led.nd rfl (by first | exact .inl rfl | exact .inr rfl) (de_ix (dq_of (de_ix (dq_of (de_ix (dq_var 0 (pv 0)) de_int)) (de_var 1 (pv 1)))) (de_var 3 (pv 3))))))
  (dss_one (ds_ret (de_var 1 (pv 1)))))
def g_law_answer : DEnv → T Fl :=
  (gRet (dIx (dSq (dIx (dSqV 0) (dC (.int 2)))) (dCall 3 f_law_led (dCons (dV 0) (dCons (dC (.int 0)) (dCons (dV 1) dNil))))))
def f_law_answer : List D → T D := bodyT 2 g_law_answer
theorem ok_law_answer (T : Txt K mg base) : FnG P w K mg base 2 T.a_law_answer T.fd_law_answer ["summary", "log"] (spD K mg 2 f_law_answer) :=
  FnG.of_body T.F_law_answer sc_law_answer g_law_answer 2 2 rfl rfl fun cdv A outer s H E hr hG hu tk =>
  (dss_one (ds_ret (de_ix (dq_of (de_ix (dq_var 0 (pv 0)) de_int)) (de_call (ok_law_led T) (hr.mono (by decide)) hG tk (by rfl) T.m_law_led T.F_law_led.kp T.b_law_led (da_cons (de_var 0 (pv 0)) (da_cons de_int (da_cons (de_var 1 (pv 1)) da_nil)))))))
def f_law_take : List D → T D := fTake
theorem ok_law_take (T : Txt K mg base) : FnG P w K mg base 1 T.a_law_take T.fd_law_take ["well", "many"] (spD K mg 2 f_law_take) := by
  refine FnG.of_ok (T.F_law_take.okX sc_law_take (fun vs H Q E h => h.1) fun cdv A outer s H vs Q E hr h => ?_)
  obtain ⟨hl, w', F, n, ds, b, r, q⟩ := h
  obtain ⟨m, x, y, z, rfl, hm0, hm1, hn, hw, hx0, hx1, hy, hz0, hz1, _, q⟩ := take_pre b r q
  have hA : SqL K H w' [V.int x, V.int y, V.int z] := SqL.of hw
  refine ⟨_, pss_cons (ps_if (pt_cmpR op_gt (pe_ix ix_list (pv 0) pe_int (fun _ _ => rfl)) pe_int (nomark _))
      (pss_cons (ps_set (i := 2) sc_law_take.nd rfl (.inl rfl) (pe_op op_mod (pe_callTy call_int1 (by rfl) T.z_int (by decide +kernel) (pa_cons (pe_ix ix_list (pv 0) pe_int (fun _ _ => rfl)) pa_nil)) (pv 1)))
      (pss_cons (ps_asg (pe_op op_fdivW (pe_ix ix_list (pv 0) pe_int (fun _ _ => rfl)) (pv 1)) (pg_sub (pv 0) pe_int set_list))
      (pss_one (ps_ret (pv 2))))) pss_nil)
    (pss_cons (ps_asg (pe_op op_add (pe_ix ix_list (pv 0) pe_int (fun _ _ => rfl)) pe_int) (pg_sub (pv 0) pe_int set_list))
    (pss_cons (ps_set (i := 3) sc_law_take.nd rfl (.inl rfl) (pe_op op_mod (pe_callTy call_int1 (by rfl) T.z_int (by decide +kernel) (pa_cons (pe_op op_add (pe_op op_add (pe_op op_powI (pe_op op_add (pe_ix ix_list (pv 0) pe_int (fun _ _ => rfl)) (pe_op op_mulW pe_int (pe_ix ix_list (pv 0) pe_int (fun _ _ => rfl)))) pe_int) (pe_op op_mulW pe_int (pe_ix ix_list (pv 0) pe_int (fun _ _ => rfl)))) pe_int) pa_nil)) (pe_op op_add (pe_op op_powI pe_int pe_int) pe_int)))
    (pss_cons (ps_set (i := 4) sc_law_take.nd rfl (.inl rfl) (pe_op op_mod (pe_callTy call_int1 (by rfl) T.z_int (by decide +kernel) (pa_cons (pe_op op_add (pe_op op_add (pe_op op_powI (pv 3) pe_int) (pe_op op_mulW pe_int (pe_ix ix_list (pv 0) pe_int (fun _ _ => rfl)))) (pe_ix ix_list (pv 0) pe_int (fun _ _ => rfl))) pa_nil)) (pe_op op_add (pe_op op_powI pe_int pe_int) pe_int)))
    (pss_one (ps_ret (pe_op op_mod (pe_callTy call_int1 (by rfl) T.z_int (by decide +kernel) (pa_cons (pe_op op_fdivW (pv 4) (pe_op op_powI pe_int pe_int)) pa_nil)) (pv 1))))))), ?_⟩
  refine ⟨_, rfl, w', _, 0, .int x, rfl, rfl, hA, atI_nat (j := 0) rfl, x, 0, rfl, rfl, _, rfl, ite2 (fun e => ?_) (fun e => ?_)⟩
  · have hx : 0 < x := of_decide_eq_true e
    refine ⟨_, rfl, w', _, 0, .int x, rfl, rfl, hA, atI_nat (j := 0) rfl, .inl ⟨x, rfl, .int m, rfl, x, m, rfl, rfl, hm0, ?_⟩⟩
    refine ⟨_, rfl, w', _, 0, .int x, rfl, rfl, hA, atI_nat (j := 0) rfl, .int m, rfl, x, m, rfl, rfl, wide_div hm0 hm1 (by decide) (by decide), ?_⟩
    refine ⟨_, rfl, w', _, 0, 0, rfl, rfl, hw, rfl, .int (x % m), rfl, ?_⟩
    have h1 := Int.emod_nonneg x (by omega : m ≠ 0)
    have h2 := Int.emod_lt_of_pos x hm0
    exact q (x % m) (x / m) z h1 h2 (Int.ediv_nonneg hx0 (by omega)) (Int.ediv_le_self m hx0) hz0 (by omega)
  · have hz : (z + 1).natAbs < 2 ^ 41 := by
      have : n < 1000000000000 := hn
      omega
    have hB : SqL K (upd H w' (.lst [.int x, .int y, .int (z + 1)])) w' [.int x, .int y, .int (z + 1)] := SqL.of upd_same
    have c0 : ((179424673 : Int)).natAbs < 2 ^ 28 := by decide
    have c1 : ((32452843 : Int)).natAbs < 2 ^ 28 := by decide
    have c2 : ((15485867 : Int)).natAbs < 2 ^ 28 := by decide
    have a0 := add_lt hy (wide_lt c0 hz) (by decide)
    have p0 : PowOk (y + 179424673 * (z + 1)) 3 := pow_ok (e := 3) a0 (by decide) (by decide)
    have p1 : PowOk 10 28 := pow_ok (i := 10) (a := 4) (e := 28) (by decide) (by decide) (by decide)
    have p2 : PowOk 10 26 := pow_ok (i := 10) (a := 4) (e := 26) (by decide) (by decide) (by decide)
    have p3 : PowOk 10 8 := pow_ok (i := 10) (a := 4) (e := 8) (by decide) (by decide) (by decide)
    have j1 : (0 : Int) < 10 ^ (28 : Int).toNat + 331 := by decide +kernel
    have k1 : ((10 : Int) ^ (28 : Int).toNat + 331).natAbs < 2 ^ 110 := by decide +kernel
    have j2 : (0 : Int) < 10 ^ (26 : Int).toNat + 67 := by decide +kernel
    have d3 : CDivW 0 (10 ^ (8 : Int).toNat) := wide_div (b := 40) (by decide +kernel) (by decide +kernel) (by decide) (by decide)
    refine ⟨_, rfl, w', _, 2, .int z, rfl, rfl, hA, atI_nat (j := 2) rfl, z, 1, rfl, rfl, _, rfl, w', _, 2, 2, rfl, rfl, hw, rfl, ?_⟩
    refine ⟨_, rfl, w', _, 1, .int y, rfl, rfl, hB, atI_nat (j := 1) rfl, _, rfl, w', _, 2, .int (z + 1), rfl, rfl, hB, atI_nat (j := 2) rfl, _, _, rfl, rfl, wide_mul c0 hz (by decide) (by decide) (by decide), _, _, rfl, rfl, _, _, rfl, rfl, p0, _, rfl, w', _, 2, .int (z + 1), rfl, rfl, hB, atI_nat (j := 2) rfl, _, _, rfl, rfl, wide_mul c1 hz (by decide) (by decide) (by decide), _, _, rfl, rfl, _, _, rfl, rfl, .inl ⟨_, rfl, _, _, rfl, rfl, p1, _, _, rfl, rfl, _, _, rfl, rfl, j1, ?_⟩⟩
    have p4 : PowOk (((y + 179424673 * (z + 1)) ^ (3 : Int).toNat + 32452843 * (z + 1) + 7) % (10 ^ (28 : Int).toNat + 331)) 2 := pow_ok (e := 2) (mod_lt j1 k1) (by decide) (by decide)
    refine ⟨_, rfl, _, _, rfl, rfl, p4, _, rfl, w', _, 2, .int (z + 1), rfl, rfl, hB, atI_nat (j := 2) rfl, _, _, rfl, rfl, wide_mul c2 hz (by decide) (by decide) (by decide), _, _, rfl, rfl, _, rfl, w', _, 1, .int y, rfl, rfl, hB, atI_nat (j := 1) rfl, _, _, rfl, rfl, .inl ⟨_, rfl, _, _, rfl, rfl, p2, _, _, rfl, rfl, _, _, rfl, rfl, j2, ?_⟩⟩
    refine ⟨_, rfl, _, _, rfl, rfl, p3, _, _, rfl, rfl, d3, .inl ⟨_, rfl, .int m, rfl, _, _, rfl, rfl, hm0, ?_⟩⟩
    exact q _ x (z + 1) (Int.emod_nonneg _ (by omega)) (Int.emod_lt_of_pos _ hm0) hx0 (Int.le_refl _) (by omega) (Int.le_refl _)

def g_law_bent : DEnv → T Fl :=
  (gSeq (gPar 2 3 (dSh (dCall 2 f_law_take (dCons (dV 0) (dCons (dLen (dSq (dIx (dSqV 1) (dC (.int 1))))) dNil)))) (dSh (dCall 2 f_law_take (dCons (dV 0) (dCons (dIx (dSqV 1) (dC (.int 0))) dNil)))))
  (gSeq (gIf (dT (dB opEq (dCall 2 f_law_take (dCons (dV 0) (dCons (dC (.int 2)) dNil))) (dC (.int 0))))
  (gSeq (gSet 4 (dB opAdd (dB opAdd (dSlT (dSq (dIx (dSqV 1) (dC (.int 2)))) dNoP (dP (dV 2))) (dTup (dCons (dCall 2 f_law_take (dCons (dV 0) (dCons (dC (.int 3)) dNil))) dNil))) (dSlT (dSq (dIx (dSqV 1) (dC (.int 2)))) (dP (dB opAdd (dV 2) (dC (.int 1)))) dNoP)))
  (gRet (dB opAdd (dSlT (dSqV 1) dNoP (dP (dC (.int 2)))) (dTup (dCons (dV 4) dNil)))))
  gNil)
  (gSeq (gSet 5 (dB opAdd (dB opAdd (dSlT (dSq (dIx (dSq (dIx (dSqV 1) (dC (.int 1)))) (dV 2))) dNoP (dP (dV 3))) (dTup (dCons (dCall 2 f_law_take (dCons (dV 0) (dCons (dLen (dSq (dIx (dSqV 1) (dC (.int 1))))) dNil))) dNil))) (dSlT (dSq (dIx (dSq (dIx (dSqV 1) (dC (.int 1)))) (dV 2))) (dP (dB opAdd (dV 3) (dC (.int 1)))) dNoP)))
  (gRet (dTup (dCons (dIx (dSqV 1) (dC (.int 0))) (dCons (dB opAdd (dB opAdd (dSlT (dSq (dIx (dSqV 1) (dC (.int 1)))) dNoP (dP (dV 2))) (dTup (dCons (dV 5) dNil))) (dSlT (dSq (dIx (dSqV 1) (dC (.int 1)))) (dP (dB opAdd (dV 2) (dC (.int 1)))) dNoP)) (dCons (dIx (dSqV 1) (dC (.int 2))) dNil))))))))
def f_law_bent : List D → T D := bodyT 6 g_law_bent
theorem ok_law_bent (T : Txt K mg base) : FnG P w K mg base 2 T.a_law_bent T.fd_law_bent ["well", "summary"] (spD K mg 2 f_law_bent) :=
  FnG.of_body T.F_law_bent sc_law_bent g_law_bent 6 2 rfl rfl fun cdv A outer s H E hr hG hu tk =>
  (dss_cons (ds_par rfl sc_law_bent.nd rfl rfl (by decide) rfl rfl (dm_sh (de_call (ok_law_take T) (hr.mono (by decide)) hG tk (by rfl) T.m_law_take T.F_law_take.kp T.b_law_take (da_cons (de_var 0 (pv 0)) (da_cons (de_len (by rfl) T.z_len (dq_of (de_ix (dq_var 1 (pv 1)) de_int))) da_nil)))) (dm_sh (de_call (ok_law_take T) (hr.mono (by decide)) hG tk (by rfl) T.m_law_take T.F_law_take.kp T.b_law_take (da_cons (de_var 0 (pv 0)) (da_cons (de_ix (dq_var 1 (pv 1)) de_int) da_nil)))) (by rfl))
  (dss_cons (ds_if (dt_cmp (or_eq (by exact Nat.lt_of_le_of_lt (Nat.add_le_add_left (by decide) _) hu)) ok_eq (de_call (ok_law_take T) (hr.mono (by decide)) hG tk (by rfl) T.m_law_take T.F_law_take.kp T.b_law_take (da_cons (de_var 0 (pv 0)) (da_cons de_int da_nil))) de_int (nomark _))
  (dss_cons (ds_set (i := 4) sc_law_bent.nd rfl (by first | exact .inl rfl | exact .inr rfl) (de_bin or_add ok_add (de_bin or_add ok_add (de_slT (dq_of (de_ix (dq_var 1 (pv 1)) de_int)) do_none (do_some (de_var 2 (pv 2)))) (de_tup (da_cons (de_call (ok_law_take T) (hr.mono (by decide)) hG tk (by rfl) T.m_law_take T.F_law_take.kp T.b_law_take (da_cons (de_var 0 (pv 0)) (da_cons de_int da_nil))) da_nil))) (de_slT (dq_of (de_ix (dq_var 1 (pv 1)) de_int)) (do_some (de_bin or_add ok_add (de_var 2 (pv 2)) de_int)) do_none)))
  (dss_one (ds_ret (de_bin or_add ok_add (de_slT (dq_var 1 (pv 1)) do_none (do_some de_int)) (de_tup (da_cons (de_var 4 (pv 4)) da_nil))))))
  dss_nil)
  (dss_cons (ds_set (i := 5) sc_law_bent.nd rfl (by first | exact .inl rfl | exact .inr rfl) (de_bin or_add ok_add (de_bin or_add ok_add (de_slT (dq_of (de_ix (dq_of (de_ix (dq_var 1 (pv 1)) de_int)) (de_var 2 (pv 2)))) do_none (do_some (de_var 3 (pv 3)))) (de_tup (da_cons (de_call (ok_law_take T) (hr.mono (by decide)) hG tk (by rfl) T.m_law_take T.F_law_take.kp T.b_law_take (da_cons (de_var 0 (pv 0)) (da_cons (de_len (by rfl) T.z_len (dq_of (de_ix (dq_var 1 (pv 1)) de_int))) da_nil))) da_nil))) (de_slT (dq_of (de_ix (dq_of (de_ix (dq_var 1 (pv 1)) de_int)) (de_var 2 (pv 2)))) (do_some (de_bin or_add ok_add (de_var 3 (pv 3)) de_int)) do_none)))
  (dss_one (ds_ret (de_tup (da_cons (de_ix (dq_var 1 (pv 1)) de_int) (da_cons (de_bin or_add ok_add (de_bin or_add ok_add (de_slT (dq_of (de_ix (dq_var 1 (pv 1)) de_int)) do_none (do_some (de_var 2 (pv 2)))) (de_tup (da_cons (de_var 5 (pv 5)) da_nil))) (de_slT (dq_of (de_ix (dq_var 1 (pv 1)) de_int)) (do_some (de_bin or_add ok_add (de_var 2 (pv 2)) de_int)) do_none)) (da_cons (de_ix (dq_var 1 (pv 1)) de_int) da_nil)))))))))
def g_law_equal : DEnv → T Fl :=
  (gRet (dB opEq (dRepr (dV 0)) (dRepr (dV 1))))
def f_law_equal : List D → T D := bodyT 2 g_law_equal
theorem ok_law_equal (T : Txt K mg base) : FnG P w K mg base 1 T.a_law_equal T.fd_law_equal ["told", "due"] (spD K mg 2 f_law_equal) :=
  FnG.of_body T.F_law_equal sc_law_equal g_law_equal 2 2 rfl rfl fun cdv A outer s H E hr hG hu tk =>
  (dss_one (ds_ret (de_cmp (or_eq (by exact Nat.lt_of_le_of_lt (Nat.add_le_add_left (by decide) _) hu)) ok_eq (de_repr hG hu (by rfl) T.z_repr (de_var 0 (pv 0))) (de_repr hG hu (by rfl) T.z_repr (de_var 1 (pv 1))) (nomark _))))
def g_law_apart : DEnv → T Fl :=
  (gSeq (gPar 1 2 (dSh (dFz (dListRg (dLen (dSq (dIx (dSqV 0) (dC (.int 1)))))))) dNewD)
  (gSeq (gFor (dItems (dSq (dV 1))) (bName 3)
  (gFor (dItems (dSq (dV 1))) (bName 4)
  (gIf (dT (dB opNe (dIx (dSq (dIx (dSqV 0) (dC (.int 2)))) (dV 3)) (dIx (dSq (dIx (dSqV 0) (dC (.int 2)))) (dV 4))))
  (gKput 2 (dTup (dCons (dV 3) (dCons (dV 4) dNil))) (dC (.int 0)))
  gNil)))
  (gSeq (gFor (dRange2 (dC (.int 1)) (dB opAdd (dLen (dSq (dIx (dSqV 0) (dC (.int 1))))) (dC (.int 1)))) (bName 5)
  (gSeq (gSetN 6 (dLst dNil))
  (gSeq (gFor (dItems (dSq (dV 1))) (bName 3)
  (gFor (dItems (dSq (dV 1))) (bName 4)
  (gSeq (gSetN 7 (dLc (dRange1 (dIx (dSqV 0) (dC (.int 0)))) (bName 8) dYes (dTup (dCons (dIx (dSq (dIx (dSq (dIx (dSqV 0) (dC (.int 1)))) (dV 3))) (dV 8)) (dCons (dIx (dSq (dIx (dSq (dIx (dSqV 0) (dC (.int 1)))) (dV 4))) (dV 8)) dNil))) [8]))
  (gIf (dTAnd (dT (dKin false 2 (dTup (dCons (dV 3) (dCons (dV 4) dNil))))) (dT (dB opNe (dFz (dLc (dItems (dSqV 7)) (bName 9) (dT (dKin true 2 (dV 9))) (dV 9) [9])) (dFz (dLst dNil)))))
  (gAppend 6 (dTup (dCons (dV 3) (dCons (dV 4) dNil))))
  gNil))))
  (gFreeze 6 (gFor (dItems (dSq (dV 6))) (bName 9)
  (gKput 2 (dV 9) (dV 5)))))))
  (gFreezeM 2 (gRet (dV 2))))))
def f_law_apart : List D → T D := bodyT 10 g_law_apart
theorem ok_law_apart (T : Txt K mg base) : FnG P w K mg base 1 T.a_law_apart T.fd_law_apart ["summary"] (spD K mg 1 f_law_apart) :=
  FnG.of_body T.F_law_apart sc_law_apart g_law_apart 10 1 rfl rfl fun cdv A outer s H E hr hG hu tk =>
  (dss_cons (ds_parU rfl sc_law_apart.nd rfl rfl (by first | exact .inl rfl | exact .inr rfl) (by first | exact .inl rfl | exact .inr rfl) (dm_sh (de_fz (dn_listRg rfl (by rfl) T.z_list (by rfl) T.z_range (de_len (by rfl) T.z_len (dq_of (de_ix (dq_var 0 (pv 0)) de_int)))))) dm_newD)
  (dss_cons (ds_for (passes_of rfl) rfl (di_seq (dQ_fz (de_var 1 (pv 1)))) (dg_name (i := 3) sc_law_apart.nd rfl (by first | exact .inl rfl | exact .inr rfl))
  (dss_one (ds_for (passes_of rfl) rfl (di_seq (dQ_fz (de_var 1 (pv 1)))) (dg_name (i := 4) sc_law_apart.nd rfl (by first | exact .inl rfl | exact .inr rfl))
  (dss_one (ds_if (dt_cmp (or_ne (by exact Nat.lt_of_le_of_lt (Nat.add_le_add_left (by decide) _) hu)) ok_ne (de_ix (dq_of (de_ix (dq_var 0 (pv 0)) de_int)) (de_var 3 (pv 3))) (de_ix (dq_of (de_ix (dq_var 0 (pv 0)) de_int)) (de_var 4 (pv 4))) (nomark _))
  (dss_one (ds_kput 2 hu (pv 2) (de_tup (da_cons (de_var 3 (pv 3)) (da_cons (de_var 4 (pv 4)) da_nil))) de_int))
  dss_nil)))))
  (dss_cons (ds_for (passes_of rfl) rfl (di_range2 (by rfl) T.z_range de_int (de_bin or_add ok_add (de_len (by rfl) T.z_len (dq_of (de_ix (dq_var 0 (pv 0)) de_int))) de_int)) (dg_name (i := 5) sc_law_apart.nd rfl (by first | exact .inl rfl | exact .inr rfl))
  (dss_cons (ds_setN (i := 6) sc_law_apart.nd rfl (by first | exact .inl rfl | exact .inr rfl) (dn_lst da_nil))
  (dss_cons (ds_for (passes_of rfl) rfl (di_seq (dQ_fz (de_var 1 (pv 1)))) (dg_name (i := 3) sc_law_apart.nd rfl (by first | exact .inl rfl | exact .inr rfl))
  (dss_one (ds_for (passes_of rfl) rfl (di_seq (dQ_fz (de_var 1 (pv 1)))) (dg_name (i := 4) sc_law_apart.nd rfl (by first | exact .inl rfl | exact .inr rfl))
  (dss_cons (ds_setLc (i := 7) (own := [("event", 8)]) rfl sc_law_apart.nd rfl rfl (sw_true rfl rfl rfl (by decide +kernel)) (di_range1 (by rfl) T.z_range (de_ix (dq_var 0 (pv 0)) de_int)) (blkOk_by (own := [("event", 8)]) rfl) (by decide) (fun _ _ _ _ _ => (dg_name (i := 8) sc_law_apart.nd rfl (by first | exact .inl rfl | exact .inr rfl))) (fun _ _ _ _ _ => dts_nil) (fun _ _ _ _ _ => (de_tup (da_cons (de_ix (dq_of (de_ix (dq_of (de_ix (dq_var 0 (pv 0)) de_int)) (de_var 3 (pv 3)))) (de_var 8 (pv 8))) (da_cons (de_ix (dq_of (de_ix (dq_of (de_ix (dq_var 0 (pv 0)) de_int)) (de_var 4 (pv 4)))) (de_var 8 (pv 8))) da_nil)))))
  (dss_one (ds_if (dt_w (dw_and (dt_kin 2 (.inr ⟨rfl, rfl⟩) hu rfl (pv 2) (de_tup (da_cons (de_var 3 (pv 3)) (da_cons (de_var 4 (pv 4)) da_nil)))) (dw_and1 (dt_cmp (or_ne (by exact Nat.lt_of_le_of_lt (Nat.add_le_add_left (by decide) _) hu)) ok_ne (de_fz (dn_lc (own := [("pair", 9)]) rfl sc_law_apart.nd (di_seq (dQ_all (dq_var 7 (pv 7)))) (blkOk_by (own := [("pair", 9)]) rfl) (by decide) (fun _ _ _ _ _ => (dg_name (i := 9) sc_law_apart.nd rfl (by first | exact .inl rfl | exact .inr rfl))) (fun _ _ _ _ _ => (dts_one (dt_kin 2 (.inl ⟨rfl, rfl⟩) hu rfl (pv 2) (de_var 9 (pv 9))))) (fun _ _ _ _ _ => (de_var 9 (pv 9))))) (de_fz (dn_lst da_nil)) (nomark _)))))
  (dss_one (ds_append 6 (pv 6) (de_tup (da_cons (de_var 3 (pv 3)) (da_cons (de_var 4 (pv 4)) da_nil))) (fun t h => pe_bm PySem.F.plainAttrs_list PySem.F.slot_list_append PySem.F.type_list_append mt_append (pv 6) (pa_cons h pa_nil))))
  dss_nil))))))
  (dss_one (ds_freeze 6 (ds_for (passes_of rfl) rfl (di_seq (dQ_fz (de_var 6 (pv 6)))) (dg_name (i := 9) sc_law_apart.nd rfl (by first | exact .inl rfl | exact .inr rfl))
  (dss_one (ds_kput 2 hu (pv 2) (de_var 9 (pv 9)) (de_var 5 (pv 5))))))))))
  (dss_one (ds_freezeM 2 (ds_ret (de_var 2 (pv 2))))))))
def g_law_reached : DEnv → T Fl :=
  (gSeq (gSetN 1 (dLst (dCons (dTup (dCons (dC (.int 0)) (dCons (dTup dNil) dNil))) dNil)))
  (gSeq (gFor (dRange1 (dLen (dSq (dIx (dSqV 0) (dC (.int 1)))))) (bName 2)
  (gIf (dT (dB opLt (dV 2) (dLen (dSqV 1))))
  (gSeq (gAsg (dIx (dSqV 1) (dV 2)) (bTup 2 (bCons (bName 3) (bCons (bName 4) bNil))))
  (gFor (dRange1 (dIx (dSqV 0) (dC (.int 0)))) (bName 5)
  (gSeq (gSet 6 (dIx (dSq (dIx (dSq (dIx (dSqV 0) (dC (.int 1)))) (dV 3))) (dV 5)))
  (gIf (dT (dIn not (dV 6) (dSqN (dLc (dItems (dSqV 1)) (bName 7) dYes (dIx (dSqV 7) (dC (.int 0))) [7]))))
  (gAppend 1 (dTup (dCons (dV 6) (dCons (dB opAdd (dV 4) (dTup (dCons (dV 5) dNil))) dNil))))
  gNil))))
  gNil))
  (gFreeze 1 (gRet (dV 1)))))
def f_law_reached : List D → T D := bodyT 8 g_law_reached
theorem ok_law_reached (T : Txt K mg base) : FnG P w K mg base 1 T.a_law_reached T.fd_law_reached ["summary"] (spD K mg 1 f_law_reached) :=
  FnG.of_body T.F_law_reached sc_law_reached g_law_reached 8 1 rfl rfl fun cdv A outer s H E hr hG hu tk =>
  (dss_cons (ds_setN (i := 1) sc_law_reached.nd rfl (by first | exact .inl rfl | exact .inr rfl) (dn_lst (da_cons (de_tup (da_cons de_int (da_cons (de_tup da_nil) da_nil))) da_nil)))
  (dss_cons (ds_for (passes_of rfl) rfl (di_range1 (by rfl) T.z_range (de_len (by rfl) T.z_len (dq_of (de_ix (dq_var 0 (pv 0)) de_int)))) (dg_name (i := 2) sc_law_reached.nd rfl (by first | exact .inl rfl | exact .inr rfl))
  (dss_one (ds_if (dt_cmp op_lt ok_lt (de_var 2 (pv 2)) (de_len (by rfl) T.z_len (dq_var 1 (pv 1))) (nomark _))
  (dss_cons (ds_asg (de_ix (dq_var 1 (pv 1)) (de_var 2 (pv 2))) (dg_tup rfl (dgs_cons (dg_name (i := 3) sc_law_reached.nd rfl (by first | exact .inl rfl | exact .inr rfl)) (dgs_cons (dg_name (i := 4) sc_law_reached.nd rfl (by first | exact .inl rfl | exact .inr rfl)) dgs_nil))))
  (dss_one (ds_for (passes_of rfl) rfl (di_range1 (by rfl) T.z_range (de_ix (dq_var 0 (pv 0)) de_int)) (dg_name (i := 5) sc_law_reached.nd rfl (by first | exact .inl rfl | exact .inr rfl))
  (dss_cons (ds_set (i := 6) sc_law_reached.nd rfl (by first | exact .inl rfl | exact .inr rfl) (de_ix (dq_of (de_ix (dq_of (de_ix (dq_var 0 (pv 0)) de_int)) (de_var 3 (pv 3)))) (de_var 5 (pv 5))))
  (dss_one (ds_if (dt_in (or_notin (by exact Nat.lt_of_le_of_lt (Nat.add_le_add_left (by decide) _) hu)) (rfl) (de_var 6 (pv 6)) (dq_new (dn_lc (own := [("one", 7)]) rfl sc_law_reached.nd (di_seq (dQ_all (dq_var 1 (pv 1)))) (blkOk_by (own := [("one", 7)]) rfl) (by decide) (fun _ _ _ _ _ => (dg_name (i := 7) sc_law_reached.nd rfl (by first | exact .inl rfl | exact .inr rfl))) (fun _ _ _ _ _ => dts_nil) (fun _ _ _ _ _ => (de_ix (dq_var 7 (pv 7)) de_int)))))
  (dss_one (ds_append 1 (pv 1) (de_tup (da_cons (de_var 6 (pv 6)) (da_cons (de_bin or_add ok_add (de_var 4 (pv 4)) (de_tup (da_cons (de_var 5 (pv 5)) da_nil))) da_nil))) (fun t h => pe_bm PySem.F.plainAttrs_list PySem.F.slot_list_append PySem.F.type_list_append mt_append (pv 1) (pa_cons h pa_nil))))
  dss_nil))))))
  dss_nil)))
  (dss_one (ds_freeze 1 (ds_ret (de_var 1 (pv 1)))))))
def g_law_least : DEnv → T Fl :=
  (gSeq (gPar3 1 2 3 (dSh (dCall 1 f_law_apart (dCons (dV 0) dNil))) (dOwn (dLst dNil)) dNewD)
  (gSeq (gFor (dItems (dSq (dCall 1 f_law_reached (dCons (dV 0) dNil)))) (bTup 2 (bCons (bName 4) (bCons (bName 5) bNil)))
  (gSeq (gSetN 6 (dLc (dItems (dSqV 2)) (bName 7) (dT (dVin false (dTup (dCons (dV 7) (dCons (dV 4) dNil))) (dV 1))) (dV 7) [7]))
  (gSeq (gFreeze 6 (gIf (dT (dB opEq (dV 6) (dFz (dLst dNil))))
  (gAppend 2 (dV 4))
  gNil))
  (gFreeze 6 (gKput 3 (dV 4) (dIf (dT (dB opNe (dV 6) (dFz (dLst dNil)))) (dIndex (dSqV 2) (dIx (dSqV 6) (dC (.int 0)))) (dB opSub (dLen (dSqV 2)) (dC (.int 1)))))))))
  (gSeq (gSetN 8 (dLc (dItems (dSqV 2)) (bName 4) dYes (dTupOf (dSqN (dLc (dItems (dSq (dIx (dSq (dIx (dSqV 0) (dC (.int 1)))) (dV 4)))) (bName 9) dYes (dKget 3 (dV 9)) [9]))) [4]))
  (gRet (dTup (dCons (dIx (dSqV 0) (dC (.int 0))) (dCons (dTupOf (dSqV 8)) (dCons (dTupOf (dSqN (dLc (dItems (dSqV 2)) (bName 4) dYes (dIx (dSq (dIx (dSqV 0) (dC (.int 2)))) (dV 4)) [4]))) dNil))))))))
def f_law_least : List D → T D := bodyT 10 g_law_least
theorem ok_law_least (T : Txt K mg base) : FnG P w K mg base 2 T.a_law_least T.fd_law_least ["summary"] (spD K mg 1 f_law_least) :=
  FnG.of_body T.F_law_least sc_law_least g_law_least 10 1 rfl rfl fun cdv A outer s H E hr hG hu tk =>
  (dss_cons (ds_par3U rfl sc_law_least.nd rfl rfl rfl (by first | exact .inl rfl | exact .inr rfl) (by first | exact .inl rfl | exact .inr rfl) (by first | exact .inl rfl | exact .inr rfl) (dm_sh (de_call (ok_law_apart T) (hr.mono (by decide)) hG tk (by rfl) T.m_law_apart T.F_law_apart.kp T.b_law_apart (da_cons (de_var 0 (pv 0)) da_nil))) (dm_own (dn_lst da_nil)) dm_newD)
  (dss_cons (ds_for (passes_of rfl) rfl (di_seq (dQ_fz (de_call (ok_law_reached T) (hr.mono (by decide)) hG tk (by rfl) T.m_law_reached T.F_law_reached.kp T.b_law_reached (da_cons (de_var 0 (pv 0)) da_nil)))) (dg_tup rfl (dgs_cons (dg_name (i := 4) sc_law_least.nd rfl (by first | exact .inl rfl | exact .inr rfl)) (dgs_cons (dg_name (i := 5) sc_law_least.nd rfl (by first | exact .inl rfl | exact .inr rfl)) dgs_nil)))
  (dss_cons (ds_setLc (i := 6) (own := [("one", 7)]) rfl sc_law_least.nd rfl rfl (sw_true rfl rfl rfl (by decide +kernel)) (di_seq (dQ_all (dq_var 2 (pv 2)))) (blkOk_by (own := [("one", 7)]) rfl) (by decide) (fun _ _ _ _ _ => (dg_name (i := 7) sc_law_least.nd rfl (by first | exact .inl rfl | exact .inr rfl))) (fun _ _ _ _ _ => (dts_one (dt_vin (.inr ⟨rfl, rfl⟩) hu rfl (de_var 1 (pv 1)) (de_tup (da_cons (de_var 7 (pv 7)) (da_cons (de_var 4 (pv 4)) da_nil)))))) (fun _ _ _ _ _ => (de_var 7 (pv 7))))
  (dss_cons (ds_freeze 6 (ds_if (dt_cmp (or_eq (by exact Nat.lt_of_le_of_lt (Nat.add_le_add_left (by decide) _) hu)) ok_eq (de_var 6 (pv 6)) (de_fz (dn_lst da_nil)) (nomark _))
  (dss_one (ds_append 2 (pv 2) (de_var 4 (pv 4)) (fun t h => pe_bm PySem.F.plainAttrs_list PySem.F.slot_list_append PySem.F.type_list_append mt_append (pv 2) (pa_cons h pa_nil))))
  dss_nil))
  (dss_one (ds_freeze 6 (ds_kput 3 hu (pv 3) (de_var 4 (pv 4)) (de_if (dt_cmp (or_ne (by exact Nat.lt_of_le_of_lt (Nat.add_le_add_left (by decide) _) hu)) ok_ne (de_var 6 (pv 6)) (de_fz (dn_lst da_nil)) (nomark _)) (de_index (dq_var 2 (pv 2)) (de_ix (dq_var 6 (pv 6)) de_int) fun _ _ ho he => pe_bm PySem.F.plainAttrs_list PySem.F.slot_list_index PySem.F.type_list_index (mt_indexD (by exact Nat.lt_of_le_of_lt (Nat.add_le_add_left (by decide) _) hu)) ho (pa_cons he pa_nil)) (de_bin op_sub ok_sub (de_len (by rfl) T.z_len (dq_var 2 (pv 2))) de_int))))))))
  (dss_cons (ds_setLc (i := 8) (own := [("state", 4)]) rfl sc_law_least.nd rfl rfl (sw_true rfl rfl rfl (by decide +kernel)) (di_seq (dQ_all (dq_var 2 (pv 2)))) (blkOk_by (own := [("state", 4)]) rfl) (by decide) (fun _ _ _ _ _ => (dg_name (i := 4) sc_law_least.nd rfl (by first | exact .inl rfl | exact .inr rfl))) (fun _ _ _ _ _ => dts_nil) (fun _ _ _ _ _ => (de_tupOf (by rfl) T.z_tuple (dq_new (dn_lc (own := [("later", 9)]) rfl sc_law_least.nd (di_seq (dQ_all (dq_of (de_ix (dq_of (de_ix (dq_var 0 (pv 0)) de_int)) (de_var 4 (pv 4)))))) (blkOk_by (own := [("later", 9)]) rfl) (by decide) (fun _ _ _ _ _ => (dg_name (i := 9) sc_law_least.nd rfl (by first | exact .inl rfl | exact .inr rfl))) (fun _ _ _ _ _ => dts_nil) (fun _ _ _ _ _ => (de_kget 3 hu (pv 3) (de_var 9 (pv 9)) (fun _ _ => rfl))))))))
  (dss_one (ds_ret (de_tup (da_cons (de_ix (dq_var 0 (pv 0)) de_int) (da_cons (de_tupOf (by rfl) T.z_tuple (dq_var 8 (pv 8))) (da_cons (de_tupOf (by rfl) T.z_tuple (dq_new (dn_lc (own := [("state", 4)]) rfl sc_law_least.nd (di_seq (dQ_all (dq_var 2 (pv 2)))) (blkOk_by (own := [("state", 4)]) rfl) (by decide) (fun _ _ _ _ _ => (dg_name (i := 4) sc_law_least.nd rfl (by first | exact .inl rfl | exact .inr rfl))) (fun _ _ _ _ _ => dts_nil) (fun _ _ _ _ _ => (de_ix (dq_of (de_ix (dq_var 0 (pv 0)) de_int)) (de_var 4 (pv 4))))))) da_nil)))))))))
def g_law_logs : DEnv → T Fl :=
  (gSeq (gPar 2 3 (dSh (dFz (dLst (dCons (dTup dNil) dNil)))) (dOwn (dLst (dCons (dTup dNil) dNil))))
  (gSeq (gFor (dRange1 (dV 1)) (bName 4)
  (gSeq (gSetN 5 (dLst dNil))
  (gSeq (gFor (dItems (dSq (dV 2))) (bName 6)
  (gExtend 5 (dSqN (dLc (dRange1 (dV 0)) (bName 7) dYes (dB opAdd (dV 6) (dTup (dCons (dV 7) dNil))) [7]))))
  (gSeq (gFreeze 5 (gSet 2 (dV 5)))
  (gExtend 3 (dSqV 2))))))
  (gFreeze 3 (gRet (dV 3)))))
def f_law_logs : List D → T D := bodyT 8 g_law_logs
theorem ok_law_logs (T : Txt K mg base) : FnG P w K mg base 1 T.a_law_logs T.fd_law_logs ["events", "length"] (spD K mg 2 f_law_logs) :=
  FnG.of_body T.F_law_logs sc_law_logs g_law_logs 8 2 rfl rfl fun cdv A outer s H E hr hG hu tk =>
  (dss_cons (ds_par rfl sc_law_logs.nd rfl rfl (by decide) rfl rfl (dm_sh (de_fz (dn_lst (da_cons (de_tup da_nil) da_nil)))) (dm_own (dn_lst (da_cons (de_tup da_nil) da_nil))) (by rfl))
  (dss_cons (ds_for (passes_of rfl) rfl (di_range1 (by rfl) T.z_range (de_var 1 (pv 1))) (dg_name (i := 4) sc_law_logs.nd rfl (by first | exact .inl rfl | exact .inr rfl))
  (dss_cons (ds_setN (i := 5) sc_law_logs.nd rfl (by first | exact .inl rfl | exact .inr rfl) (dn_lst da_nil))
  (dss_cons (ds_for (passes_of rfl) rfl (di_seq (dQ_fz (de_var 2 (pv 2)))) (dg_name (i := 6) sc_law_logs.nd rfl (by first | exact .inl rfl | exact .inr rfl))
  (dss_one (ds_extend 5 (pv 5) (dq_new (dn_lc (own := [("event", 7)]) rfl sc_law_logs.nd (di_range1 (by rfl) T.z_range (de_var 0 (pv 0))) (blkOk_by (own := [("event", 7)]) rfl) (by decide) (fun _ _ _ _ _ => (dg_name (i := 7) sc_law_logs.nd rfl (by first | exact .inl rfl | exact .inr rfl))) (fun _ _ _ _ _ => dts_nil) (fun _ _ _ _ _ => (de_bin or_add ok_add (de_var 6 (pv 6)) (de_tup (da_cons (de_var 7 (pv 7)) da_nil)))))) (fun t h => pe_bm PySem.F.plainAttrs_list PySem.F.slot_list_extend PySem.F.type_list_extend mt_extend (pv 5) (pa_cons h pa_nil)))))
  (dss_cons (ds_freeze 5 (ds_set (i := 2) sc_law_logs.nd rfl (by first | exact .inl rfl | exact .inr rfl) (de_var 5 (pv 5))))
  (dss_one (ds_extend 3 (pv 3) (dq_var 2 (pv 2)) (fun t h => pe_bm PySem.F.plainAttrs_list PySem.F.slot_list_extend PySem.F.type_list_extend mt_extend (pv 3) (pa_cons h pa_nil))))))))
  (dss_one (ds_freeze 3 (ds_ret (de_var 3 (pv 3)))))))
def g_law_summary : DEnv → T Fl :=
  (gSeq (gSetN 4 (dLst dNil))
  (gSeq (gFor (dRange1 (dV 2)) (bName 5)
  (gAppend 4 (dTupOf (dSqN (dLc (dRange1 (dV 1)) (bName 6) dYes (dCall 2 f_law_take (dCons (dV 0) (dCons (dV 2) dNil))) [6])))))
  (gRet (dTup (dCons (dV 1) (dCons (dTupOf (dSqV 4)) (dCons (dTupOf (dSqN (dLc (dRange1 (dV 2)) (bName 5) dYes (dCall 2 f_law_take (dCons (dV 0) (dCons (dV 3) dNil))) [5]))) dNil)))))))
def f_law_summary : List D → T D := bodyT 7 g_law_summary
theorem ok_law_summary (T : Txt K mg base) : FnG P w K mg base 2 T.a_law_summary T.fd_law_summary ["well", "events", "states", "answers"] (spD K mg 4 f_law_summary) :=
  FnG.of_body T.F_law_summary sc_law_summary g_law_summary 7 4 rfl rfl fun cdv A outer s H E hr hG hu tk =>
  (dss_cons (ds_setN (i := 4) sc_law_summary.nd rfl (by first | exact .inl rfl | exact .inr rfl) (dn_lst da_nil))
  (dss_cons (ds_for (passes_of rfl) rfl (di_range1 (by rfl) T.z_range (de_var 2 (pv 2))) (dg_name (i := 5) sc_law_summary.nd rfl (by first | exact .inl rfl | exact .inr rfl))
  (dss_one (ds_append 4 (pv 4) (de_tupOf (by rfl) T.z_tuple (dq_new (dn_lc (own := [("event", 6)]) rfl sc_law_summary.nd (di_range1 (by rfl) T.z_range (de_var 1 (pv 1))) (blkOk_by (own := [("event", 6)]) rfl) (by decide) (fun _ _ _ _ _ => (dg_name (i := 6) sc_law_summary.nd rfl (by first | exact .inl rfl | exact .inr rfl))) (fun _ _ _ _ _ => dts_nil) (fun _ _ _ _ _ => (de_call (ok_law_take T) (hr.mono (by decide)) hG takes0 (by rfl) T.m_law_take T.F_law_take.kp T.b_law_take (da_cons (de_var 0 (pv 0)) (da_cons (de_var 2 (pv 2)) da_nil))))))) (fun t h => pe_bm PySem.F.plainAttrs_list PySem.F.slot_list_append PySem.F.type_list_append mt_append (pv 4) (pa_cons h pa_nil)))))
  (dss_one (ds_ret (de_tup (da_cons (de_var 1 (pv 1)) (da_cons (de_tupOf (by rfl) T.z_tuple (dq_var 4 (pv 4))) (da_cons (de_tupOf (by rfl) T.z_tuple (dq_new (dn_lc (own := [("state", 5)]) rfl sc_law_summary.nd (di_range1 (by rfl) T.z_range (de_var 2 (pv 2))) (blkOk_by (own := [("state", 5)]) rfl) (by decide) (fun _ _ _ _ _ => (dg_name (i := 5) sc_law_summary.nd rfl (by first | exact .inl rfl | exact .inr rfl))) (fun _ _ _ _ _ => dts_nil) (fun _ _ _ _ _ => (de_call (ok_law_take T) (hr.mono (by decide)) hG takes0 (by rfl) T.m_law_take T.F_law_take.kp T.b_law_take (da_cons (de_var 0 (pv 0)) (da_cons (de_var 3 (pv 3)) da_nil))))))) da_nil))))))))
def g_law_twofold : DEnv → T Fl :=
  (gSeq (gPar3 2 3 4 (dSh (dLen (dSq (dIx (dSqV 1) (dC (.int 1)))))) (dOwn (dLst dNil)) (dOwn (dLst dNil)))
  (gSeq (gFor (dRange1 (dC (.int 2))) (bName 5)
  (gFor (dRange1 (dV 2)) (bName 6)
  (gSeq (gAppend 3 (dTupOf (dSqN (dLc (dItems (dSq (dIx (dSq (dIx (dSqV 1) (dC (.int 1)))) (dV 6)))) (bName 7) dYes (dB opAdd (dV 7) (dB opMul (dV 2) (dCall 2 f_law_take (dCons (dV 0) (dCons (dC (.int 2)) dNil))))) [7]))))
  (gAppend 4 (dIx (dSq (dIx (dSqV 1) (dC (.int 2)))) (dV 6))))))
  (gSeq (gAppend 3 (dTupOf (dSqN (dLc (dRange1 (dIx (dSqV 1) (dC (.int 0)))) (bName 8) dYes (dCall 2 f_law_take (dCons (dV 0) (dCons (dB opMul (dC (.int 2)) (dV 2)) dNil))) [8]))))
  (gRet (dTup (dCons (dIx (dSqV 1) (dC (.int 0))) (dCons (dTupOf (dSqV 3)) (dCons (dTupOf (dSqN (dCat (dSqV 4) (dSqN (dLst (dCons (dCall 2 f_law_take (dCons (dV 0) (dCons (dC (.int 3)) dNil))) dNil)))))) dNil))))))))
def f_law_twofold : List D → T D := bodyT 9 g_law_twofold
theorem ok_law_twofold (T : Txt K mg base) : FnG P w K mg base 2 T.a_law_twofold T.fd_law_twofold ["well", "summary"] (spD K mg 2 f_law_twofold) :=
  FnG.of_body T.F_law_twofold sc_law_twofold g_law_twofold 9 2 rfl rfl fun cdv A outer s H E hr hG hu tk =>
  (dss_cons (ds_par3U rfl sc_law_twofold.nd rfl rfl rfl (by first | exact .inl rfl | exact .inr rfl) (by first | exact .inl rfl | exact .inr rfl) (by first | exact .inl rfl | exact .inr rfl) (dm_sh (de_len (by rfl) T.z_len (dq_of (de_ix (dq_var 1 (pv 1)) de_int)))) (dm_own (dn_lst da_nil)) (dm_own (dn_lst da_nil)))
  (dss_cons (ds_for (passes_of rfl) rfl (di_range1 (by rfl) T.z_range de_int) (dg_name (i := 5) sc_law_twofold.nd rfl (by first | exact .inl rfl | exact .inr rfl))
  (dss_one (ds_for (passes_of rfl) rfl (di_range1 (by rfl) T.z_range (de_var 2 (pv 2))) (dg_name (i := 6) sc_law_twofold.nd rfl (by first | exact .inl rfl | exact .inr rfl))
  (dss_cons (ds_append 3 (pv 3) (de_tupOf (by rfl) T.z_tuple (dq_new (dn_lc (own := [("later", 7)]) rfl sc_law_twofold.nd (di_seq (dQ_all (dq_of (de_ix (dq_of (de_ix (dq_var 1 (pv 1)) de_int)) (de_var 6 (pv 6)))))) (blkOk_by (own := [("later", 7)]) rfl) (by decide) (fun _ _ _ _ _ => (dg_name (i := 7) sc_law_twofold.nd rfl (by first | exact .inl rfl | exact .inr rfl))) (fun _ _ _ _ _ => dts_nil) (fun _ _ _ _ _ => (de_bin or_add ok_add (de_var 7 (pv 7)) (de_bin op_mul ok_mul (de_var 2 (pv 2)) (de_call (ok_law_take T) (hr.mono (by decide)) hG takes0 (by rfl) T.m_law_take T.F_law_take.kp T.b_law_take (da_cons (de_var 0 (pv 0)) (da_cons de_int da_nil))))))))) (fun t h => pe_bm PySem.F.plainAttrs_list PySem.F.slot_list_append PySem.F.type_list_append mt_append (pv 3) (pa_cons h pa_nil)))
  (dss_one (ds_append 4 (pv 4) (de_ix (dq_of (de_ix (dq_var 1 (pv 1)) de_int)) (de_var 6 (pv 6))) (fun t h => pe_bm PySem.F.plainAttrs_list PySem.F.slot_list_append PySem.F.type_list_append mt_append (pv 4) (pa_cons h pa_nil))))))))
  (dss_cons (ds_append 3 (pv 3) (de_tupOf (by rfl) T.z_tuple (dq_new (dn_lc (own := [("event", 8)]) rfl sc_law_twofold.nd (di_range1 (by rfl) T.z_range (de_ix (dq_var 1 (pv 1)) de_int)) (blkOk_by (own := [("event", 8)]) rfl) (by decide) (fun _ _ _ _ _ => (dg_name (i := 8) sc_law_twofold.nd rfl (by first | exact .inl rfl | exact .inr rfl))) (fun _ _ _ _ _ => dts_nil) (fun _ _ _ _ _ => (de_call (ok_law_take T) (hr.mono (by decide)) hG takes0 (by rfl) T.m_law_take T.F_law_take.kp T.b_law_take (da_cons (de_var 0 (pv 0)) (da_cons (de_bin op_mul ok_mul de_int (de_var 2 (pv 2))) da_nil))))))) (fun t h => pe_bm PySem.F.plainAttrs_list PySem.F.slot_list_append PySem.F.type_list_append mt_append (pv 3) (pa_cons h pa_nil)))
  (dss_one (ds_ret (de_tup (da_cons (de_ix (dq_var 1 (pv 1)) de_int) (da_cons (de_tupOf (by rfl) T.z_tuple (dq_var 3 (pv 3))) (da_cons (de_tupOf (by rfl) T.z_tuple (dq_new (dn_cat (dq_var 4 (pv 4)) (dq_new (dn_lst (da_cons (de_call (ok_law_take T) (hr.mono (by decide)) hG tk (by rfl) T.m_law_take T.F_law_take.kp T.b_law_take (da_cons (de_var 0 (pv 0)) (da_cons de_int da_nil))) da_nil)))))) da_nil)))))))))
def g_is_integer : DEnv → T Fl :=
  (gRet (dAnd (dIsi "int" (dV 0)) (dNot (dIsi "bool" (dV 0)))))
def f_is_integer : List D → T D := bodyT 1 g_is_integer
theorem ok_is_integer (T : Txt K mg base) : FnG P w K mg base 1 T.a_is_integer T.fd_is_integer ["thing"] (spD K mg 1 f_is_integer) :=
  FnG.of_body T.F_is_integer sc_is_integer g_is_integer 1 1 rfl rfl fun cdv A outer s H E hr hG hu tk =>
  (dss_one (ds_ret (de_and (de_isi (Ts := "int") (by rfl) T.z_isinstance (by rfl) T.z_int (by decide +kernel) (by decide) (by decide) (by decide +kernel) (de_var 0 (pv 0))) (de_one (de_not (de_isi (Ts := "bool") (by rfl) T.z_isinstance (by rfl) T.z_bool (by decide +kernel) (by decide) (by decide) (by decide +kernel) (de_var 0 (pv 0))))))))
def g_is_from : DEnv → T Fl :=
  (gRet (dAnd (dCall 1 f_is_integer (dCons (dV 1) dNil)) (dB opGe (dV 1) (dV 0))))
def f_is_from : List D → T D := bodyT 2 g_is_from
theorem ok_is_from (T : Txt K mg base) : FnG P w K mg base 2 T.a_is_from T.fd_is_from ["low", "thing"] (spD K mg 2 f_is_from) :=
  FnG.of_body T.F_is_from sc_is_from g_is_from 2 2 rfl rfl fun cdv A outer s H E hr hG hu tk =>
  (dss_one (ds_ret (de_and (de_call (ok_is_integer T) (hr.mono (by decide)) hG tk (by rfl) T.m_is_integer T.F_is_integer.kp T.b_is_integer (da_cons (de_var 1 (pv 1)) da_nil)) (de_one (de_cmp op_ge ok_ge (de_var 1 (pv 1)) (de_var 0 (pv 0)) (nomark _))))))
def g_is_below : DEnv → T Fl :=
  (gRet (dAnd (dCall 2 f_is_from (dCons (dC (.int 0)) (dCons (dV 1) dNil))) (dB opLt (dV 1) (dV 0))))
def f_is_below : List D → T D := bodyT 2 g_is_below
theorem ok_is_below (T : Txt K mg base) : FnG P w K mg base 3 T.a_is_below T.fd_is_below ["many", "thing"] (spD K mg 2 f_is_below) :=
  FnG.of_body T.F_is_below sc_is_below g_is_below 2 2 rfl rfl fun cdv A outer s H E hr hG hu tk =>
  (dss_one (ds_ret (de_and (de_call (ok_is_from T) (hr.mono (by decide)) hG tk (by rfl) T.m_is_from T.F_is_from.kp T.b_is_from (da_cons de_int (da_cons (de_var 1 (pv 1)) da_nil))) (de_one (de_cmp op_lt ok_lt (de_var 1 (pv 1)) (de_var 0 (pv 0)) (nomark _))))))
def g_is_row : DEnv → T Fl :=
  (gRet (dAnd (dIsi "tuple" (dV 1)) (dQuant (·.all id) (dSqN (dLc (dItems (dSqV 1)) (bName 2) dYes (dCall 2 f_is_below (dCons (dV 0) (dCons (dV 2) dNil))) [2])))))
def f_is_row : List D → T D := bodyT 3 g_is_row
theorem ok_is_row (T : Txt K mg base) : FnG P w K mg base 4 T.a_is_row T.fd_is_row ["many", "thing"] (spD K mg 2 f_is_row) :=
  FnG.of_body T.F_is_row sc_is_row g_is_row 3 2 rfl rfl fun cdv A outer s H E hr hG hu tk =>
  (dss_one (ds_ret (de_and (de_isi (Ts := "tuple") (by rfl) T.z_isinstance (by rfl) T.z_tuple (by decide +kernel) (by decide) (by decide) (by decide +kernel) (de_var 1 (pv 1))) (de_one (de_all rfl (by rfl) T.z_all (dq_new (dn_lc (own := [("one", 2)]) rfl sc_is_row.nd (di_seq (dQ_all (dq_var 1 (pv 1)))) (blkOk_by (own := [("one", 2)]) rfl) (by decide) (fun _ _ _ _ _ => (dg_name (i := 2) sc_is_row.nd rfl (by first | exact .inl rfl | exact .inr rfl))) (fun _ _ _ _ _ => dts_nil) (fun _ _ _ _ _ => (de_call (ok_is_below T) (hr.mono (by decide)) hG takes0 (by rfl) T.m_is_below T.F_is_below.kp T.b_is_below (da_cons (de_var 0 (pv 0)) (da_cons (de_var 2 (pv 2)) da_nil)))))))))))
def g_is_tuple : DEnv → T Fl :=
  (gRet (dAnd (dIsi "tuple" (dV 1)) (dOr (dB (opIs id) (dV 0) (dC .non)) (dB opEq (dLen (dSqV 1)) (dV 0)))))
def f_is_tuple : List D → T D := bodyT 2 g_is_tuple
theorem ok_is_tuple (T : Txt K mg base) : FnG P w K mg base 1 T.a_is_tuple T.fd_is_tuple ["many", "thing"] (spD K mg 2 f_is_tuple) :=
  FnG.of_body T.F_is_tuple sc_is_tuple g_is_tuple 2 2 rfl rfl fun cdv A outer s H E hr hG hu tk =>
  (dss_one (ds_ret (de_and (de_isi (Ts := "tuple") (by rfl) T.z_isinstance (by rfl) T.z_tuple (by decide +kernel) (by decide) (by decide) (by decide +kernel) (de_var 1 (pv 1))) (de_one (de_or (de_cmp op_isN ok_is (de_var 0 (pv 0)) de_non (nomark _)) (de_one (de_cmp (or_eq (by exact Nat.lt_of_le_of_lt (Nat.add_le_add_left (by decide) _) hu)) ok_eq (de_len (by rfl) T.z_len (dq_var 1 (pv 1))) (de_var 0 (pv 0)) (nomark _))))))))
def g_summary_fault : DEnv → T Fl :=
  (gSeq (gIf (dTNot (dT (dCall 2 f_is_tuple (dCons (dC (.int 3)) (dCons (dV 0) dNil)))))
  (gRet (dTup dNil))
  gNil)
  (gSeq (gIf (dTNot (dT (dCall 2 f_is_from (dCons (dC (.int 1)) (dCons (dIx (dSqV 0) (dC (.int 0))) dNil)))))
  (gRet (dTup (dCons (dC (.int 0)) dNil)))
  gNil)
  (gSeq (gIf (dTOr (dTNot (dT (dIsi "tuple" (dIx (dSqV 0) (dC (.int 1)))))) (dT (dB opEq (dIx (dSqV 0) (dC (.int 1))) (dTup dNil))))
  (gRet (dTup (dCons (dC (.int 1)) dNil)))
  gNil)
  (gSeq (gFor (dEnum (dSq (dIx (dSqV 0) (dC (.int 1))))) (bTup 2 (bCons (bName 1) (bCons (bName 2) bNil)))
  (gIf (dTOr (dTNot (dT (dCall 2 f_is_tuple (dCons (dIx (dSqV 0) (dC (.int 0))) (dCons (dV 2) dNil))))) (dTNot (dT (dCall 2 f_is_row (dCons (dLen (dSq (dIx (dSqV 0) (dC (.int 1))))) (dCons (dV 2) dNil))))))
  (gRet (dTup (dCons (dC (.int 1)) (dCons (dV 1) dNil))))
  gNil))
  (gSeq (gIf (dTNot (dT (dCall 2 f_is_tuple (dCons (dLen (dSq (dIx (dSqV 0) (dC (.int 1))))) (dCons (dIx (dSqV 0) (dC (.int 2))) dNil)))))
  (gRet (dTup (dCons (dC (.int 2)) dNil)))
  gNil)
  (gSeq (gFor (dEnum (dSq (dIx (dSqV 0) (dC (.int 2))))) (bTup 2 (bCons (bName 1) (bCons (bName 3) bNil)))
  (gIf (dTNot (dT (dCall 2 f_is_from (dCons (dC (.int 0)) (dCons (dV 3) dNil)))))
  (gRet (dTup (dCons (dC (.int 2)) (dCons (dV 1) dNil))))
  gNil))
  (gRet (dC .non))))))))
def f_summary_fault : List D → T D := bodyT 4 g_summary_fault
theorem ok_summary_fault (T : Txt K mg base) : FnG P w K mg base 5 T.a_summary_fault T.fd_summary_fault ["value"] (spD K mg 1 f_summary_fault) :=
  FnG.of_body T.F_summary_fault sc_summary_fault g_summary_fault 4 1 rfl rfl fun cdv A outer s H E hr hG hu tk =>
  (dss_cons (ds_if (dt_not (dt_of (de_call (ok_is_tuple T) (hr.mono (by decide)) hG tk (by rfl) T.m_is_tuple T.F_is_tuple.kp T.b_is_tuple (da_cons de_int (da_cons (de_var 0 (pv 0)) da_nil)))))
  (dss_one (ds_ret (de_tup da_nil)))
  dss_nil)
  (dss_cons (ds_if (dt_not (dt_of (de_call (ok_is_from T) (hr.mono (by decide)) hG tk (by rfl) T.m_is_from T.F_is_from.kp T.b_is_from (da_cons de_int (da_cons (de_ix (dq_var 0 (pv 0)) de_int) da_nil)))))
  (dss_one (ds_ret (de_tup (da_cons de_int da_nil))))
  dss_nil)
  (dss_cons (ds_if (dt_w (dw_or (dt_not (dt_of (de_isi (Ts := "tuple") (by rfl) T.z_isinstance (by rfl) T.z_tuple (by decide +kernel) (by decide) (by decide) (by decide +kernel) (de_ix (dq_var 0 (pv 0)) de_int)))) (dw_or1 (dt_cmp (or_eq (by exact Nat.lt_of_le_of_lt (Nat.add_le_add_left (by decide) _) hu)) ok_eq (de_ix (dq_var 0 (pv 0)) de_int) (de_tup da_nil) (nomark _)))))
  (dss_one (ds_ret (de_tup (da_cons de_int da_nil))))
  dss_nil)
  (dss_cons (ds_for (passes_of rfl) rfl (di_enum (by rfl) T.z_enumerate (dQ_fz (de_ix (dq_var 0 (pv 0)) de_int))) (dg_tup rfl (dgs_cons (dg_name (i := 1) sc_summary_fault.nd rfl (by first | exact .inl rfl | exact .inr rfl)) (dgs_cons (dg_name (i := 2) sc_summary_fault.nd rfl (by first | exact .inl rfl | exact .inr rfl)) dgs_nil)))
  (dss_one (ds_if (dt_w (dw_or (dt_not (dt_of (de_call (ok_is_tuple T) (hr.mono (by decide)) hG tk (by rfl) T.m_is_tuple T.F_is_tuple.kp T.b_is_tuple (da_cons (de_ix (dq_var 0 (pv 0)) de_int) (da_cons (de_var 2 (pv 2)) da_nil))))) (dw_or1 (dt_not (dt_of (de_call (ok_is_row T) (hr.mono (by decide)) hG tk (by rfl) T.m_is_row T.F_is_row.kp T.b_is_row (da_cons (de_len (by rfl) T.z_len (dq_of (de_ix (dq_var 0 (pv 0)) de_int))) (da_cons (de_var 2 (pv 2)) da_nil))))))))
  (dss_one (ds_ret (de_tup (da_cons de_int (da_cons (de_var 1 (pv 1)) da_nil)))))
  dss_nil)))
  (dss_cons (ds_if (dt_not (dt_of (de_call (ok_is_tuple T) (hr.mono (by decide)) hG tk (by rfl) T.m_is_tuple T.F_is_tuple.kp T.b_is_tuple (da_cons (de_len (by rfl) T.z_len (dq_of (de_ix (dq_var 0 (pv 0)) de_int))) (da_cons (de_ix (dq_var 0 (pv 0)) de_int) da_nil)))))
  (dss_one (ds_ret (de_tup (da_cons de_int da_nil))))
  dss_nil)
  (dss_cons (ds_for (passes_of rfl) rfl (di_enum (by rfl) T.z_enumerate (dQ_fz (de_ix (dq_var 0 (pv 0)) de_int))) (dg_tup rfl (dgs_cons (dg_name (i := 1) sc_summary_fault.nd rfl (by first | exact .inl rfl | exact .inr rfl)) (dgs_cons (dg_name (i := 3) sc_summary_fault.nd rfl (by first | exact .inl rfl | exact .inr rfl)) dgs_nil)))
  (dss_one (ds_if (dt_not (dt_of (de_call (ok_is_from T) (hr.mono (by decide)) hG tk (by rfl) T.m_is_from T.F_is_from.kp T.b_is_from (da_cons de_int (da_cons (de_var 3 (pv 3)) da_nil)))))
  (dss_one (ds_ret (de_tup (da_cons de_int (da_cons (de_var 1 (pv 1)) da_nil)))))
  dss_nil)))
  (dss_one (ds_ret de_non))))))))
def g_check_summary : DEnv → T Fl :=
  (gSeq (gSet 1 (dCall 1 f_summary_fault (dCons (dV 0) dNil)))
  (gIf (dT (dB (opIs not) (dV 1) (dC .non)))
  gNever
  gNil))
def f_check_summary : List D → T D := bodyT 2 g_check_summary
theorem ok_check_summary (T : Txt K mg base) : FnG P w K mg base 6 T.a_check_summary T.fd_check_summary ["thing"] (spD K mg 1 f_check_summary) :=
  FnG.of_body T.F_check_summary sc_check_summary g_check_summary 2 1 rfl rfl fun cdv A outer s H E hr hG hu tk =>
  (dss_cons (ds_set (i := 1) sc_check_summary.nd rfl (by first | exact .inl rfl | exact .inr rfl) (de_call (ok_summary_fault T) (hr.mono (by decide)) hG tk (by rfl) T.m_summary_fault T.F_summary_fault.kp T.b_summary_fault (da_cons (de_var 0 (pv 0)) da_nil)))
  (dss_one (ds_if (dt_cmp op_notN ok_isnot (de_var 1 (pv 1)) de_non (nomark _))
  (dss_one ds_never)
  dss_nil)))
def g_check_other : DEnv → T Fl :=
  (gSeq (gExpr (dCall 1 f_check_summary (dCons (dV 1) dNil)))
  (gIf (dT (dB opNe (dIx (dSqV 1) (dC (.int 0))) (dIx (dSqV 0) (dC (.int 0)))))
  gNever
  gNil))
def f_check_other : List D → T D := bodyT 2 g_check_other
theorem ok_check_other (T : Txt K mg base) : FnG P w K mg base 7 T.a_check_other T.fd_check_other ["summary", "thing"] (spD K mg 2 f_check_other) :=
  FnG.of_body T.F_check_other sc_check_other g_check_other 2 2 rfl rfl fun cdv A outer s H E hr hG hu tk =>
  (dss_cons (ds_expr (de_call (ok_check_summary T) (hr.mono (by decide)) hG tk (by rfl) T.m_check_summary T.F_check_summary.kp T.b_check_summary (da_cons (de_var 1 (pv 1)) da_nil)))
  (dss_one (ds_if (dt_cmp (or_ne (by exact Nat.lt_of_le_of_lt (Nat.add_le_add_left (by decide) _) hu)) ok_ne (de_ix (dq_var 1 (pv 1)) de_int) (de_ix (dq_var 0 (pv 0)) de_int) (nomark _))
  (dss_one ds_never)
  dss_nil)))
def g_first_way (ap : Nat → List D → List D → T D) : DEnv → T Fl :=
  (gSeq (gPar 4 5 (dDisp1 (dV 1) (dC (.bl true))) (dSh (dFz (dLst (dCons (dTup (dCons (dV 1) (dCons (dTup dNil) dNil))) dNil)))))
  (gSeq (gWhile 100 (dT (dB opNe (dV 5) (dFz (dLst dNil))))
  (gSeq (gSetN 6 (dLst dNil))
  (gSeq (gFor (dItems (dSq (dV 5))) (bTup 2 (bCons (bName 7) (bCons (bName 8) bNil)))
  (gSeq (gIf (dT (dCallF ap 3 (dCons (dV 7) dNil)))
  (gRet (dV 8))
  gNil)
  (gFor (dRange1 (dV 0)) (bName 9)
  (gSeq (gSet 10 (dCallF ap 2 (dCons (dV 7) (dCons (dV 9) dNil))))
  (gIf (dT (dKin false 4 (dV 10)))
  (gSeq (gKput 4 (dV 10) (dC (.bl true)))
  (gAppend 6 (dTup (dCons (dV 10) (dCons (dB opAdd (dV 8) (dTup (dCons (dV 9) dNil))) dNil)))))
  gNil)))))
  (gFreeze 6 (gSet 5 (dV 6))))))
  (gRet (dC .non))))
def f_first_way (ap : Nat → List D → List D → T D) : List D → T D := bodyT 11 (g_first_way ap)
theorem ok_first_way (T : Txt K mg base) {ap : Nat → List D → List D → AL.T D} {kc : Nat} (C : CloOk P w K mg base kc ap) : FnG P w K mg base (0 + kc + 1) T.a_first_way T.fd_first_way ["events", "start", "step", "is_goal"] (spD K mg 4 (f_first_way ap)) :=
  FnG.of_body (k := 0 + kc) T.F_first_way sc_first_way (g_first_way ap) 11 4 rfl rfl fun cdv A outer s H E hr hG hu tk =>
  (dss_cons (ds_par rfl sc_first_way.nd rfl rfl (by decide) rfl rfl (dm_disp1 hu (de_var 1 (pv 1)) de_bl) (dm_sh (de_fz (dn_lst (da_cons (de_tup (da_cons (de_var 1 (pv 1)) (da_cons (de_tup da_nil) da_nil))) da_nil)))) (by rfl))
  (dss_cons (ds_while 100 (passes_of rfl) (dt_cmp (or_ne (by exact Nat.lt_of_le_of_lt (Nat.add_le_add_left (by decide) _) hu)) ok_ne (de_var 5 (pv 5)) (de_fz (dn_lst da_nil)) (nomark _))
  (dss_cons (ds_setN (i := 6) sc_first_way.nd rfl (by first | exact .inl rfl | exact .inr rfl) (dn_lst da_nil))
  (dss_cons (ds_for (passes_of rfl) rfl (di_seq (dQ_fz (de_var 5 (pv 5)))) (dg_tup rfl (dgs_cons (dg_name (i := 7) sc_first_way.nd rfl (by first | exact .inl rfl | exact .inr rfl)) (dgs_cons (dg_name (i := 8) sc_first_way.nd rfl (by first | exact .inl rfl | exact .inr rfl)) dgs_nil)))
  (dss_cons (ds_if (dt_of (de_callF 3 C (hr.mono (by omega)) hG tk (pv 3) (da_cons (de_var 7 (pv 7)) da_nil)))
  (dss_one (ds_ret (de_var 8 (pv 8))))
  dss_nil)
  (dss_one (ds_for (passes_of rfl) rfl (di_range1 (by rfl) T.z_range (de_var 0 (pv 0))) (dg_name (i := 9) sc_first_way.nd rfl (by first | exact .inl rfl | exact .inr rfl))
  (dss_cons (ds_set (i := 10) sc_first_way.nd rfl (by first | exact .inl rfl | exact .inr rfl) (de_callF 2 C (hr.mono (by omega)) hG tk (pv 2) (da_cons (de_var 7 (pv 7)) (da_cons (de_var 9 (pv 9)) da_nil))))
  (dss_one (ds_if (dt_kin 4 (.inr ⟨rfl, rfl⟩) hu rfl (pv 4) (de_var 10 (pv 10)))
  (dss_cons (ds_kput 4 hu (pv 4) (de_var 10 (pv 10)) de_bl)
  (dss_one (ds_append 6 (pv 6) (de_tup (da_cons (de_var 10 (pv 10)) (da_cons (de_bin or_add ok_add (de_var 8 (pv 8)) (de_tup (da_cons (de_var 9 (pv 9)) da_nil))) da_nil))) (fun t h => pe_bm PySem.F.plainAttrs_list PySem.F.slot_list_append PySem.F.type_list_append mt_append (pv 6) (pa_cons h pa_nil)))))
  dss_nil)))))))
  (dss_one (ds_freeze 6 (ds_set (i := 5) sc_first_way.nd rfl (by first | exact .inl rfl | exact .inr rfl) (de_var 6 (pv 6))))))))
  (dss_one (ds_ret de_non))))
def l_w1 : DEnv → T D :=
  (dB opNe (dIx (dSq (dIx (dSqV 1) (dC (.int 2)))) (dIx (dSqV 0) (dC (.int 0)))) (dIx (dSq (dIx (dSqV 2) (dC (.int 2)))) (dIx (dSqV 0) (dC (.int 1)))))
def l_w0 : DEnv → T D :=
  (dTup (dCons (dIx (dSq (dIx (dSq (dIx (dSqV 2) (dC (.int 1)))) (dIx (dSqV 0) (dC (.int 0))))) (dV 1)) (dCons (dIx (dSq (dIx (dSq (dIx (dSqV 3) (dC (.int 1)))) (dIx (dSqV 0) (dC (.int 1))))) (dV 1)) dNil)))
def ap_parting_from : Nat → List D → List D → T D := (apIf 0 (semE 4 2 2 l_w0) (apIf 1 (semE 3 1 2 l_w1) apNone))
def js_parting_from : Nat → List Nat := fun i => match i with
  | 0 => [0, 2]
  | 1 => [0, 2]
  | _ => []
def g_parting_from (cls : Nat → List (Str × Addr)) : DEnv → T Fl :=
  (gRet (dCallH 4 [false, false, true, true] (f_first_way ap_parting_from) [0, 1] cls js_parting_from (dCons (dIx (dSqV 0) (dC (.int 0))) (dCons (dTup (dCons (dV 1) (dCons (dV 3) dNil))) (dCons (dC (.pf 0 (cls 0))) (dCons (dC (.pf 1 (cls 1))) dNil))))))
def f_parting_from : List D → T D := bodyT 4 (g_parting_from fun _ => [])
theorem ind_parting_from (cls : Nat → List (Str × Addr)) : bodyT 4 (g_parting_from cls) = bodyT 4 (g_parting_from fun _ => []) := by
  funext ds
  simp [bodyT, g_parting_from, gRet, gSeq, gSet, dCallH, dCons, dNil, dC, unpfs, unpf, T.bind_assoc]
theorem mk_parting_from (T : Txt K mg base) {X : Cx} {cdv : Value} (h1 : X.base = base) (h2 : X.mg = mg) (h3 : X.env.code = cdv) (h4 : cdv = T.fd_parting_from.code) : Mk X Cd.c_parting_from Cd.P_parting_from nm_parting_from := by
  subst h1 h2
  refine ⟨T.tb (Cd.c_parting_from, Cd.P_parting_from) List.mem_cons_self, h3.trans (h4.trans T.cc_parting_from), List.mem_cons_self, fun p hp e => ?_⟩
  have nd := Cd.nd
  simp only [List.nodup_cons, List.mem_cons, not_or, List.not_mem_nil, not_false_eq_true, List.nodup_nil, and_true, and_self] at nd
  have hp : p ∈ [(Cd.P_parting_from, nm_parting_from)] := hp
  simp only [List.mem_cons, List.not_mem_nil, or_false] at hp
  rcases hp with rfl <;> first | rfl | (exfalso; revert e; simp_all [eq_comm])
theorem clo_w1 (T : Txt K mg base) : CloI P w K mg base 1 1 (semE 3 1 2 l_w1) :=
  clo_expr (k := 0) rfl sc_w1 (fun cl c doc pm ctv us hl => match us, hl with | [_], _ => rfl) rfl rfl rfl fun f cl c A outer s H E hr hG hu tk =>
  (de_cmp (or_ne (by exact Nat.lt_of_le_of_lt (Nat.add_le_add_left (by decide) _) hu)) ok_ne (de_ix (dq_of (de_ix (dq_var 1 (pv 1)) de_int)) (de_ix (dq_var 0 (pv 0)) de_int)) (de_ix (dq_of (de_ix (dq_var 2 (pv 2)) de_int)) (de_ix (dq_var 0 (pv 0)) de_int)) (nomark _))
theorem clo_w0 (T : Txt K mg base) : CloI P w K mg base 1 0 (semE 4 2 2 l_w0) :=
  clo_expr (k := 0) rfl sc_w0 (fun cl c doc pm ctv us hl => match us, hl with | [_, _], _ => rfl) rfl rfl rfl fun f cl c A outer s H E hr hG hu tk =>
  (de_tup (da_cons (de_ix (dq_of (de_ix (dq_of (de_ix (dq_var 2 (pv 2)) de_int)) (de_ix (dq_var 0 (pv 0)) de_int))) (de_var 1 (pv 1))) (da_cons (de_ix (dq_of (de_ix (dq_of (de_ix (dq_var 3 (pv 3)) de_int)) (de_ix (dq_var 0 (pv 0)) de_int))) (de_var 1 (pv 1))) da_nil)))
theorem cl_parting_from (T : Txt K mg base) : CloOk P w K mg base 1 ap_parting_from := (clo_if (clo_w0 T) (by decide) (clo_if (clo_w1 T) (by decide) clo_none))
theorem ok_parting_from (T : Txt K mg base) : FnG P w K mg base 3 T.a_parting_from T.fd_parting_from ["summary", "state", "other", "other_state"] (spD K mg 4 f_parting_from) :=
  FnG.of_bodyC T.F_parting_from sc_parting_from (g_parting_from fun _ => []) 4 4 rfl rfl fun cdv A outer s H E hcd => ⟨g_parting_from fun i => cloFrom (cellsFrom (s.heap.objs.size + 1) (defScope s_parting_from).names []) (words i).scope.names [], ind_parting_from _, fun hr hG hu tk =>
  (dss_one (ds_ret (de_callH (bs := [false, false, true, true]) (ids := [0, 1]) (js := js_parting_from) (ok_first_way T (cl_parting_from T)) (hr.mono (by decide)) hG tk (fun _ => rfl) (fun ok => (List.forall_mem_cons.mpr ⟨caps_by (id := 0) (js := js_parting_from 0) rfl rfl (by decide +kernel) rfl ok, (List.forall_mem_cons.mpr ⟨caps_by (id := 1) (js := js_parting_from 1) rfl rfl (by decide +kernel) rfl ok, (fun _ h => nomatch h)⟩)⟩)) (by rfl) T.m_first_way T.F_first_way.kp T.b_first_way (da_cons (de_ix (dq_var 0 (pv 0)) de_int) (da_cons (de_tup (da_cons (de_var 1 (pv 1)) (da_cons (de_var 3 (pv 3)) da_nil))) (da_cons (de_lam (id := 0) (fr := fr_w0) (mk_parting_from T rfl rfl rfl hcd) rfl rfl rfl) (da_cons (de_lam (id := 1) (fr := fr_w1) (mk_parting_from T rfl rfl rfl hcd) rfl rfl rfl) da_nil)))))))⟩
def g_are_alike : DEnv → T Fl :=
  (gSeq (gExpr (dCall 1 f_check_summary (dCons (dV 0) dNil)))
  (gSeq (gExpr (dCall 2 f_check_other (dCons (dV 0) (dCons (dV 1) dNil))))
  (gRet (dB (opIs id) (dCall 4 f_parting_from (dCons (dV 0) (dCons (dC (.int 0)) (dCons (dV 1) (dCons (dC (.int 0)) dNil))))) (dC .non)))))
def f_are_alike : List D → T D := bodyT 2 g_are_alike
theorem ok_are_alike (T : Txt K mg base) : FnG P w K mg base 8 T.a_are_alike T.fd_are_alike ["summary", "other"] (spD K mg 2 f_are_alike) :=
  FnG.of_body T.F_are_alike sc_are_alike g_are_alike 2 2 rfl rfl fun cdv A outer s H E hr hG hu tk =>
  (dss_cons (ds_expr (de_call (ok_check_summary T) (hr.mono (by decide)) hG tk (by rfl) T.m_check_summary T.F_check_summary.kp T.b_check_summary (da_cons (de_var 0 (pv 0)) da_nil)))
  (dss_cons (ds_expr (de_call (ok_check_other T) (hr.mono (by decide)) hG tk (by rfl) T.m_check_other T.F_check_other.kp T.b_check_other (da_cons (de_var 0 (pv 0)) (da_cons (de_var 1 (pv 1)) da_nil))))
  (dss_one (ds_ret (de_cmp op_isN ok_is (de_call (ok_parting_from T) (hr.mono (by decide)) hG tk (by rfl) T.m_parting_from T.F_parting_from.kp T.b_parting_from (da_cons (de_var 0 (pv 0)) (da_cons de_int (da_cons (de_var 1 (pv 1)) (da_cons de_int da_nil))))) de_non (nomark _))))))
def g_kinds_of : DEnv → T Fl :=
  (gSeq (gSetM 2 dNewD)
  (gSeq (gSetE 3 2 (dLcD 2 (dItems (dSq (dV 1))) (bName 4) (dKsetd 2 (dV 4) (dKlen 2)) [4]))
  (gWhile 100 (dT (dC (.bl true)))
  (gSeq (gPar 5 2 (dSh (dKlen 2)) dNewD)
  (gSeq (gSetN 6 (dLc (dZip (dSqV 3) (dSqV 0)) (bTup 2 (bCons (bName 8) (bCons (bName 9) bNil))) dYes (dTup (dCons (dV 8) (dCons (dTupOf (dSqN (dLc (dItems (dSqV 9)) (bName 7) dYes (dIx (dSqV 3) (dV 7)) [7]))) dNil))) [8, 9]))
  (gSeq (gFreeze 6 (gSetE 3 2 (dLcD 2 (dItems (dSq (dV 6))) (bName 10) (dKsetd 2 (dV 10) (dKlen 2)) [10])))
  (gIf (dT (dB opEq (dKlen 2) (dV 5)))
  (gRet (dV 3))
  gNil)))))))
def f_kinds_of : List D → T D := bodyT 11 g_kinds_of
theorem ok_kinds_of (T : Txt K mg base) : FnG P w K mg base 1 T.a_kinds_of T.fd_kinds_of ["moves", "marks"] (spD K mg 2 f_kinds_of) :=
  FnG.of_body T.F_kinds_of sc_kinds_of g_kinds_of 11 2 rfl rfl fun cdv A outer s H E hr hG hu tk =>
  (dss_cons (ds_setM (i := 2) sc_kinds_of.nd rfl (by first | exact .inl rfl | exact .inr rfl) dm_newD)
  (dss_cons (ds_setE (j := 3) (i := 2) sc_kinds_of.nd rfl (by first | exact .inl rfl | exact .inr rfl) (de_lcD (own := [("mark", 4)]) rfl sc_kinds_of.nd (di_seq (dQ_fz (de_var 1 (pv 1)))) (blkOk_by (own := [("mark", 4)]) rfl) (by decide) (fun _ _ _ _ _ => (dg_name (i := 4) sc_kinds_of.nd rfl (by first | exact .inl rfl | exact .inr rfl))) (fun _ _ _ _ _ => dts_nil) (fun _ _ _ _ _ => (de_ksetd 2 hu (pv 2) (de_var 4 (pv 4)) (de_klen 2 (by rfl) T.z_len (pv 2)) ⟨by rfl, by rfl, by rfl, by rfl⟩))))
  (dss_one (ds_while 100 (passes_of rfl) (dt_of de_bl)
  (dss_cons (ds_parU rfl sc_kinds_of.nd rfl rfl (by first | exact .inl rfl | exact .inr rfl) (by first | exact .inl rfl | exact .inr rfl) (dm_sh (de_klen 2 (by rfl) T.z_len (pv 2))) dm_newD)
  (dss_cons (ds_setLc (i := 6) (own := [("kind", 8), ("row", 9)]) rfl sc_kinds_of.nd rfl rfl (sw_true rfl rfl rfl (by decide +kernel)) (di_zip (by rfl) T.z_zip (dQ_all (dq_var 3 (pv 3))) (dQ_all (dq_var 0 (pv 0)))) (blkOk_by (own := [("kind", 8), ("row", 9)]) rfl) (by decide) (fun _ _ _ _ _ => (dg_tup rfl (dgs_cons (dg_name (i := 8) sc_kinds_of.nd rfl (by first | exact .inl rfl | exact .inr rfl)) (dgs_cons (dg_name (i := 9) sc_kinds_of.nd rfl (by first | exact .inl rfl | exact .inr rfl)) dgs_nil)))) (fun _ _ _ _ _ => dts_nil) (fun _ _ _ _ _ => (de_tup (da_cons (de_var 8 (pv 8)) (da_cons (de_tupOf (by rfl) T.z_tuple (dq_new (dn_lc (own := [("later", 7)]) rfl sc_kinds_of.nd (di_seq (dQ_all (dq_var 9 (pv 9)))) (blkOk_by (own := [("later", 7)]) rfl) (by decide) (fun _ _ _ _ _ => (dg_name (i := 7) sc_kinds_of.nd rfl (by first | exact .inl rfl | exact .inr rfl))) (fun _ _ _ _ _ => dts_nil) (fun _ _ _ _ _ => (de_ix (dq_var 3 (pv 3)) (de_var 7 (pv 7))))))) da_nil)))))
  (dss_cons (ds_freeze 6 (ds_setE (j := 3) (i := 2) sc_kinds_of.nd rfl (by first | exact .inl rfl | exact .inr rfl) (de_lcD (own := [("key", 10)]) rfl sc_kinds_of.nd (di_seq (dQ_fz (de_var 6 (pv 6)))) (blkOk_by (own := [("key", 10)]) rfl) (by decide) (fun _ _ _ _ _ => (dg_name (i := 10) sc_kinds_of.nd rfl (by first | exact .inl rfl | exact .inr rfl))) (fun _ _ _ _ _ => dts_nil) (fun _ _ _ _ _ => (de_ksetd 2 hu (pv 2) (de_var 10 (pv 10)) (de_klen 2 (by rfl) T.z_len (pv 2)) ⟨by rfl, by rfl, by rfl, by rfl⟩)))))
  (dss_one (ds_if (dt_cmp (or_eq (by exact Nat.lt_of_le_of_lt (Nat.add_le_add_left (by decide) _) hu)) ok_eq (de_klen 2 (by rfl) T.z_len (pv 2)) (de_var 5 (pv 5)) (nomark _))
  (dss_one (ds_ret (de_var 3 (pv 3))))
  dss_nil)))))))))
def g_spread : DEnv → T Fl :=
  (gSeq (gPar3 2 3 4 (dOwn (dLst (dCons (dC (.int 0)) dNil))) (dDispI (dIx (dSqV 0) (dC (.int 0))) (dC (.int 0))) (dOwn (dLst dNil)))
  (gSeq (gWhile 100 (dT (dB opLt (dLen (dSqV 4)) (dLen (dSqV 2))))
  (gSeq (gSetN 5 (dLst dNil))
  (gSeq (gFor (dItems (dSq (dIx (dSqV 1) (dIx (dSqV 2) (dLen (dSqV 4)))))) (bName 6)
  (gSeq (gIf (dT (dKin false 3 (dIx (dSqV 0) (dV 6))))
  (gSeq (gKput 3 (dIx (dSqV 0) (dV 6)) (dLen (dSqV 2)))
  (gAppend 2 (dV 6)))
  gNil)
  (gAppend 5 (dKget 3 (dIx (dSqV 0) (dV 6))))))
  (gAppend 4 (dTupOf (dSqV 5))))))
  (gFreeze 4 (gFreeze 2 (gRet (dTup (dCons (dV 2) (dCons (dV 4) dNil))))))))
def f_spread : List D → T D := bodyT 7 g_spread
theorem ok_spread (T : Txt K mg base) : FnG P w K mg base 1 T.a_spread T.fd_spread ["kinds", "moves"] (spD K mg 2 f_spread) :=
  FnG.of_body T.F_spread sc_spread g_spread 7 2 rfl rfl fun cdv A outer s H E hr hG hu tk =>
  (dss_cons (ds_par3 rfl sc_spread.nd rfl rfl rfl (by decide) (by decide) (by decide) rfl rfl rfl (dm_own (dn_lst (da_cons de_int da_nil))) (dm_dispI (de_ix (dq_var 0 (pv 0)) de_int) de_int) (dm_own (dn_lst da_nil)) (by rfl))
  (dss_cons (ds_while 100 (passes_of rfl) (dt_cmp op_lt ok_lt (de_len (by rfl) T.z_len (dq_var 4 (pv 4))) (de_len (by rfl) T.z_len (dq_var 2 (pv 2))) (nomark _))
  (dss_cons (ds_setN (i := 5) sc_spread.nd rfl (by first | exact .inl rfl | exact .inr rfl) (dn_lst da_nil))
  (dss_cons (ds_for (passes_of rfl) rfl (di_seq (dQ_fz (de_ix (dq_var 1 (pv 1)) (de_ix (dq_var 2 (pv 2)) (de_len (by rfl) T.z_len (dq_var 4 (pv 4))))))) (dg_name (i := 6) sc_spread.nd rfl (by first | exact .inl rfl | exact .inr rfl))
  (dss_cons (ds_if (dt_kin 3 (.inr ⟨rfl, rfl⟩) hu rfl (pv 3) (de_ix (dq_var 0 (pv 0)) (de_var 6 (pv 6))))
  (dss_cons (ds_kput 3 hu (pv 3) (de_ix (dq_var 0 (pv 0)) (de_var 6 (pv 6))) (de_len (by rfl) T.z_len (dq_var 2 (pv 2))))
  (dss_one (ds_append 2 (pv 2) (de_var 6 (pv 6)) (fun t h => pe_bm PySem.F.plainAttrs_list PySem.F.slot_list_append PySem.F.type_list_append mt_append (pv 2) (pa_cons h pa_nil)))))
  dss_nil)
  (dss_one (ds_append 5 (pv 5) (de_kget 3 hu (pv 3) (de_ix (dq_var 0 (pv 0)) (de_var 6 (pv 6))) (fun _ _ => rfl)) (fun t h => pe_bm PySem.F.plainAttrs_list PySem.F.slot_list_append PySem.F.type_list_append mt_append (pv 5) (pa_cons h pa_nil))))))
  (dss_one (ds_append 4 (pv 4) (de_tupOf (by rfl) T.z_tuple (dq_var 5 (pv 5))) (fun t h => pe_bm PySem.F.plainAttrs_list PySem.F.slot_list_append PySem.F.type_list_append mt_append (pv 4) (pa_cons h pa_nil)))))))
  (dss_one (ds_freeze 4 (ds_freeze 2 (ds_ret (de_tup (da_cons (de_var 2 (pv 2)) (da_cons (de_var 4 (pv 4)) da_nil)))))))))
def g_merged : DEnv → T Fl :=
  (gSeq (gAsg (dCall 2 f_spread (dCons (dCall 2 f_kinds_of (dCons (dV 1) (dCons (dV 2) dNil))) (dCons (dV 1) dNil))) (bTup 2 (bCons (bName 3) (bCons (bName 4) bNil))))
  (gRet (dTup (dCons (dV 0) (dCons (dTupOf (dSqV 4)) (dCons (dTupOf (dSqN (dLc (dItems (dSqV 3)) (bName 5) dYes (dIx (dSqV 2) (dV 5)) [5]))) dNil))))))
def f_merged : List D → T D := bodyT 6 g_merged
theorem ok_merged (T : Txt K mg base) : FnG P w K mg base 2 T.a_merged T.fd_merged ["events", "moves", "answers"] (spD K mg 3 f_merged) :=
  FnG.of_body T.F_merged sc_merged g_merged 6 3 rfl rfl fun cdv A outer s H E hr hG hu tk =>
  (dss_cons (ds_asg (de_call (ok_spread T) (hr.mono (by decide)) hG tk (by rfl) T.m_spread T.F_spread.kp T.b_spread (da_cons (de_call (ok_kinds_of T) (hr.mono (by decide)) hG tk (by rfl) T.m_kinds_of T.F_kinds_of.kp T.b_kinds_of (da_cons (de_var 1 (pv 1)) (da_cons (de_var 2 (pv 2)) da_nil))) (da_cons (de_var 1 (pv 1)) da_nil))) (dg_tup rfl (dgs_cons (dg_name (i := 3) sc_merged.nd rfl (by first | exact .inl rfl | exact .inr rfl)) (dgs_cons (dg_name (i := 4) sc_merged.nd rfl (by first | exact .inl rfl | exact .inr rfl)) dgs_nil))))
  (dss_one (ds_ret (de_tup (da_cons (de_var 0 (pv 0)) (da_cons (de_tupOf (by rfl) T.z_tuple (dq_var 4 (pv 4))) (da_cons (de_tupOf (by rfl) T.z_tuple (dq_new (dn_lc (own := [("state", 5)]) rfl sc_merged.nd (di_seq (dQ_all (dq_var 3 (pv 3)))) (blkOk_by (own := [("state", 5)]) rfl) (by decide) (fun _ _ _ _ _ => (dg_name (i := 5) sc_merged.nd rfl (by first | exact .inl rfl | exact .inr rfl))) (fun _ _ _ _ _ => dts_nil) (fun _ _ _ _ _ => (de_ix (dq_var 2 (pv 2)) (de_var 5 (pv 5))))))) da_nil)))))))
def g_least_in : DEnv → T Fl :=
  (gRet (dCall 3 f_merged (dCons (dIx (dSqV 0) (dC (.int 0))) (dCons (dIx (dSqV 0) (dC (.int 1))) (dCons (dFz (dListOf (dSq (dIx (dSqV 0) (dC (.int 2)))))) dNil)))))
def f_least_in : List D → T D := bodyT 1 g_least_in
theorem ok_least_in (T : Txt K mg base) : FnG P w K mg base 3 T.a_least_in T.fd_least_in ["summary"] (spD K mg 1 f_least_in) :=
  FnG.of_body T.F_least_in sc_least_in g_least_in 1 1 rfl rfl fun cdv A outer s H E hr hG hu tk =>
  (dss_one (ds_ret (de_call (ok_merged T) (hr.mono (by decide)) hG tk (by rfl) T.m_merged T.F_merged.kp T.b_merged (da_cons (de_ix (dq_var 0 (pv 0)) de_int) (da_cons (de_ix (dq_var 0 (pv 0)) de_int) (da_cons (de_fz (dn_listOf (by rfl) T.z_list (dq_of (de_ix (dq_var 0 (pv 0)) de_int)))) da_nil))))))
def g_is_least : DEnv → T Fl :=
  (gSeq (gExpr (dCall 1 f_check_summary (dCons (dV 0) dNil)))
  (gRet (dB opEq (dV 0) (dCall 1 f_least_in (dCons (dV 0) dNil)))))
def f_is_least : List D → T D := bodyT 1 g_is_least
theorem ok_is_least (T : Txt K mg base) : FnG P w K mg base 7 T.a_is_least T.fd_is_least ["summary"] (spD K mg 1 f_is_least) :=
  FnG.of_body T.F_is_least sc_is_least g_is_least 1 1 rfl rfl fun cdv A outer s H E hr hG hu tk =>
  (dss_cons (ds_expr (de_call (ok_check_summary T) (hr.mono (by decide)) hG tk (by rfl) T.m_check_summary T.F_check_summary.kp T.b_check_summary (da_cons (de_var 0 (pv 0)) da_nil)))
  (dss_one (ds_ret (de_cmp (or_eq (by exact Nat.lt_of_le_of_lt (Nat.add_le_add_left (by decide) _) hu)) ok_eq (de_var 0 (pv 0)) (de_call (ok_least_in T) (hr.mono (by decide)) hG tk (by rfl) T.m_least_in T.F_least_in.kp T.b_least_in (da_cons (de_var 0 (pv 0)) da_nil)) (nomark _)))))
def g_least : DEnv → T Fl :=
  (gSeq (gExpr (dCall 1 f_check_summary (dCons (dV 0) dNil)))
  (gRet (dCall 1 f_least_in (dCons (dV 0) dNil))))
def f_least : List D → T D := bodyT 1 g_least
theorem ok_least (T : Txt K mg base) : FnG P w K mg base 7 T.a_least T.fd_least ["summary"] (spD K mg 1 f_least) :=
  FnG.of_body T.F_least sc_least g_least 1 1 rfl rfl fun cdv A outer s H E hr hG hu tk =>
  (dss_cons (ds_expr (de_call (ok_check_summary T) (hr.mono (by decide)) hG tk (by rfl) T.m_check_summary T.F_check_summary.kp T.b_check_summary (da_cons (de_var 0 (pv 0)) da_nil)))
  (dss_one (ds_ret (de_call (ok_least_in T) (hr.mono (by decide)) hG tk (by rfl) T.m_least_in T.F_least_in.kp T.b_least_in (da_cons (de_var 0 (pv 0)) da_nil)))))
def g_law_right : DEnv → T Fl :=
  (gSeq (gSet 1 (dB opAdd (dC (.int 1)) (dCall 2 f_law_take (dCons (dV 0) (dCons (dC (.int 3)) dNil)))))
  (gSeq (gSet 2 (dCall 4 f_law_summary (dCons (dV 0) (dCons (dV 1) (dCons (dB opAdd (dC (.int 1)) (dCall 2 f_law_take (dCons (dV 0) (dCons (dC (.int 5)) dNil)))) (dCons (dC (.int 3)) dNil))))))
  (gSeq (gPar 3 4 (dSh (dCall 2 f_law_twofold (dCons (dV 0) (dCons (dV 2) dNil)))) (dSh (dRepr (dV 2))))
  (gSeq (gSet 5 (dCall 1 f_law_least (dCons (dV 2) dNil)))
  (gSeq (gIf (dTNot (dT (dCall 2 f_law_equal (dCons (dFz (dLst (dCons (dCall 1 f_least (dCons (dV 2) dNil)) (dCons (dCallK 1 0 1 [0] f_least dNil (dCons (dV 3) dNil)) (dCons (dCall 1 f_least (dCons (dV 5) dNil)) dNil))))) (dCons (dFz (dLst (dCons (dV 5) (dCons (dV 5) (dCons (dV 5) dNil))))) dNil)))))
  (gRet (dC (.bl false)))
  gNil)
  (gSeq (gIf (dTNot (dT (dCall 2 f_law_equal (dCons (dFz (dLst (dCons (dCall 1 f_is_least (dCons (dV 5) dNil)) (dCons (dCall 1 f_is_least (dCons (dV 2) dNil)) (dCons (dCall 1 f_is_least (dCons (dV 3) dNil)) dNil))))) (dCons (dFz (dLst (dCons (dC (.bl true)) (dCons (dB opEq (dV 2) (dV 5)) (dCons (dC (.bl false)) dNil))))) dNil)))))
  (gRet (dC (.bl false)))
  gNil)
  (gSeq (gSet 6 (dCall 2 f_law_bent (dCons (dV 0) (dCons (dV 3) dNil))))
  (gSeq (gSet 7 (dB opEq (dCall 1 f_law_least (dCons (dV 6) dNil)) (dV 5)))
  (gSeq (gIf (dTNot (dT (dCall 2 f_law_equal (dCons (dFz (dLst (dCons (dCall 1 f_least (dCons (dV 6) dNil)) (dCons (dCall 2 f_are_alike (dCons (dV 6) (dCons (dV 2) dNil))) (dCons (dCallK 2 0 2 [1, 0] f_are_alike dNil (dCons (dV 6) (dCons (dV 2) dNil))) (dCons (dCall 2 f_are_alike (dCons (dV 3) (dCons (dV 5) dNil))) dNil)))))) (dCons (dFz (dLst (dCons (dCall 1 f_law_least (dCons (dV 6) dNil)) (dCons (dV 7) (dCons (dV 7) (dCons (dC (.bl true)) dNil)))))) dNil)))))
  (gRet (dC (.bl false)))
  gNil)
  (gSeq (gFor (dItems (dSq (dCall 2 f_law_logs (dCons (dV 1) (dCons (dIf (dT (dB opLt (dV 1) (dC (.int 3)))) (dC (.int 6)) (dC (.int 5))) dNil))))) (bName 8)
  (gIf (dTOr (dT (dB opNe (dCall 2 f_law_answer (dCons (dV 5) (dCons (dV 8) dNil))) (dCall 2 f_law_answer (dCons (dV 3) (dCons (dV 8) dNil))))) (dTAnd (dT (dV 7)) (dT (dB opNe (dCall 2 f_law_answer (dCons (dV 6) (dCons (dV 8) dNil))) (dCall 2 f_law_answer (dCons (dV 5) (dCons (dV 8) dNil)))))))
  (gRet (dC (.bl false)))
  gNil))
  (gRet (dB opEq (dRepr (dV 2)) (dV 4)))))))))))))
def f_law_right : List D → T D := bodyT 9 g_law_right
theorem ok_law_right (T : Txt K mg base) : FnG P w K mg base 9 T.a_law_right T.fd_law_right ["well"] (spD K mg 1 f_law_right) :=
  FnG.of_body T.F_law_right sc_law_right g_law_right 9 1 rfl rfl fun cdv A outer s H E hr hG hu tk =>
  (dss_cons (ds_set (i := 1) sc_law_right.nd rfl (by first | exact .inl rfl | exact .inr rfl) (de_bin or_add ok_add de_int (de_call (ok_law_take T) (hr.mono (by decide)) hG tk (by rfl) T.m_law_take T.F_law_take.kp T.b_law_take (da_cons (de_var 0 (pv 0)) (da_cons de_int da_nil)))))
  (dss_cons (ds_set (i := 2) sc_law_right.nd rfl (by first | exact .inl rfl | exact .inr rfl) (de_call (ok_law_summary T) (hr.mono (by decide)) hG tk (by rfl) T.m_law_summary T.F_law_summary.kp T.b_law_summary (da_cons (de_var 0 (pv 0)) (da_cons (de_var 1 (pv 1)) (da_cons (de_bin or_add ok_add de_int (de_call (ok_law_take T) (hr.mono (by decide)) hG tk (by rfl) T.m_law_take T.F_law_take.kp T.b_law_take (da_cons (de_var 0 (pv 0)) (da_cons de_int da_nil)))) (da_cons de_int da_nil))))))
  (dss_cons (ds_par rfl sc_law_right.nd rfl rfl (by decide) rfl rfl (dm_sh (de_call (ok_law_twofold T) (hr.mono (by decide)) hG tk (by rfl) T.m_law_twofold T.F_law_twofold.kp T.b_law_twofold (da_cons (de_var 0 (pv 0)) (da_cons (de_var 2 (pv 2)) da_nil)))) (dm_sh (de_repr hG hu (by rfl) T.z_repr (de_var 2 (pv 2)))) (by rfl))
  (dss_cons (ds_set (i := 5) sc_law_right.nd rfl (by first | exact .inl rfl | exact .inr rfl) (de_call (ok_law_least T) (hr.mono (by decide)) hG tk (by rfl) T.m_law_least T.F_law_least.kp T.b_law_least (da_cons (de_var 2 (pv 2)) da_nil)))
  (dss_cons (ds_if (dt_not (dt_of (de_call (ok_law_equal T) (hr.mono (by decide)) hG tk (by rfl) T.m_law_equal T.F_law_equal.kp T.b_law_equal (da_cons (de_fz (dn_lst (da_cons (de_call (ok_least T) (hr.mono (by decide)) hG tk (by rfl) T.m_least T.F_least.kp T.b_least (da_cons (de_var 2 (pv 2)) da_nil)) (da_cons (de_callK0 (ks := ["summary"]) (ok_least T) (hr.mono (by decide)) hG tk (by rfl) T.m_least T.F_least.kp (kw_least_p0_summary T) rfl (dk_cons (de_var 3 (pv 3)) dk_nil)) (da_cons (de_call (ok_least T) (hr.mono (by decide)) hG tk (by rfl) T.m_least T.F_least.kp T.b_least (da_cons (de_var 5 (pv 5)) da_nil)) da_nil))))) (da_cons (de_fz (dn_lst (da_cons (de_var 5 (pv 5)) (da_cons (de_var 5 (pv 5)) (da_cons (de_var 5 (pv 5)) da_nil))))) da_nil)))))
  (dss_one (ds_ret de_bl))
  dss_nil)
  (dss_cons (ds_if (dt_not (dt_of (de_call (ok_law_equal T) (hr.mono (by decide)) hG tk (by rfl) T.m_law_equal T.F_law_equal.kp T.b_law_equal (da_cons (de_fz (dn_lst (da_cons (de_call (ok_is_least T) (hr.mono (by decide)) hG tk (by rfl) T.m_is_least T.F_is_least.kp T.b_is_least (da_cons (de_var 5 (pv 5)) da_nil)) (da_cons (de_call (ok_is_least T) (hr.mono (by decide)) hG tk (by rfl) T.m_is_least T.F_is_least.kp T.b_is_least (da_cons (de_var 2 (pv 2)) da_nil)) (da_cons (de_call (ok_is_least T) (hr.mono (by decide)) hG tk (by rfl) T.m_is_least T.F_is_least.kp T.b_is_least (da_cons (de_var 3 (pv 3)) da_nil)) da_nil))))) (da_cons (de_fz (dn_lst (da_cons de_bl (da_cons (de_cmp (or_eq (by exact Nat.lt_of_le_of_lt (Nat.add_le_add_left (by decide) _) hu)) ok_eq (de_var 2 (pv 2)) (de_var 5 (pv 5)) (nomark _)) (da_cons de_bl da_nil))))) da_nil)))))
  (dss_one (ds_ret de_bl))
  dss_nil)
  (dss_cons (ds_set (i := 6) sc_law_right.nd rfl (by first | exact .inl rfl | exact .inr rfl) (de_call (ok_law_bent T) (hr.mono (by decide)) hG tk (by rfl) T.m_law_bent T.F_law_bent.kp T.b_law_bent (da_cons (de_var 0 (pv 0)) (da_cons (de_var 3 (pv 3)) da_nil))))
  (dss_cons (ds_set (i := 7) sc_law_right.nd rfl (by first | exact .inl rfl | exact .inr rfl) (de_cmp (or_eq (by exact Nat.lt_of_le_of_lt (Nat.add_le_add_left (by decide) _) hu)) ok_eq (de_call (ok_law_least T) (hr.mono (by decide)) hG tk (by rfl) T.m_law_least T.F_law_least.kp T.b_law_least (da_cons (de_var 6 (pv 6)) da_nil)) (de_var 5 (pv 5)) (nomark _)))
  (dss_cons (ds_if (dt_not (dt_of (de_call (ok_law_equal T) (hr.mono (by decide)) hG tk (by rfl) T.m_law_equal T.F_law_equal.kp T.b_law_equal (da_cons (de_fz (dn_lst (da_cons (de_call (ok_least T) (hr.mono (by decide)) hG tk (by rfl) T.m_least T.F_least.kp T.b_least (da_cons (de_var 6 (pv 6)) da_nil)) (da_cons (de_call (ok_are_alike T) (hr.mono (by decide)) hG tk (by rfl) T.m_are_alike T.F_are_alike.kp T.b_are_alike (da_cons (de_var 6 (pv 6)) (da_cons (de_var 2 (pv 2)) da_nil))) (da_cons (de_callK0 (ks := ["other", "summary"]) (ok_are_alike T) (hr.mono (by decide)) hG tk (by rfl) T.m_are_alike T.F_are_alike.kp (kw_are_alike_p0_other_summary T) rfl (dk_cons (de_var 6 (pv 6)) (dk_cons (de_var 2 (pv 2)) dk_nil))) (da_cons (de_call (ok_are_alike T) (hr.mono (by decide)) hG tk (by rfl) T.m_are_alike T.F_are_alike.kp T.b_are_alike (da_cons (de_var 3 (pv 3)) (da_cons (de_var 5 (pv 5)) da_nil))) da_nil)))))) (da_cons (de_fz (dn_lst (da_cons (de_call (ok_law_least T) (hr.mono (by decide)) hG tk (by rfl) T.m_law_least T.F_law_least.kp T.b_law_least (da_cons (de_var 6 (pv 6)) da_nil)) (da_cons (de_var 7 (pv 7)) (da_cons (de_var 7 (pv 7)) (da_cons de_bl da_nil)))))) da_nil)))))
  (dss_one (ds_ret de_bl))
  dss_nil)
  (dss_cons (ds_for (passes_of rfl) rfl (di_seq (dQ_fz (de_call (ok_law_logs T) (hr.mono (by decide)) hG tk (by rfl) T.m_law_logs T.F_law_logs.kp T.b_law_logs (da_cons (de_var 1 (pv 1)) (da_cons (de_if (dt_cmp op_lt ok_lt (de_var 1 (pv 1)) de_int (nomark _)) de_int de_int) da_nil))))) (dg_name (i := 8) sc_law_right.nd rfl (by first | exact .inl rfl | exact .inr rfl))
  (dss_one (ds_if (dt_w (dw_or (dt_cmp (or_ne (by exact Nat.lt_of_le_of_lt (Nat.add_le_add_left (by decide) _) hu)) ok_ne (de_call (ok_law_answer T) (hr.mono (by decide)) hG tk (by rfl) T.m_law_answer T.F_law_answer.kp T.b_law_answer (da_cons (de_var 5 (pv 5)) (da_cons (de_var 8 (pv 8)) da_nil))) (de_call (ok_law_answer T) (hr.mono (by decide)) hG tk (by rfl) T.m_law_answer T.F_law_answer.kp T.b_law_answer (da_cons (de_var 3 (pv 3)) (da_cons (de_var 8 (pv 8)) da_nil))) (nomark _)) (dw_or1 (dt_w (dw_and (dt_of (de_var 7 (pv 7))) (dw_and1 (dt_cmp (or_ne (by exact Nat.lt_of_le_of_lt (Nat.add_le_add_left (by decide) _) hu)) ok_ne (de_call (ok_law_answer T) (hr.mono (by decide)) hG tk (by rfl) T.m_law_answer T.F_law_answer.kp T.b_law_answer (da_cons (de_var 6 (pv 6)) (da_cons (de_var 8 (pv 8)) da_nil))) (de_call (ok_law_answer T) (hr.mono (by decide)) hG tk (by rfl) T.m_law_answer T.F_law_answer.kp T.b_law_answer (da_cons (de_var 5 (pv 5)) (da_cons (de_var 8 (pv 8)) da_nil))) (nomark _))))))))
  (dss_one (ds_ret de_bl))
  dss_nil)))
  (dss_one (ds_ret (de_cmp (or_eq (by exact Nat.lt_of_le_of_lt (Nat.add_le_add_left (by decide) _) hu)) ok_eq (de_repr hG hu (by rfl) T.z_repr (de_var 2 (pv 2))) (de_var 4 (pv 4)) (nomark _))))))))))))))
def g_in : DEnv → T Fl :=
  (gFor (dRange1 (dC (.int 2))) (bName 3)
  (gIf (dTNot (dT (dCall 1 f_law_right (dCons (dV 2) dNil))))
  (gRet (dC (.bl false)))
  gNil))
theorem ok_law (T : Txt K mg base) (hin : ∀ a i, (g_in (envW a i)).wp (fun fl _ => ∃ s1 s2 s3, fl = .nx [.sh (.raw a), s1, s2, s3]) (fun _ _ => False) 0) : FnG P w K mg base 10 T.a_law T.fd_law ["script"] (spLaw K) := by
  refine FnG.of T.F_law sc_law (fun vs H Q E h => by obtain ⟨a, ns, rfl, _⟩ := h; rfl) fun cdv A outer s H vs Q E hr hG hu tk h => ?_
  obtain ⟨a, ns, rfl, ho, hS, hlen, hbits, q⟩ := h
  have hl : (ns.map V.int).length ≤ 63 := by rw [List.length_map]; exact hlen
  refine ⟨_, pss_cons (ps_for (passes_of rfl) rfl (pi_range1 (by rfl) T.z_range (pa_cons (pe_callB (call_max2 rfl) (by rfl) T.z_max (by decide +kernel) (pa_cons pe_int (pa_cons (pe_callB (call_min2 rfl) (by rfl) T.z_min (by decide +kernel) (pa_cons pe_int (pa_cons (pe_callB call_len_seq (by rfl) T.z_len (by decide +kernel) (pa_cons (pv 0) pa_nil)) pa_nil))) pa_nil))) pa_nil)) (pg_name (i := 1) sc_law.nd rfl (.inl rfl))
      (pss_cons (ps_set (i := 2) sc_law.nd rfl (.inl rfl) (pe_callG (ok_law_well T) (hr.mono (by decide)) hG tk (by rfl) T.m_law_well T.F_law_well.kp T.b_law_well (pa_cons (pv 0) (pa_cons (pv 1) pa_nil))))
      (pss_one ((ds_for (passes_of rfl) rfl (di_range1 (by rfl) T.z_range de_int) (dg_name (i := 3) sc_law.nd rfl (by first | exact .inl rfl | exact .inr rfl))
  (dss_one (ds_if (dt_not (dt_of (de_call (ok_law_right T) (hr.mono (by decide)) hG tk (by rfl) T.m_law_right T.F_law_right.kp T.b_law_right (da_cons (de_var 2 (pv 2)) da_nil))))
  (dss_one (ds_ret de_bl))
  dss_nil))) : PS _ _ (sD K mg _ g_in)))))
    (pss_one (ps_ret pe_bl)), ?_⟩
  refine ⟨_, rfl, a, _, rfl, .inl hS, _, _, rfl, _, _, rfl, _, rfl, by split <;> split <;> omega, by split <;> split <;> omega, for_range (fun _ σ H3 => (∃ v1 v2 v3, σ = [some (.ref a), v1, v2, v3]) ∧ SqL K H3 a (ns.map V.int) ∧ NdefX.TabsN Tb.T H3) ⟨⟨none, none, none, rfl⟩, hS, ho⟩ ?_ ?_⟩
  · rintro i σ H3 hi ⟨⟨v1, v2, v3, rfl⟩, k0, kT⟩
    have hi2 : (i : Int) < 64 := by
      have : i < 64 := by
        revert hi
        split <;> split <;> omega
      omega
    refine ⟨_, rfl, _, rfl, a, ns, _, rfl, k0, hlen, hbits, by omega, by omega, fun H' p x y k np hp hx0 hx1 hy => ?_⟩
    exact main_inner k0 kT k np hp hx0 hx1 hy (hin _ _) fun σ2 H2 h1 h2 h3 => ⟨h1, h2, h3⟩
  · rintro σ H3 _
    exact q H3

end
end
end G04
namespace G04
open PySem AL
noncomputable section
@[simp] theorem r_is_integer : f_is_integer = x_is_integer := rfl
@[simp] theorem r_is_from : f_is_from = x_is_from := rfl
@[simp] theorem r_is_below : f_is_below = x_is_below := rfl
@[simp] theorem r_is_tuple : f_is_tuple = x_is_tuple := rfl
@[simp] theorem r_is_row : f_is_row = x_is_row := rfl
@[simp] theorem r_summary_fault : f_summary_fault = x_summary_fault := rfl
@[simp] theorem r_law_led : f_law_led = x_led := rfl
@[simp] theorem r_law_answer : f_law_answer = x_answer_in := rfl
@[simp] theorem r_law_take : f_law_take = fTake := rfl
@[simp] theorem r_law_logs : f_law_logs = x_logs := rfl
@[simp] theorem r_law_apart : f_law_apart = x_apart := rfl
@[simp] theorem r_law_reached : f_law_reached = x_reached := rfl
@[simp] theorem r_law_least : f_law_least = x_lleast := rfl
@[simp] theorem r_least_in : f_least_in = x_least_in := rfl
theorem r_twofold : f_law_twofold = x_twofold := rfl
theorem r_bent : f_law_bent = x_bent := rfl
theorem r_law_summary {E S A : Nat} (e1 : 1 ≤ E) (e2 : E ≤ 6) (s1 : 1 ≤ S) (s2 : S ≤ 12) (a1 : 1 ≤ A) (a2 : A ≤ 100) : run (f_law_summary [.well, nD E, nD S, nD A]) (E * S + S) fun d => ∃ mv an, d = sD3 E mv an ∧ Val E mv an ∧ mv.length = S ∧ ∀ x ∈ an, x < A := run_summary e1 e2 s1 s2 a1 a2
theorem e_law_equal {d : D} (h : d.canShow) : f_law_equal [d, d] = .ok (.bl true) := by
  simp [f_law_equal, g_law_equal, env0, h]
section
variable {E : Nat} {mv mv2 : List (List Nat)} {an an2 : List Nat} {B : List Beh}
theorem e_check_summary (v : Val E mv an) : f_check_summary [sD3 E mv an] = .ok .non := by
  simp [f_check_summary, g_check_summary, env0, q_summary_fault v]
theorem e_check_other (v : Val E mv an) (v2 : Val E mv2 an2) : f_check_other [sD3 E mv an, sD3 E mv2 an2] = .ok .non := by
  have h := e_check_summary v2
  simp only [sD3, nD] at h
  simp [f_check_other, g_check_other, env0, sD3, nD, h]
theorem e_parting (v : Val E mv an) (v2 : Val E mv2 an2) (hN : mv.length * mv2.length ≤ 99) {s s2 : Nat} (hs : s < mv.length) (hs2 : s2 < mv2.length) {r : Option (List Nat)}
    (hr : Res E (stepP mv mv2) (goalP an an2) [((s, s2), [])] 0 r) : f_parting_from [sD3 E mv an, nD s, sD3 E mv2 an2, nD s2] = .ok (optR r) :=
  q_parting (i := 0) (j := 1) (n := 100) (js := js_parting_from) v v2 rfl rfl (by decide) (by omega) (by decide) hs hs2 hr
/-- alike: their classes are the same -/
theorem e_are_alike (v : Val E mv an) (v2 : Val E mv2 an2) (hN : mv.length * mv2.length ≤ 99) : f_are_alike [sD3 E mv an, sD3 E mv2 an2] = .ok (.bl (decide (beh E mv an 0 = beh E mv2 an2 0))) := by
  obtain ⟨r, hr⟩ := part_some v v2 v.pos v2.pos
  rw [← part_none hr v v2]
  have h := e_parting v v2 hN v.pos v2.pos hr
  simp only [nD] at h
  rw [show ((0 : Nat) : Int) = 0 from rfl] at h
  simp [f_are_alike, g_are_alike, env0, e_check_summary v, e_check_other v v2, h]
theorem e_least (v : Val E mv an) (h : mv.length < 100) (hB : Lst E mv an B) : f_least [sD3 E mv an] = .ok (sD3 E (rowsOf E B) (ansOf B)) := by
  simp [f_least, g_least, env0, e_check_summary v, q_least v h hB]
theorem e_is_least (v : Val E mv an) (h : mv.length < 100) (hB : Lst E mv an B) : f_is_least [sD3 E mv an] = .ok (.bl (decide (mv = rowsOf E B ∧ an = ansOf B))) := by
  simp [f_is_least, g_is_least, env0, e_check_summary v, q_least v h hB, opEq_sD3]
/-! what is shown -/
theorem num_sum (v : Val E mv an) (hm : mv.length ≤ 20) (ha : ∀ x ∈ an, x < 100) (hE : E ≤ 6) : (sD3 E mv an).num = true ∧ (sD3 E mv an).sz ≤ 100000 ∧ (sD3 E mv an).dep ≤ 3 := by
  refine ⟨?_, ?_, ?_⟩
  · have h1 : D.nums (mv.map rD) = true := nums_rD fun r hr x hx => by have := (v.row r hr).2 x hx; omega
    have h2 := num_rD (l := an) fun x hx => by have := ha x hx; omega
    simp only [sD3, D.num, D.nums, h1, h2, num_nD (x := E) (by omega), Bool.and_self]
  · have h1 := szs_rD (m := mv) (k := 6) fun r hr => by rw [(v.row r hr).1]; exact hE
    have h2 := sz_rD an
    have h3 := v.an
    have h4 : (26 * 6 + 5) * mv.length ≤ (26 * 6 + 5) * 20 := Nat.mul_le_mul_left _ hm
    simp only [sD3, D.sz, D.szs, h2, sz_nD]
    omega
  · have h1 := deps_rD mv
    have h2 := dep_rD an
    simp only [sD3, D.dep, D.deps, dep_nD]
    omega
theorem show3 {x : D} (h : x.num = true ∧ x.sz ≤ 100000 ∧ x.dep ≤ 3) : (D.lst [x, x, x]).canShow := by
  refine canShow_of ?_ ?_ ?_
  · simp only [D.num, D.nums, h.1, Bool.and_self]
  · simp only [D.sz, D.szs]; exact szl (by have := h.2.1; omega)
  · simp only [D.dep, D.deps]; have := h.2.2; omega
theorem show4 {x : D} (h : x.num = true ∧ x.sz ≤ 100000 ∧ x.dep ≤ 3) (b : Bool) : (D.lst [x, .bl b, .bl b, .bl true]).canShow := by
  refine canShow_of ?_ ?_ ?_
  · simp only [D.num, D.nums, h.1, Bool.and_self]
  · simp only [D.sz, D.szs]; exact szl (by have := h.2.1; omega)
  · simp only [D.dep, D.deps]; have := h.2.2; omega
theorem showb (b : Bool) : (D.lst [.bl true, .bl b, .bl false]).canShow := by
  cases b <;> exact canShow_of (by decide +kernel) (szl (by decide +kernel)) (by decide +kernel)
theorem show1 {x : D} (h : x.num = true ∧ x.sz ≤ 100000 ∧ x.dep ≤ 3) : x.canShow := canShow_of h.1 (szl (by have := h.2.1; omega)) (by have := h.2.2; omega)
end
def lastX : DEnv → T Fl :=
  (gIf (dTOr (dT (dB opNe (dCall 2 f_law_answer (dCons (dV 5) (dCons (dV 8) dNil))) (dCall 2 f_law_answer (dCons (dV 3) (dCons (dV 8) dNil))))) (dTAnd (dT (dV 7)) (dT (dB opNe (dCall 2 f_law_answer (dCons (dV 6) (dCons (dV 8) dNil))) (dCall 2 f_law_answer (dCons (dV 5) (dCons (dV 8) dNil)))))))
  (gRet (dC (.bl false)))
  gNil)
theorem e_last {E : Nat} {mv2 mv3 mvB : List (List Nat)} {an2 an3 anB : List Nat} (v2 : Val E mv2 an2) (v3 : Val E mv3 an3) (vB : Val E mvB anB) (same : Bool) (h2 : beh E mv2 an2 0 = beh E mvB anB 0) (h3 : same = true → beh E mv3 an3 0 = beh E mvB anB 0) {L : Nat} (ls : List (List Nat)) (hls : ∀ w ∈ ls, LogOk E L w) (s0 s1 s2 s4 s8 : AL.Slot) :
    ∃ t8, forGo (bName 8) lastX (ls.map rD) [s0, s1, s2, .sh (sD3 E mv2 an2), s4, .sh (sD3 E mvB anB), .sh (sD3 E mv3 an3), .sh (.bl same), s8] = .ok (.nx [s0, s1, s2, .sh (sD3 E mv2 an2), s4, .sh (sD3 E mvB anB), .sh (sD3 E mv3 an3), .sh (.bl same), t8]) := by
  obtain ⟨ρ', h, t8, rfl⟩ := for_all (fb := bName 8) (g := lastX) (fun ρ => ∃ t8, ρ = [s0, s1, s2, .sh (sD3 E mv2 an2), s4, .sh (sD3 E mvB anB), .sh (sD3 E mv3 an3), .sh (.bl same), t8]) (xs := ls.map rD) (ρ := [s0, s1, s2, .sh (sD3 E mv2 an2), s4, .sh (sD3 E mvB anB), .sh (sD3 E mv3 an3), .sh (.bl same), s8]) ⟨s8, rfl⟩ fun y hy ρ hI => by
    obtain ⟨t8, rfl⟩ := hI
    obtain ⟨w, hw, rfl⟩ := List.mem_map.mp hy
    have ok := (hls w hw).1
    have a2 := q_answer_in v2 ok
    have a3 := q_answer_in v3 ok
    have aB := q_answer_in vB ok
    have e2 := beh_iff.mp h2 w ok
    refine ⟨_, rfl, [s0, s1, s2, .sh (sD3 E mv2 an2), s4, .sh (sD3 E mvB anB), .sh (sD3 E mv3 an3), .sh (.bl same), .sh (rD w)], .inl ?_, _, rfl⟩
    show lastX [s0, s1, s2, .sh (sD3 E mv2 an2), s4, .sh (sD3 E mvB anB), .sh (sD3 E mv3 an3), .sh (.bl same), .sh (rD w)] = _
    cases same with
    | false => simp [lastX, a2, aB, e2, nD]
    | true =>
      have e3 := beh_iff.mp (h3 rfl) w ok
      simp [lastX, a2, a3, aB, e2, e3, nD]
  exact ⟨t8, h⟩
end
end G04
namespace G04
open PySem AL
noncomputable section
theorem r_law_right : run (f_law_right [.well]) 100 fun d => d = .bl true := by
  refine run_body ?_
  unfold g_law_right
  rw [show env0 9 [D.well] = [.sh .well, .no, .no, .no, .no, .no, .no, .no, .no] from rfl]
  refine run_mono (c := 1 + (21 + (67 + (4 + 0)))) ?_ (by omega) fun _ z => z
  refine run_seq (P := fun ρ => ∃ E : Nat, 1 ≤ E ∧ E ≤ 3 ∧ ρ = [.sh .well, .sh (nD E), .no, .no, .no, .no, .no, .no, .no]) ?_ ?_
  · refine run_imp (run_set (run_plus (k := 1) (m := 3) (by decide) (by decide) rfl)) ?_
    rintro fl ⟨d, ⟨E, rfl, h1, h2⟩, rfl⟩
    exact ⟨_, rfl, E, h1, by omega, rfl⟩
  rintro ρ ⟨E, e1, e3, rfl⟩
  refine run_seq (P := fun ρ => ∃ mv an, ρ = [.sh .well, .sh (nD E), .sh (sD3 E mv an), .no, .no, .no, .no, .no, .no] ∧ Val E mv an ∧ mv.length ≤ 5 ∧ ∀ x ∈ an, x < 100) ?_ ?_
  · refine run_imp (run_set (P := fun d => ∃ mv an, d = sD3 E mv an ∧ Val E mv an ∧ mv.length ≤ 5 ∧ ∀ x ∈ an, x < 100) (run_mono (run_dCall (c1 := 0 + (0 + (1 + (0 + 0)))) (c2 := 20) (run_cons (run_pure (a := .well) rfl) (run_cons (run_pure (a := nD E) rfl) (run_cons (run_plus (k := 1) (m := 5) (by decide) (by decide) rfl) (run_cons (run_pure (a := nD 3) rfl) run_nil)))) fun ds h => ?_) (by decide) fun _ z => z)) ?_
    · obtain ⟨_, _, rfl, rfl, _, _, rfl, rfl, _, _, rfl, ⟨n, rfl, h1, h2⟩, _, _, rfl, rfl, rfl⟩ := h
      have : E * n ≤ 3 * 5 := Nat.mul_le_mul e3 (by omega)
      refine ⟨rfl, run_mono (r_law_summary (E := E) (S := n) (A := 3) e1 (by omega) h1 (by omega) (by decide) (by decide)) (by omega) ?_⟩
      rintro d ⟨mv, an, rfl, v, hl, ha⟩
      exact ⟨mv, an, rfl, v, by omega, fun x hx => by have := ha x hx; omega⟩
    · rintro fl ⟨d, ⟨mv, an, rfl, v⟩, rfl⟩
      exact ⟨_, rfl, mv, an, rfl, v⟩
  rintro ρ ⟨mv, an, rfl, v, hm, ha⟩
  have sh := show1 (num_sum v (by omega) ha (by omega))
  refine run_seq (P := fun ρ => ∃ mv2 an2, ρ = [.sh .well, .sh (nD E), .sh (sD3 E mv an), .sh (sD3 E mv2 an2), .sh (.str (sD3 E mv an).py.shown), .no, .no, .no, .no] ∧ Val E mv2 an2 ∧ mv2.length = 2 * mv.length + 1 ∧ (∀ x ∈ an2, x < 100) ∧ beh E mv2 an2 0 = beh E mv an 0) ?_ ?_
  · refine run_imp (run_gPar (c1 := 67) (c2 := 0) (run_dSh (run_dCall0 (ds := [.well, sD3 E mv an]) rfl rfl (run_mono (run_twofold v ha (by omega) (by omega)) (by omega) fun _ z => z))) (run_dSh (run_pure (a := .str (sD3 E mv an).py.shown) (by simp [sh])))) ?_
    rintro fl ⟨s, t, ⟨_, ⟨mv2, an2, rfl, h⟩, rfl⟩, ⟨_, rfl, rfl⟩, rfl⟩
    exact ⟨_, rfl, mv2, an2, rfl, h⟩
  rintro ρ ⟨mv2, an2, rfl, v2, hm2, ha2, hb2⟩
  obtain ⟨B, hB⟩ := lst_ex v (by omega)
  obtain ⟨vB, lB, aB⟩ := lst_val v (by omega) hB
  have bB := lst_beh hB
  have hB2 : Lst E mv2 an2 B := lst_of hB hb2
  have hBB : Lst E (rowsOf E B) (ansOf B) B := lst_self hB
  have q1 := q_lle v (by omega) hB
  have q2 := e_least v (by omega) hB
  have q3 := e_least v2 (by omega) hB2
  have q4 := e_least vB (by omega) hBB
  have i1 := e_is_least vB (by omega) hBB
  have i2 := e_is_least v (by omega) hB
  have i3 := e_is_least v2 (by omega) hB2
  rw [decide_eq_true ⟨rfl, rfl⟩] at i1
  rw [decide_eq_false (fun h => by have := congrArg List.length h.1; omega)] at i3
  have nB := num_sum vB (by omega) (fun x hx => ha x (aB x hx)) (by omega)
  have s3 := e_law_equal (show3 nB)
  have s4 := e_law_equal (showb (decide (mv = rowsOf E B ∧ an = ansOf B)))
  have oe := opEq_sD3 (E := E) (mv := mv) (an := an) (mv2 := rowsOf E B) (an2 := ansOf B)
  generalize hR : rowsOf E B = R at *
  generalize hA : ansOf B = A at *
  generalize decide (mv = R ∧ an = A) = b1 at *
  refine run_seq0 (ρ' := [.sh .well, .sh (nD E), .sh (sD3 E mv an), .sh (sD3 E mv2 an2), .sh (.str (sD3 E mv an).py.shown), .sh (sD3 E R A), .no, .no, .no]) (by simp [q1]) ?_
  refine run_seq0 (ρ' := [.sh .well, .sh (nD E), .sh (sD3 E mv an), .sh (sD3 E mv2 an2), .sh (.str (sD3 E mv an).py.shown), .sh (sD3 E R A), .no, .no, .no]) (by simp [q2, q3, q4, s3]) ?_
  refine run_seq0 (ρ' := [.sh .well, .sh (nD E), .sh (sD3 E mv an), .sh (sD3 E mv2 an2), .sh (.str (sD3 E mv an).py.shown), .sh (sD3 E R A), .no, .no, .no]) (by simp [i1, i2, i3, oe, s4]) ?_
  refine run_seq (c := 4) (P := fun ρ => ∃ mv3 an3, ρ = [.sh .well, .sh (nD E), .sh (sD3 E mv an), .sh (sD3 E mv2 an2), .sh (.str (sD3 E mv an).py.shown), .sh (sD3 E R A), .sh (sD3 E mv3 an3), .no, .no] ∧ Val E mv3 an3 ∧ mv3.length = mv2.length ∧ ∀ x ∈ an3, x < 100) ?_ ?_
  · refine run_imp (run_set (run_dCall0 (ds := [.well, sD3 E mv2 an2]) rfl rfl (run_bent v2 ha2 (by omega)))) ?_
    rintro fl ⟨d, ⟨mv3, an3, rfl, h⟩, rfl⟩
    exact ⟨_, rfl, mv3, an3, rfl, h⟩
  rintro ρ ⟨mv3, an3, rfl, v3, hm3, ha3⟩
  obtain ⟨C, hC⟩ := lst_ex v3 (by omega)
  obtain ⟨vC, lC, aC⟩ := lst_val v3 (by omega) hC
  have c1 := q_lle v3 (by omega) hC
  have c2 := e_least v3 (by omega) hC
  have hN : mv3.length * mv.length ≤ 11 * 5 := Nat.mul_le_mul (by omega) hm
  have hN2 : mv2.length * R.length ≤ 11 * 5 := Nat.mul_le_mul (by omega) (by omega)
  have al1 := e_are_alike v3 v (by omega)
  have hN3 : mv.length * mv3.length ≤ 5 * 11 := Nat.mul_le_mul hm (by omega)
  have al3 := e_are_alike v v3 (by omega)
  rw [show decide (beh E mv an 0 = beh E mv3 an3 0) = decide (beh E mv3 an3 0 = beh E mv an 0) from decide_eq_decide.mpr eq_comm] at al3
  have al2 := e_are_alike v2 vB (by omega)
  rw [decide_eq_true (show beh E mv2 an2 0 = beh E R A 0 by rw [hb2, bB])] at al2
  have oc := opEq_sD3 (E := E) (mv := rowsOf E C) (an := ansOf C) (mv2 := R) (an2 := A)
  have sm := lst_same hC hB
  rw [hR, hA] at sm
  have es : decide (rowsOf E C = R ∧ ansOf C = A) = decide (beh E mv3 an3 0 = beh E mv an 0) := decide_eq_decide.mpr sm
  rw [es] at oc
  have nC := num_sum vC (by omega) (fun x hx => ha3 x (aC x hx)) (by omega)
  have s5 := e_law_equal (show4 nC (decide (beh E mv3 an3 0 = beh E mv an 0)))
  have hsame : decide (beh E mv3 an3 0 = beh E mv an 0) = true → beh E mv3 an3 0 = beh E R A 0 := fun h => by rw [of_decide_eq_true h, bB]
  generalize decide (beh E mv3 an3 0 = beh E mv an 0) = same at *
  refine run_seq0 (ρ' := [.sh .well, .sh (nD E), .sh (sD3 E mv an), .sh (sD3 E mv2 an2), .sh (.str (sD3 E mv an).py.shown), .sh (sD3 E R A), .sh (sD3 E mv3 an3), .sh (.bl same), .no]) (by simp [c1, oc]) ?_
  refine run_seq0 (ρ' := [.sh .well, .sh (nD E), .sh (sD3 E mv an), .sh (sD3 E mv2 an2), .sh (.str (sD3 E mv an).py.shown), .sh (sD3 E R A), .sh (sD3 E mv3 an3), .sh (.bl same), .no]) (by simp [c1, c2, al1, al2, al3, s5]) ?_
  obtain ⟨L, hL, hL8⟩ : ∃ L : Nat, (if (E : Int) < 3 then D.int 6 else .int 5) = nD L ∧ L ≤ 8 := by
    by_cases h : (E : Int) < 3
    · exact ⟨6, by rw [if_pos h]; rfl, by decide⟩
    · exact ⟨5, by rw [if_neg h]; rfl, by decide⟩
  obtain ⟨ls, l1, l2⟩ := q_logs (E := E) (L := L) (by omega) hL8
  obtain ⟨t8, hl⟩ := e_last v2 v3 vB same (by rw [hb2, bB]) hsame ls l2 (.sh .well) (.sh (nD E)) (.sh (sD3 E mv an)) (.sh (.str (sD3 E mv an).py.shown)) .no
  have hi : dItems (dSq (dCall 2 f_law_logs (dCons (dV 1) (dCons (dIf (dT (dB opLt (dV 1) (dC (.int 3)))) (dC (.int 6)) (dC (.int 5))) dNil)))) [.sh .well, .sh (nD E), .sh (sD3 E mv an), .sh (sD3 E mv2 an2), .sh (.str (sD3 E mv an).py.shown), .sh (sD3 E R A), .sh (sD3 E mv3 an3), .sh (.bl same), .no] = .ok (ls.map rD) := by
    have e1 : dIf (dT (dB opLt (dV 1) (dC (.int 3)))) (dC (.int 6)) (dC (.int 5)) [.sh .well, .sh (nD E), .sh (sD3 E mv an), .sh (sD3 E mv2 an2), .sh (.str (sD3 E mv an).py.shown), .sh (sD3 E R A), .sh (sD3 E mv3 an3), .sh (.bl same), .no] = .ok (nD L) := by
      rw [← hL]
      by_cases h : (E : Int) < 3 <;> simp [nD, h]
    rw [s_dItems, s_dSq, s_dCall, s_dCons, s_dCons, e1]
    simp [l1, Sq.xs]
  refine run_seq0 (ρ' := [.sh .well, .sh (nD E), .sh (sD3 E mv an), .sh (sD3 E mv2 an2), .sh (.str (sD3 E mv an).py.shown), .sh (sD3 E R A), .sh (sD3 E mv3 an3), .sh (.bl same), t8]) (by rw [s_gFor, hi, T.ex_ok]; exact hl) ?_
  exact run_imp (run_ret (P := fun d => d = .bl true) (run_eq (a := .bl true) (by simp [sh]) rfl)) fun _ z => z
theorem hin : ∀ a i, (g_in (envW a i)).wp (fun fl _ => ∃ s1 s2 s3, fl = .nx [.sh (.raw a), s1, s2, s3]) (fun _ _ => False) 0 := fun a i => by
  have r := run_for (fb := bName 3) (g := gIf (dTNot (dT (dCall 1 f_law_right (dCons (dV 2) dNil)))) (gRet (dC (.bl false))) gNil) (c := 100) (fun _ ρ => ∃ s3, ρ = [.sh (.raw a), .sh (.int i), .sh .well, s3]) ((List.range 2).map nD) 0 (envW a i) ⟨_, rfl⟩ fun j x ρ hx hI => by
    obtain ⟨s3, rfl⟩ := hI
    refine ⟨_, rfl, ?_⟩
    rw [s_gIf]
    refine run_mono (run_ex (c1 := 100) (c2 := 0) (P := fun b => b = false) ?_ fun b hb => ?_) (by decide) fun _ z => z
    · rw [s_dTNot, s_dT]
      refine run_bind0 (P := fun b => b = true) (run_bind0 (P := fun d => d = .bl true) (run_dCall0 (ds := [.well]) rfl rfl r_law_right) fun d hd => ?_) fun b hb => ?_
      · subst hd; exact run_ok rfl
      · subst hb; exact run_ok rfl
    · subst hb
      exact run_ok ⟨_, .inl rfl, _, rfl⟩
  have h := r.at_ 0 (by decide)
  have e : g_in (envW a i) = forGo (bName 3) (gIf (dTNot (dT (dCall 1 f_law_right (dCons (dV 2) dNil)))) (gRet (dC (.bl false))) gNil) ((List.range 2).map nD) (envW a i) := by
    have hr : rangeT (.int 2) = .ok ((List.range 2).map nD) := rangeT_nat (n := 2) (by omega)
    unfold g_in
    rw [s_gFor, s_dRange1, s_dC, T.bind_ok, hr, T.ex_ok]
  rw [e]
  exact T.wp_mono (fun fl m q => by
    obtain ⟨⟨ρ2, e2, s3, e3⟩, _⟩ := q
    exact ⟨_, _, _, by rw [e2, e3]⟩) (fun _ _ z => z) h
end
end G04
namespace G04
open PySem PySem.Spec PyProof.Rows L2 AL
noncomputable section
theorem all_mk {l : PySem.W.OpenLaw} {w : World} {K : PySem.W.Frag} {h : Heap} {mg : Str → Option Value} {fa : Addr} (X : K.In h) (G : h.Ns mainGlobals mg) (hfa : mg "law" = some (.ref fa))
    {f_law_well : Addr} {oc_law_well kV_law_well dc_law_well pm_law_well cd_law_well ct_law_well : Value} {od_law_well an_law_well : Option Addr} {sl_law_well : Array (Option Value)}
    {f_law_led : Addr} {oc_law_led kV_law_led dc_law_led pm_law_led cd_law_led ct_law_led : Value} {od_law_led an_law_led : Option Addr} {sl_law_led : Array (Option Value)}
    {f_law_answer : Addr} {oc_law_answer kV_law_answer dc_law_answer pm_law_answer cd_law_answer ct_law_answer : Value} {od_law_answer an_law_answer : Option Addr} {sl_law_answer : Array (Option Value)}
    {f_law_take : Addr} {oc_law_take kV_law_take dc_law_take pm_law_take cd_law_take ct_law_take : Value} {od_law_take an_law_take : Option Addr} {sl_law_take : Array (Option Value)}
    {f_law_bent : Addr} {oc_law_bent kV_law_bent dc_law_bent pm_law_bent cd_law_bent ct_law_bent : Value} {od_law_bent an_law_bent : Option Addr} {sl_law_bent : Array (Option Value)}
    {f_law_equal : Addr} {oc_law_equal kV_law_equal dc_law_equal pm_law_equal cd_law_equal ct_law_equal : Value} {od_law_equal an_law_equal : Option Addr} {sl_law_equal : Array (Option Value)}
    {f_law_apart : Addr} {oc_law_apart kV_law_apart dc_law_apart pm_law_apart cd_law_apart ct_law_apart : Value} {od_law_apart an_law_apart : Option Addr} {sl_law_apart : Array (Option Value)}
    {f_law_reached : Addr} {oc_law_reached kV_law_reached dc_law_reached pm_law_reached cd_law_reached ct_law_reached : Value} {od_law_reached an_law_reached : Option Addr} {sl_law_reached : Array (Option Value)}
    {f_law_least : Addr} {oc_law_least kV_law_least dc_law_least pm_law_least cd_law_least ct_law_least : Value} {od_law_least an_law_least : Option Addr} {sl_law_least : Array (Option Value)}
    {f_law_logs : Addr} {oc_law_logs kV_law_logs dc_law_logs pm_law_logs cd_law_logs ct_law_logs : Value} {od_law_logs an_law_logs : Option Addr} {sl_law_logs : Array (Option Value)}
    {f_law_summary : Addr} {oc_law_summary kV_law_summary dc_law_summary pm_law_summary cd_law_summary ct_law_summary : Value} {od_law_summary an_law_summary : Option Addr} {sl_law_summary : Array (Option Value)}
    {f_law_twofold : Addr} {oc_law_twofold kV_law_twofold dc_law_twofold pm_law_twofold cd_law_twofold ct_law_twofold : Value} {od_law_twofold an_law_twofold : Option Addr} {sl_law_twofold : Array (Option Value)}
    {f_is_integer : Addr} {oc_is_integer kV_is_integer dc_is_integer pm_is_integer cd_is_integer ct_is_integer : Value} {od_is_integer an_is_integer : Option Addr} {sl_is_integer : Array (Option Value)}
    {f_is_from : Addr} {oc_is_from kV_is_from dc_is_from pm_is_from cd_is_from ct_is_from : Value} {od_is_from an_is_from : Option Addr} {sl_is_from : Array (Option Value)}
    {f_is_below : Addr} {oc_is_below kV_is_below dc_is_below pm_is_below cd_is_below ct_is_below : Value} {od_is_below an_is_below : Option Addr} {sl_is_below : Array (Option Value)}
    {f_is_row : Addr} {oc_is_row kV_is_row dc_is_row pm_is_row cd_is_row ct_is_row : Value} {od_is_row an_is_row : Option Addr} {sl_is_row : Array (Option Value)}
    {f_is_tuple : Addr} {oc_is_tuple kV_is_tuple dc_is_tuple pm_is_tuple cd_is_tuple ct_is_tuple : Value} {od_is_tuple an_is_tuple : Option Addr} {sl_is_tuple : Array (Option Value)}
    {f_summary_fault : Addr} {oc_summary_fault kV_summary_fault dc_summary_fault pm_summary_fault cd_summary_fault ct_summary_fault : Value} {od_summary_fault an_summary_fault : Option Addr} {sl_summary_fault : Array (Option Value)}
    {f_check_summary : Addr} {oc_check_summary kV_check_summary dc_check_summary pm_check_summary cd_check_summary ct_check_summary : Value} {od_check_summary an_check_summary : Option Addr} {sl_check_summary : Array (Option Value)}
    {f_check_other : Addr} {oc_check_other kV_check_other dc_check_other pm_check_other cd_check_other ct_check_other : Value} {od_check_other an_check_other : Option Addr} {sl_check_other : Array (Option Value)}
    {f_first_way : Addr} {oc_first_way kV_first_way dc_first_way pm_first_way cd_first_way ct_first_way : Value} {od_first_way an_first_way : Option Addr} {sl_first_way : Array (Option Value)}
    {f_parting_from : Addr} {oc_parting_from kV_parting_from dc_parting_from pm_parting_from ct_parting_from : Value} {od_parting_from an_parting_from : Option Addr} {sl_parting_from : Array (Option Value)}
    {f_are_alike : Addr} {oc_are_alike kV_are_alike dc_are_alike pm_are_alike cd_are_alike ct_are_alike : Value} {od_are_alike an_are_alike : Option Addr} {sl_are_alike : Array (Option Value)}
    {f_kinds_of : Addr} {oc_kinds_of kV_kinds_of dc_kinds_of pm_kinds_of cd_kinds_of ct_kinds_of : Value} {od_kinds_of an_kinds_of : Option Addr} {sl_kinds_of : Array (Option Value)}
    {f_spread : Addr} {oc_spread kV_spread dc_spread pm_spread cd_spread ct_spread : Value} {od_spread an_spread : Option Addr} {sl_spread : Array (Option Value)}
    {f_merged : Addr} {oc_merged kV_merged dc_merged pm_merged cd_merged ct_merged : Value} {od_merged an_merged : Option Addr} {sl_merged : Array (Option Value)}
    {f_least_in : Addr} {oc_least_in kV_least_in dc_least_in pm_least_in cd_least_in ct_least_in : Value} {od_least_in an_least_in : Option Addr} {sl_least_in : Array (Option Value)}
    {f_is_least : Addr} {oc_is_least kV_is_least dc_is_least pm_is_least cd_is_least ct_is_least : Value} {od_is_least an_is_least : Option Addr} {sl_is_least : Array (Option Value)}
    {f_least : Addr} {oc_least kV_least dc_least pm_least cd_least ct_least : Value} {od_least an_least : Option Addr} {sl_least : Array (Option Value)}
    {f_law_right : Addr} {oc_law_right kV_law_right dc_law_right pm_law_right cd_law_right ct_law_right : Value} {od_law_right an_law_right : Option Addr} {sl_law_right : Array (Option Value)}
    {f_law : Addr} {oc_law kV_law dc_law pm_law cd_law ct_law : Value} {od_law an_law : Option Addr} {sl_law : Array (Option Value)}
    {cA_parting_from P_parting_from : Addr}
    (d_law_well : DefAt K "_law_well" s_law_well f_law_well oc_law_well od_law_well an_law_well sl_law_well kV_law_well dc_law_well pm_law_well cd_law_well ct_law_well)
    (d_law_led : DefAt K "_law_led" s_law_led f_law_led oc_law_led od_law_led an_law_led sl_law_led kV_law_led dc_law_led pm_law_led cd_law_led ct_law_led)
    (d_law_answer : DefAt K "_law_answer" s_law_answer f_law_answer oc_law_answer od_law_answer an_law_answer sl_law_answer kV_law_answer dc_law_answer pm_law_answer cd_law_answer ct_law_answer)
    (d_law_take : DefAt K "_law_take" s_law_take f_law_take oc_law_take od_law_take an_law_take sl_law_take kV_law_take dc_law_take pm_law_take cd_law_take ct_law_take)
    (d_law_bent : DefAt K "_law_bent" s_law_bent f_law_bent oc_law_bent od_law_bent an_law_bent sl_law_bent kV_law_bent dc_law_bent pm_law_bent cd_law_bent ct_law_bent)
    (d_law_equal : DefAt K "_law_equal" s_law_equal f_law_equal oc_law_equal od_law_equal an_law_equal sl_law_equal kV_law_equal dc_law_equal pm_law_equal cd_law_equal ct_law_equal)
    (d_law_apart : DefAt K "_law_apart" s_law_apart f_law_apart oc_law_apart od_law_apart an_law_apart sl_law_apart kV_law_apart dc_law_apart pm_law_apart cd_law_apart ct_law_apart)
    (d_law_reached : DefAt K "_law_reached" s_law_reached f_law_reached oc_law_reached od_law_reached an_law_reached sl_law_reached kV_law_reached dc_law_reached pm_law_reached cd_law_reached ct_law_reached)
    (d_law_least : DefAt K "_law_least" s_law_least f_law_least oc_law_least od_law_least an_law_least sl_law_least kV_law_least dc_law_least pm_law_least cd_law_least ct_law_least)
    (d_law_logs : DefAt K "_law_logs" s_law_logs f_law_logs oc_law_logs od_law_logs an_law_logs sl_law_logs kV_law_logs dc_law_logs pm_law_logs cd_law_logs ct_law_logs)
    (d_law_summary : DefAt K "_law_summary" s_law_summary f_law_summary oc_law_summary od_law_summary an_law_summary sl_law_summary kV_law_summary dc_law_summary pm_law_summary cd_law_summary ct_law_summary)
    (d_law_twofold : DefAt K "_law_twofold" s_law_twofold f_law_twofold oc_law_twofold od_law_twofold an_law_twofold sl_law_twofold kV_law_twofold dc_law_twofold pm_law_twofold cd_law_twofold ct_law_twofold)
    (d_is_integer : DefAt K "is_integer" s_is_integer f_is_integer oc_is_integer od_is_integer an_is_integer sl_is_integer kV_is_integer dc_is_integer pm_is_integer cd_is_integer ct_is_integer)
    (d_is_from : DefAt K "is_from" s_is_from f_is_from oc_is_from od_is_from an_is_from sl_is_from kV_is_from dc_is_from pm_is_from cd_is_from ct_is_from)
    (d_is_below : DefAt K "is_below" s_is_below f_is_below oc_is_below od_is_below an_is_below sl_is_below kV_is_below dc_is_below pm_is_below cd_is_below ct_is_below)
    (d_is_row : DefAt K "is_row" s_is_row f_is_row oc_is_row od_is_row an_is_row sl_is_row kV_is_row dc_is_row pm_is_row cd_is_row ct_is_row)
    (d_is_tuple : DefAt K "is_tuple" s_is_tuple f_is_tuple oc_is_tuple od_is_tuple an_is_tuple sl_is_tuple kV_is_tuple dc_is_tuple pm_is_tuple cd_is_tuple ct_is_tuple)
    (d_summary_fault : DefAt K "summary_fault" s_summary_fault f_summary_fault oc_summary_fault od_summary_fault an_summary_fault sl_summary_fault kV_summary_fault dc_summary_fault pm_summary_fault cd_summary_fault ct_summary_fault)
    (d_check_summary : DefAt K "check_summary" s_check_summary f_check_summary oc_check_summary od_check_summary an_check_summary sl_check_summary kV_check_summary dc_check_summary pm_check_summary cd_check_summary ct_check_summary)
    (d_check_other : DefAt K "check_other" s_check_other f_check_other oc_check_other od_check_other an_check_other sl_check_other kV_check_other dc_check_other pm_check_other cd_check_other ct_check_other)
    (d_first_way : DefAt K "first_way" s_first_way f_first_way oc_first_way od_first_way an_first_way sl_first_way kV_first_way dc_first_way pm_first_way cd_first_way ct_first_way)
    (d_parting_from : DefAt K "parting_from" s_parting_from f_parting_from oc_parting_from od_parting_from an_parting_from sl_parting_from kV_parting_from dc_parting_from pm_parting_from (.ref cA_parting_from) ct_parting_from)
    (d_are_alike : DefAt K "are_alike" s_are_alike f_are_alike oc_are_alike od_are_alike an_are_alike sl_are_alike kV_are_alike dc_are_alike pm_are_alike cd_are_alike ct_are_alike)
    (d_kinds_of : DefAt K "kinds_of" s_kinds_of f_kinds_of oc_kinds_of od_kinds_of an_kinds_of sl_kinds_of kV_kinds_of dc_kinds_of pm_kinds_of cd_kinds_of ct_kinds_of)
    (d_spread : DefAt K "spread" s_spread f_spread oc_spread od_spread an_spread sl_spread kV_spread dc_spread pm_spread cd_spread ct_spread)
    (d_merged : DefAt K "merged" s_merged f_merged oc_merged od_merged an_merged sl_merged kV_merged dc_merged pm_merged cd_merged ct_merged)
    (d_least_in : DefAt K "least_in" s_least_in f_least_in oc_least_in od_least_in an_least_in sl_least_in kV_least_in dc_least_in pm_least_in cd_least_in ct_least_in)
    (d_is_least : DefAt K "is_least" s_is_least f_is_least oc_is_least od_is_least an_is_least sl_is_least kV_is_least dc_is_least pm_is_least cd_is_least ct_is_least)
    (d_least : DefAt K "least" s_least f_least oc_least od_least an_least sl_least kV_least dc_least pm_least cd_least ct_least)
    (d_law_right : DefAt K "_law_right" s_law_right f_law_right oc_law_right od_law_right an_law_right sl_law_right kV_law_right dc_law_right pm_law_right cd_law_right ct_law_right)
    (d_law : DefAt K "law" s_law f_law oc_law od_law an_law sl_law kV_law dc_law pm_law cd_law ct_law)
    (z_abs : PySem.W.nsIn K mainGlobals "abs" = some none)
    (z_all : PySem.W.nsIn K mainGlobals "all" = some none)
    (z_bool : PySem.W.nsIn K mainGlobals "bool" = some none)
    (z_enumerate : PySem.W.nsIn K mainGlobals "enumerate" = some none)
    (z_int : PySem.W.nsIn K mainGlobals "int" = some none)
    (z_isinstance : PySem.W.nsIn K mainGlobals "isinstance" = some none)
    (z_len : PySem.W.nsIn K mainGlobals "len" = some none)
    (z_list : PySem.W.nsIn K mainGlobals "list" = some none)
    (z_max : PySem.W.nsIn K mainGlobals "max" = some none)
    (z_min : PySem.W.nsIn K mainGlobals "min" = some none)
    (z_range : PySem.W.nsIn K mainGlobals "range" = some none)
    (z_repr : PySem.W.nsIn K mainGlobals "repr" = some none)
    (z_tuple : PySem.W.nsIn K mainGlobals "tuple" = some none)
    (z_zip : PySem.W.nsIn K mainGlobals "zip" = some none)
    (tI_parting_from : PySem.W.tabIn K "parting_from" = some (cA_parting_from, P_parting_from))
    (tC_parting_from : PySem.W.codeHdIn K cA_parting_from P_parting_from = true)
    (tN_parting_from : K.lookup P_parting_from = none)
    (tM_parting_from : h.get? P_parting_from = some (PySem.W.tabObj #[]))
    (tD : [P_parting_from].Nodup) :
    LawT l w K 10 63 "script" mg fa h := by
  have e := hfa.symm.trans (PySem.W.mg_of X G d_law.a)
  cases e
  letI : Cd := { c_parting_from := cA_parting_from, P_parting_from := P_parting_from, nd := tD }
  let T : ∀ base : Heap, (∀ p ∈ codes, LamX.TabB base mg p.1 p.2) → Txt K mg base := fun base tb => {
    a_law_well := _, fd_law_well := _, F_law_well := d_law_well.F, m_law_well := PySem.W.mg_of X G d_law_well.a, b_law_well := d_law_well.F.binds (ps := ["script", "at"]) fun _ _ _ _ _ _ us hl => match us, hl with | [_, _], _ => rfl,
    a_law_led := _, fd_law_led := _, F_law_led := d_law_led.F, m_law_led := PySem.W.mg_of X G d_law_led.a, b_law_led := d_law_led.F.binds (ps := ["summary", "state", "log"]) fun _ _ _ _ _ _ us hl => match us, hl with | [_, _, _], _ => rfl,
    a_law_answer := _, fd_law_answer := _, F_law_answer := d_law_answer.F, m_law_answer := PySem.W.mg_of X G d_law_answer.a, b_law_answer := d_law_answer.F.binds (ps := ["summary", "log"]) fun _ _ _ _ _ _ us hl => match us, hl with | [_, _], _ => rfl,
    a_law_take := _, fd_law_take := _, F_law_take := d_law_take.F, m_law_take := PySem.W.mg_of X G d_law_take.a, b_law_take := d_law_take.F.binds (ps := ["well", "many"]) fun _ _ _ _ _ _ us hl => match us, hl with | [_, _], _ => rfl,
    a_law_bent := _, fd_law_bent := _, F_law_bent := d_law_bent.F, m_law_bent := PySem.W.mg_of X G d_law_bent.a, b_law_bent := d_law_bent.F.binds (ps := ["well", "summary"]) fun _ _ _ _ _ _ us hl => match us, hl with | [_, _], _ => rfl,
    a_law_equal := _, fd_law_equal := _, F_law_equal := d_law_equal.F, m_law_equal := PySem.W.mg_of X G d_law_equal.a, b_law_equal := d_law_equal.F.binds (ps := ["told", "due"]) fun _ _ _ _ _ _ us hl => match us, hl with | [_, _], _ => rfl,
    a_law_apart := _, fd_law_apart := _, F_law_apart := d_law_apart.F, m_law_apart := PySem.W.mg_of X G d_law_apart.a, b_law_apart := d_law_apart.F.binds (ps := ["summary"]) fun _ _ _ _ _ _ us hl => match us, hl with | [_], _ => rfl,
    a_law_reached := _, fd_law_reached := _, F_law_reached := d_law_reached.F, m_law_reached := PySem.W.mg_of X G d_law_reached.a, b_law_reached := d_law_reached.F.binds (ps := ["summary"]) fun _ _ _ _ _ _ us hl => match us, hl with | [_], _ => rfl,
    a_law_least := _, fd_law_least := _, F_law_least := d_law_least.F, m_law_least := PySem.W.mg_of X G d_law_least.a, b_law_least := d_law_least.F.binds (ps := ["summary"]) fun _ _ _ _ _ _ us hl => match us, hl with | [_], _ => rfl,
    a_law_logs := _, fd_law_logs := _, F_law_logs := d_law_logs.F, m_law_logs := PySem.W.mg_of X G d_law_logs.a, b_law_logs := d_law_logs.F.binds (ps := ["events", "length"]) fun _ _ _ _ _ _ us hl => match us, hl with | [_, _], _ => rfl,
    a_law_summary := _, fd_law_summary := _, F_law_summary := d_law_summary.F, m_law_summary := PySem.W.mg_of X G d_law_summary.a, b_law_summary := d_law_summary.F.binds (ps := ["well", "events", "states", "answers"]) fun _ _ _ _ _ _ us hl => match us, hl with | [_, _, _, _], _ => rfl,
    a_law_twofold := _, fd_law_twofold := _, F_law_twofold := d_law_twofold.F, m_law_twofold := PySem.W.mg_of X G d_law_twofold.a, b_law_twofold := d_law_twofold.F.binds (ps := ["well", "summary"]) fun _ _ _ _ _ _ us hl => match us, hl with | [_, _], _ => rfl,
    a_is_integer := _, fd_is_integer := _, F_is_integer := d_is_integer.F, m_is_integer := PySem.W.mg_of X G d_is_integer.a, b_is_integer := d_is_integer.F.binds (ps := ["thing"]) fun _ _ _ _ _ _ us hl => match us, hl with | [_], _ => rfl,
    a_is_from := _, fd_is_from := _, F_is_from := d_is_from.F, m_is_from := PySem.W.mg_of X G d_is_from.a, b_is_from := d_is_from.F.binds (ps := ["low", "thing"]) fun _ _ _ _ _ _ us hl => match us, hl with | [_, _], _ => rfl,
    a_is_below := _, fd_is_below := _, F_is_below := d_is_below.F, m_is_below := PySem.W.mg_of X G d_is_below.a, b_is_below := d_is_below.F.binds (ps := ["many", "thing"]) fun _ _ _ _ _ _ us hl => match us, hl with | [_, _], _ => rfl,
    a_is_row := _, fd_is_row := _, F_is_row := d_is_row.F, m_is_row := PySem.W.mg_of X G d_is_row.a, b_is_row := d_is_row.F.binds (ps := ["many", "thing"]) fun _ _ _ _ _ _ us hl => match us, hl with | [_, _], _ => rfl,
    a_is_tuple := _, fd_is_tuple := _, F_is_tuple := d_is_tuple.F, m_is_tuple := PySem.W.mg_of X G d_is_tuple.a, b_is_tuple := d_is_tuple.F.binds (ps := ["many", "thing"]) fun _ _ _ _ _ _ us hl => match us, hl with | [_, _], _ => rfl,
    a_summary_fault := _, fd_summary_fault := _, F_summary_fault := d_summary_fault.F, m_summary_fault := PySem.W.mg_of X G d_summary_fault.a, b_summary_fault := d_summary_fault.F.binds (ps := ["value"]) fun _ _ _ _ _ _ us hl => match us, hl with | [_], _ => rfl,
    a_check_summary := _, fd_check_summary := _, F_check_summary := d_check_summary.F, m_check_summary := PySem.W.mg_of X G d_check_summary.a, b_check_summary := d_check_summary.F.binds (ps := ["thing"]) fun _ _ _ _ _ _ us hl => match us, hl with | [_], _ => rfl,
    a_check_other := _, fd_check_other := _, F_check_other := d_check_other.F, m_check_other := PySem.W.mg_of X G d_check_other.a, b_check_other := d_check_other.F.binds (ps := ["summary", "thing"]) fun _ _ _ _ _ _ us hl => match us, hl with | [_, _], _ => rfl,
    a_first_way := _, fd_first_way := _, F_first_way := d_first_way.F, m_first_way := PySem.W.mg_of X G d_first_way.a, b_first_way := d_first_way.F.binds (ps := ["events", "start", "step", "is_goal"]) fun _ _ _ _ _ _ us hl => match us, hl with | [_, _, _, _], _ => rfl,
    a_parting_from := _, fd_parting_from := _, F_parting_from := d_parting_from.F, m_parting_from := PySem.W.mg_of X G d_parting_from.a, b_parting_from := d_parting_from.F.binds (ps := ["summary", "state", "other", "other_state"]) fun _ _ _ _ _ _ us hl => match us, hl with | [_, _, _, _], _ => rfl,
    cc_parting_from := rfl,
    a_are_alike := _, fd_are_alike := _, F_are_alike := d_are_alike.F, m_are_alike := PySem.W.mg_of X G d_are_alike.a, b_are_alike := d_are_alike.F.binds (ps := ["summary", "other"]) fun _ _ _ _ _ _ us hl => match us, hl with | [_, _], _ => rfl,
    a_kinds_of := _, fd_kinds_of := _, F_kinds_of := d_kinds_of.F, m_kinds_of := PySem.W.mg_of X G d_kinds_of.a, b_kinds_of := d_kinds_of.F.binds (ps := ["moves", "marks"]) fun _ _ _ _ _ _ us hl => match us, hl with | [_, _], _ => rfl,
    a_spread := _, fd_spread := _, F_spread := d_spread.F, m_spread := PySem.W.mg_of X G d_spread.a, b_spread := d_spread.F.binds (ps := ["kinds", "moves"]) fun _ _ _ _ _ _ us hl => match us, hl with | [_, _], _ => rfl,
    a_merged := _, fd_merged := _, F_merged := d_merged.F, m_merged := PySem.W.mg_of X G d_merged.a, b_merged := d_merged.F.binds (ps := ["events", "moves", "answers"]) fun _ _ _ _ _ _ us hl => match us, hl with | [_, _, _], _ => rfl,
    a_least_in := _, fd_least_in := _, F_least_in := d_least_in.F, m_least_in := PySem.W.mg_of X G d_least_in.a, b_least_in := d_least_in.F.binds (ps := ["summary"]) fun _ _ _ _ _ _ us hl => match us, hl with | [_], _ => rfl,
    a_is_least := _, fd_is_least := _, F_is_least := d_is_least.F, m_is_least := PySem.W.mg_of X G d_is_least.a, b_is_least := d_is_least.F.binds (ps := ["summary"]) fun _ _ _ _ _ _ us hl => match us, hl with | [_], _ => rfl,
    a_least := _, fd_least := _, F_least := d_least.F, m_least := PySem.W.mg_of X G d_least.a, b_least := d_least.F.binds (ps := ["summary"]) fun _ _ _ _ _ _ us hl => match us, hl with | [_], _ => rfl,
    a_law_right := _, fd_law_right := _, F_law_right := d_law_right.F, m_law_right := PySem.W.mg_of X G d_law_right.a, b_law_right := d_law_right.F.binds (ps := ["well"]) fun _ _ _ _ _ _ us hl => match us, hl with | [_], _ => rfl,
    a_law := _, fd_law := _, F_law := d_law.F, m_law := PySem.W.mg_of X G d_law.a, b_law := d_law.F.binds (ps := ["script"]) fun _ _ _ _ _ _ us hl => match us, hl with | [_], _ => rfl,
    z_abs := PySem.W.mg_none_of X G z_abs,
    z_all := PySem.W.mg_none_of X G z_all,
    z_bool := PySem.W.mg_none_of X G z_bool,
    z_enumerate := PySem.W.mg_none_of X G z_enumerate,
    z_int := PySem.W.mg_none_of X G z_int,
    z_isinstance := PySem.W.mg_none_of X G z_isinstance,
    z_len := PySem.W.mg_none_of X G z_len,
    z_list := PySem.W.mg_none_of X G z_list,
    z_max := PySem.W.mg_none_of X G z_max,
    z_min := PySem.W.mg_none_of X G z_min,
    z_range := PySem.W.mg_none_of X G z_range,
    z_repr := PySem.W.mg_none_of X G z_repr,
    z_tuple := PySem.W.mg_none_of X G z_tuple,
    z_zip := PySem.W.mg_none_of X G z_zip,
    tb := tb }
  refine ⟨fdOf d_law.F, codes, spLaw K, (List.forall_mem_cons.mpr ⟨tM_parting_from, (fun _ h => nomatch h)⟩), (List.forall_mem_cons.mpr ⟨tN_parting_from, (fun _ h => nomatch h)⟩), (List.forall_mem_cons.mpr ⟨tC_parting_from, (fun _ h => nomatch h)⟩), fun s v => .of_eq rfl, fun H a ns hl hb ht hS => ⟨a, ns, rfl, fun p hp => ?_, hS, hl, hb, fun _ => rfl⟩, fun base _ _ tb => ok_law (T base tb) hin⟩
  have hp : p ∈ [(Cd.P_parting_from, nm_parting_from)] := hp
  simp only [List.mem_cons, List.not_mem_nil, or_false] at hp
  rcases hp with rfl
  · exact NdefX.TabN.nil (ht (Cd.c_parting_from, Cd.P_parting_from) List.mem_cons_self)
end
end G04
open PySem PySem.W PyProof.Rows
theorem PySem.Challenge.cw_arrivesalike_k04_whole_least_summaries_holds : PySem.Challenge.rw_arrivesalike_k04_whole_least_summaries.Holds := by
  w_on; o_law; k_head; (case hw => w_witness2)
  k_fill
  refine AL.walkGT (l := PySem.Challenge.rw_arrivesalike_k04_whole_least_summaries) (n := 63) (k := 10) (x := "script") rfl (by decide) rfl ⟨rfl, by decide, by decide⟩ (fun w h Y => ⟨PySem.W.km_in_of Y, PySem.W.km_tabs_of Y⟩) ?F
  case F =>
    intro w mg fa h hts KX G hmg
    refine' G04.all_mk KX G hmg ⟨?a_law_well, ?l_law_well, ?c_law_well, ?k_law_well⟩ ⟨?a_law_led, ?l_law_led, ?c_law_led, ?k_law_led⟩ ⟨?a_law_answer, ?l_law_answer, ?c_law_answer, ?k_law_answer⟩ ⟨?a_law_take, ?l_law_take, ?c_law_take, ?k_law_take⟩ ⟨?a_law_bent, ?l_law_bent, ?c_law_bent, ?k_law_bent⟩ ⟨?a_law_equal, ?l_law_equal, ?c_law_equal, ?k_law_equal⟩ ⟨?a_law_apart, ?l_law_apart, ?c_law_apart, ?k_law_apart⟩ ⟨?a_law_reached, ?l_law_reached, ?c_law_reached, ?k_law_reached⟩ ⟨?a_law_least, ?l_law_least, ?c_law_least, ?k_law_least⟩ ⟨?a_law_logs, ?l_law_logs, ?c_law_logs, ?k_law_logs⟩ ⟨?a_law_summary, ?l_law_summary, ?c_law_summary, ?k_law_summary⟩ ⟨?a_law_twofold, ?l_law_twofold, ?c_law_twofold, ?k_law_twofold⟩ ⟨?a_is_integer, ?l_is_integer, ?c_is_integer, ?k_is_integer⟩ ⟨?a_is_from, ?l_is_from, ?c_is_from, ?k_is_from⟩ ⟨?a_is_below, ?l_is_below, ?c_is_below, ?k_is_below⟩ ⟨?a_is_row, ?l_is_row, ?c_is_row, ?k_is_row⟩ ⟨?a_is_tuple, ?l_is_tuple, ?c_is_tuple, ?k_is_tuple⟩ ⟨?a_summary_fault, ?l_summary_fault, ?c_summary_fault, ?k_summary_fault⟩ ⟨?a_check_summary, ?l_check_summary, ?c_check_summary, ?k_check_summary⟩ ⟨?a_check_other, ?l_check_other, ?c_check_other, ?k_check_other⟩ ⟨?a_first_way, ?l_first_way, ?c_first_way, ?k_first_way⟩ ⟨?a_parting_from, ?l_parting_from, ?c_parting_from, ?k_parting_from⟩ ⟨?a_are_alike, ?l_are_alike, ?c_are_alike, ?k_are_alike⟩ ⟨?a_kinds_of, ?l_kinds_of, ?c_kinds_of, ?k_kinds_of⟩ ⟨?a_spread, ?l_spread, ?c_spread, ?k_spread⟩ ⟨?a_merged, ?l_merged, ?c_merged, ?k_merged⟩ ⟨?a_least_in, ?l_least_in, ?c_least_in, ?k_least_in⟩ ⟨?a_is_least, ?l_is_least, ?c_is_least, ?k_is_least⟩ ⟨?a_least, ?l_least, ?c_least, ?k_least⟩ ⟨?a_law_right, ?l_law_right, ?c_law_right, ?k_law_right⟩ ⟨?a_law, ?l_law, ?c_law, ?k_law⟩ ?z_abs ?z_all ?z_bool ?z_enumerate ?z_int ?z_isinstance ?z_len ?z_list ?z_max ?z_min ?z_range ?z_repr ?z_tuple ?z_zip ?tI_parting_from ?tC_parting_from ?tN_parting_from ?tM_parting_from ?tD
    (case a_law_well => k_is); (case l_law_well => k_is); (case c_law_well => k_is); (case k_law_well => k_is)
    (case a_law_led => k_is); (case l_law_led => k_is); (case c_law_led => k_is); (case k_law_led => k_is)
    (case a_law_answer => k_is); (case l_law_answer => k_is); (case c_law_answer => k_is); (case k_law_answer => k_is)
    (case a_law_take => k_is); (case l_law_take => k_is); (case c_law_take => k_is); (case k_law_take => k_is)
    (case a_law_bent => k_is); (case l_law_bent => k_is); (case c_law_bent => k_is); (case k_law_bent => k_is)
    (case a_law_equal => k_is); (case l_law_equal => k_is); (case c_law_equal => k_is); (case k_law_equal => k_is)
    (case a_law_apart => k_is); (case l_law_apart => k_is); (case c_law_apart => k_is); (case k_law_apart => k_is)
    (case a_law_reached => k_is); (case l_law_reached => k_is); (case c_law_reached => k_is); (case k_law_reached => k_is)
    (case a_law_least => k_is); (case l_law_least => k_is); (case c_law_least => k_is); (case k_law_least => k_is)
    (case a_law_logs => k_is); (case l_law_logs => k_is); (case c_law_logs => k_is); (case k_law_logs => k_is)
    (case a_law_summary => k_is); (case l_law_summary => k_is); (case c_law_summary => k_is); (case k_law_summary => k_is)
    (case a_law_twofold => k_is); (case l_law_twofold => k_is); (case c_law_twofold => k_is); (case k_law_twofold => k_is)
    (case a_is_integer => k_is); (case l_is_integer => k_is); (case c_is_integer => k_is); (case k_is_integer => k_is)
    (case a_is_from => k_is); (case l_is_from => k_is); (case c_is_from => k_is); (case k_is_from => k_is)
    (case a_is_below => k_is); (case l_is_below => k_is); (case c_is_below => k_is); (case k_is_below => k_is)
    (case a_is_row => k_is); (case l_is_row => k_is); (case c_is_row => k_is); (case k_is_row => k_is)
    (case a_is_tuple => k_is); (case l_is_tuple => k_is); (case c_is_tuple => k_is); (case k_is_tuple => k_is)
    (case a_summary_fault => k_is); (case l_summary_fault => k_is); (case c_summary_fault => k_is); (case k_summary_fault => k_is)
    (case a_check_summary => k_is); (case l_check_summary => k_is); (case c_check_summary => k_is); (case k_check_summary => k_is)
    (case a_check_other => k_is); (case l_check_other => k_is); (case c_check_other => k_is); (case k_check_other => k_is)
    (case a_first_way => k_is); (case l_first_way => k_is); (case c_first_way => k_is); (case k_first_way => k_is)
    (case a_parting_from => k_is); (case l_parting_from => k_is); (case c_parting_from => k_is); (case k_parting_from => k_is)
    (case a_are_alike => k_is); (case l_are_alike => k_is); (case c_are_alike => k_is); (case k_are_alike => k_is)
    (case a_kinds_of => k_is); (case l_kinds_of => k_is); (case c_kinds_of => k_is); (case k_kinds_of => k_is)
    (case a_spread => k_is); (case l_spread => k_is); (case c_spread => k_is); (case k_spread => k_is)
    (case a_merged => k_is); (case l_merged => k_is); (case c_merged => k_is); (case k_merged => k_is)
    (case a_least_in => k_is); (case l_least_in => k_is); (case c_least_in => k_is); (case k_least_in => k_is)
    (case a_is_least => k_is); (case l_is_least => k_is); (case c_is_least => k_is); (case k_is_least => k_is)
    (case a_least => k_is); (case l_least => k_is); (case c_least => k_is); (case k_least => k_is)
    (case a_law_right => k_is); (case l_law_right => k_is); (case c_law_right => k_is); (case k_law_right => k_is)
    (case a_law => k_is); (case l_law => k_is); (case c_law => k_is); (case k_law => k_is)
    (case tI_parting_from => first | k_is | rfl | decide +kernel); (case tC_parting_from => first | k_is | rfl | decide +kernel); (case tN_parting_from => first | k_is | rfl | decide +kernel); (case tM_parting_from => exact hts _ (by first | decide | simp))
    (case tD => first | decide | simp)
    (case z_abs => k_is)
    (case z_all => k_is)
    (case z_bool => k_is)
    (case z_enumerate => k_is)
    (case z_int => k_is)
    (case z_isinstance => k_is)
    (case z_len => k_is)
    (case z_list => k_is)
    (case z_max => k_is)
    (case z_min => k_is)
    (case z_range => k_is)
    (case z_repr => k_is)
    (case z_tuple => k_is)
    (case z_zip => k_is)
