import PyProof.Rows.All
import Wide.All
import OpenK.AllK
import Wide.FinOn
import HandS.ForMost
import HandS.Evl
import HandS.IsInst
import HandS.Wide
import HandS.SortRule
import HandS.Style
import HandS.More
import HandS.Conv
import PySem.Challenge.RW_everyfuture_k18_merges
set_option Elab.async false
set_option linter.all false
set_option maxRecDepth 100000
set_option maxHeartbeats 4000000
namespace EF
open PySem PySem.Spec PyProof.Rows L2
abbrev Ex := Evl.Ex

/-! ### data, and how the heap bears it -/
inductive D where
  | non | bl (b : Bool) | int (i : Int) | str (x : Str)
  | lst (xs : List D) | tup (xs : List D) | scr (ns : List Int)

mutual
def Rep (K : PySem.W.Frag) (H : Hp) : D → V → Prop
  | .non, v => v = .non
  | .bl b, v => v = .bl b
  | .int i, v => v = .int i
  | .str x, v => v = .str x
  | .lst xs, v => ∃ a vs, v = .ref a ∧ H a = some (.lst vs) ∧ RepL K H xs vs
  | .tup xs, v => ∃ a vs, v = .ref a ∧ H a = some (.tup vs) ∧ RepL K H xs vs
  | .scr ns, v => ∃ a, v = .ref a ∧ SqL K H a (ns.map V.int)
def RepL (K : PySem.W.Frag) (H : Hp) : List D → List V → Prop
  | [], vs => vs = []
  | d :: ds, vs => ∃ v vs', vs = v :: vs' ∧ Rep K H d v ∧ RepL K H ds vs'
end

mutual
theorem Rep.mono {K : PySem.W.Frag} {H H' : Hp} (e : Ex H H') : ∀ (d : D) (v : V), Rep K H d v → Rep K H' d v
  | .non, v, h => h
  | .bl b, v, h => h
  | .int i, v, h => h
  | .str x, v, h => h
  | .lst xs, v, h => by
    obtain ⟨a, vs, h1, h2, h3⟩ := h
    exact ⟨a, vs, h1, e _ _ h2, RepL.mono e xs vs h3⟩
  | .tup xs, v, h => by
    obtain ⟨a, vs, h1, h2, h3⟩ := h
    exact ⟨a, vs, h1, e _ _ h2, RepL.mono e xs vs h3⟩
  | .scr ns, v, h => by
    obtain ⟨a, h1, h2⟩ := h
    exact ⟨a, h1, Evl.ex_l e h2⟩
theorem RepL.mono {K : PySem.W.Frag} {H H' : Hp} (e : Ex H H') : ∀ (ds : List D) (vs : List V), RepL K H ds vs → RepL K H' ds vs
  | [], vs, h => h
  | d :: ds, vs, h => by
    obtain ⟨v, vs', h1, h2, h3⟩ := h
    exact ⟨v, vs', h1, Rep.mono e d v h2, RepL.mono e ds vs' h3⟩
end
section
variable {K : PySem.W.Frag} {H H' : Hp}
theorem RepL.nil : RepL K H [] [] := rfl
theorem RepL.cons {d : D} {ds : List D} {v : V} {vs : List V} (h : Rep K H d v) (hs : RepL K H ds vs) : RepL K H (d :: ds) (v :: vs) := ⟨v, vs, rfl, h, hs⟩
theorem RepL.length : ∀ {ds : List D} {vs : List V}, RepL K H ds vs → ds.length = vs.length
  | [], _, h => by cases h; rfl
  | d :: ds, _, h => by
    obtain ⟨v, vs', rfl, _, h3⟩ := h
    simp [RepL.length h3]
theorem RepL.append : ∀ {ds es : List D} {vs ws : List V}, RepL K H ds vs → RepL K H es ws → RepL K H (ds ++ es) (vs ++ ws)
  | [], _, _, _, h, h' => by cases h; exact h'
  | d :: ds, _, _, _, h, h' => by
    obtain ⟨v, vs', rfl, h2, h3⟩ := h
    exact ⟨v, vs' ++ _, rfl, h2, RepL.append h3 h'⟩
theorem RepL.get : ∀ {ds : List D} {vs : List V} {i : Nat} {d : D}, RepL K H ds vs → ds[i]? = some d → ∃ v, vs[i]? = some v ∧ Rep K H d v
  | [], _, _, _, _, e => by simp at e
  | d :: ds, _, 0, _, h, e => by
    obtain ⟨v, vs', rfl, h2, h3⟩ := h
    simp at e; subst e
    exact ⟨v, rfl, h2⟩
  | d :: ds, _, i + 1, _, h, e => by
    obtain ⟨v, vs', rfl, h2, h3⟩ := h
    obtain ⟨w, h4, h5⟩ := RepL.get (i := i) h3 (by simpa using e)
    exact ⟨w, by simpa using h4, h5⟩
theorem RepL.get' : ∀ {ds : List D} {vs : List V} {i : Nat} {v : V}, RepL K H ds vs → vs[i]? = some v → ∃ d, ds[i]? = some d ∧ Rep K H d v
  | [], _, _, _, h, e => by cases h; simp at e
  | d :: ds, _, 0, _, h, e => by
    obtain ⟨v, vs', rfl, h2, h3⟩ := h
    simp at e; subst e
    exact ⟨d, rfl, h2⟩
  | d :: ds, _, i + 1, _, h, e => by
    obtain ⟨v, vs', rfl, h2, h3⟩ := h
    obtain ⟨w, h4, h5⟩ := RepL.get' (i := i) h3 (by simpa using e)
    exact ⟨w, by simpa using h4, h5⟩
theorem RepL.take : ∀ {ds : List D} {vs : List V} (n : Nat), RepL K H ds vs → RepL K H (ds.take n) (vs.take n)
  | [], _, _, h => by cases h; simp [RepL]
  | d :: ds, _, 0, h => by simp [RepL]
  | d :: ds, _, n + 1, h => by
    obtain ⟨v, vs', rfl, h2, h3⟩ := h
    exact ⟨v, vs'.take n, rfl, h2, RepL.take n h3⟩
theorem RepL.drop : ∀ {ds : List D} {vs : List V} (n : Nat), RepL K H ds vs → RepL K H (ds.drop n) (vs.drop n)
  | [], _, _, h => by cases h; simp [RepL]
  | d :: ds, _, 0, h => h
  | d :: ds, _, n + 1, h => by
    obtain ⟨v, vs', rfl, h2, h3⟩ := h
    exact RepL.drop n h3
theorem RepL.set {e : D} {w : V} (hw : Rep K H e w) : ∀ {ds : List D} {vs : List V} (i : Nat), RepL K H ds vs → RepL K H (ds.set i e) (vs.set i w)
  | [], _, _, h => by cases h; simp [RepL]
  | d :: ds, _, 0, h => by
    obtain ⟨v, vs', rfl, h2, h3⟩ := h
    exact ⟨w, vs', rfl, hw, h3⟩
  | d :: ds, _, i + 1, h => by
    obtain ⟨v, vs', rfl, h2, h3⟩ := h
    exact ⟨v, vs'.set i w, rfl, h2, RepL.set hw i h3⟩
theorem RepL.ints : ∀ {ns : List Int} {vs : List V}, RepL K H (ns.map D.int) vs → vs = ns.map V.int
  | [], _, h => by cases h; rfl
  | n :: ns, _, h => by
    obtain ⟨v, vs', rfl, h2, h3⟩ := h
    have h2 : v = .int n := h2
    rw [h2, RepL.ints h3]; rfl
theorem RepL.of_ints : ∀ (ns : List Int), RepL K H (ns.map D.int) (ns.map V.int)
  | [] => rfl
  | n :: ns => ⟨_, _, rfl, rfl, RepL.of_ints ns⟩
end
end EF
namespace EF
open PySem PySem.Spec PyProof.Rows L2

/-- a cell's content -/
def RepT (K : PySem.W.Frag) (H : Hp) : D → HO → Prop
  | .lst xs, o => ∃ vs, o = .lst vs ∧ RepL K H xs vs
  | _, _ => False
theorem RepT.mono {K : PySem.W.Frag} {H H' : Hp} (e : Ex H H') {d : D} {o : HO} (h : RepT K H d o) : RepT K H' d o := by
  cases d with
  | lst xs => obtain ⟨vs, h1, h2⟩ := h; exact ⟨vs, h1, RepL.mono e xs vs h2⟩
  | _ => exact h.elim
theorem RepT.rep {K : PySem.W.Frag} {H : Hp} {d : D} {o : HO} {p : Addr} (h : RepT K H d o) (hp : H p = some o) : Rep K H d (.ref p) := by
  cases d with
  | lst xs => obtain ⟨vs, h1, h2⟩ := h; subst h1; exact ⟨p, vs, rfl, hp, h2⟩
  | _ => exact h.elim

/-- what an expression gives: shared data; a cell of its own, new; a cell that may not be kept -/
inductive Vl where
  | sh (d : D) | fr (d : D) | bo (d : D)
def Vl.d : Vl → D
  | .sh d => d
  | .fr d => d
  | .bo d => d
/-- reading a name -/
def Vl.use : Vl → Vl
  | .sh d => .sh d
  | .fr d => .bo d
  | .bo d => .bo d
/-- keeping the value within other data -/
def Vl.keep : Vl → Option D
  | .sh d => some d
  | .fr d => some d
  | .bo _ => none
/-- as an argument of a def -/
def Vl.arg : Vl → Vl
  | .sh d => .sh d
  | .fr d => .bo d
  | .bo d => .bo d
abbrev Env := List (Option Vl)

structure Step (Hi H Hi' H' : Hp) : Prop where
  i : Ex Hi Hi'
  h : Ex H H'
  s : Ex Hi' H'
  n : ∀ p, H p ≠ none → Hi p = none → Hi' p = none
section
variable {Hi H Hi1 H1 Hi2 H2 : Hp}
theorem Step.refl (h : Ex Hi H) : Step Hi H Hi H := ⟨Evl.Ex.refl _, Evl.Ex.refl _, h, fun _ _ z => z⟩
theorem ne_some {H H' : Hp} (e : Ex H H') {p : Addr} (h : H p ≠ none) : H' p ≠ none := by
  intro z
  cases q : H p with
  | none => exact h q
  | some o => rw [e p o q] at z; cases z
theorem Step.trans (a : Step Hi H Hi1 H1) (b : Step Hi1 H1 Hi2 H2) : Step Hi H Hi2 H2 :=
  ⟨a.i.trans b.i, a.h.trans b.h, b.s, fun p h1 h2 => b.n p (ne_some a.h h1) (a.n p h1 h2)⟩
theorem Step.fresh (a : Step Hi H Hi1 H1) {p : Addr} (h : H1 p = none) : H p = none := Evl.fresh_back a.h h
/-- a new shared object -/
theorem Step.new {p : Addr} {o : HO} (h : Ex Hi H) (hp : H p = none) : Step Hi H (upd Hi p o) (upd H p o) := by
  have hip : Hi p = none := Evl.fresh_back h hp
  refine ⟨Evl.Ex.new hip, Evl.Ex.new hp, fun a u e => ?_, fun q h1 h2 => ?_⟩
  · by_cases z : a = p
    · subst z; rw [upd_same] at e ⊢; exact e
    · rw [upd_ne z] at e ⊢; exact h a u e
  · rw [upd_ne (fun (z : q = p) => h1 (by rw [z]; exact hp))]; exact h2
/-- a new cell of one's own -/
theorem Step.own {p : Addr} {o : HO} (h : Ex Hi H) (hp : H p = none) : Step Hi H Hi (upd H p o) := by
  exact ⟨Evl.Ex.refl _, Evl.Ex.new hp, h.trans (Evl.Ex.new hp), fun _ _ z => z⟩
/-- a cell that was new is shared from here on -/
theorem Step.freeze {p : Addr} {o : HO} (a : Step Hi H Hi1 H1) (h0 : H p = none) (h1 : H1 p = some o) (h2 : Hi1 p = none) : Step Hi H (upd Hi1 p o) H1 := by
  refine ⟨a.i.trans (Evl.Ex.new h2), a.h, fun b u e => ?_, fun q q1 q2 => ?_⟩
  · by_cases z : b = p
    · subst z; rw [upd_same] at e; rw [h1]; exact e
    · rw [upd_ne z] at e; exact a.s b u e
  · rw [upd_ne (fun (z : q = p) => q1 (by rw [z]; exact h0))]; exact a.n q q1 q2
end

section
variable (K : PySem.W.Frag)
/-- a value; H: the heap ahead of its evaluation -/
def VlOk (H Hi' H' : Hp) : Vl → V → Prop
  | .sh d, x => Rep K Hi' d x
  | .fr d, x => ∃ p o, x = .ref p ∧ H' p = some o ∧ Hi' p = none ∧ H p = none ∧ RepT K Hi' d o
  | .bo d, x => ∃ p o, x = .ref p ∧ H' p = some o ∧ RepT K Hi' d o
def SlOk (H0 Hi H : Hp) : Option Vl → Option V → Prop
  | none, _ => True
  | some (.sh d), v => ∃ x, v = some x ∧ Rep K Hi d x
  | some (.fr d), v => ∃ p o, v = some (.ref p) ∧ H p = some o ∧ Hi p = none ∧ H0 p = none ∧ RepT K Hi d o
  | some (.bo d), v => ∃ p o, v = some (.ref p) ∧ H0 p = some o ∧ RepT K Hi d o
structure EnvOk (Hi0 H0 Hi H : Hp) (σ : L2.St) (ε : Env) : Prop where
  st : Step Hi0 H0 Hi H
  len : σ.length = ε.length
  sl : ∀ (i : Nat) (r : Option Vl) (v : Option V), ε[i]? = some r → σ[i]? = some v → SlOk K H0 Hi H r v
  ap : ∀ (i j : Nat) (d e : D), i ≠ j → ε[i]? = some (some (.fr d)) → ε[j]? = some (some (.fr e)) → σ[i]? ≠ σ[j]?
end
section
variable {K : PySem.W.Frag} {Hi0 H0 Hi H Hi' H' : Hp} {σ : L2.St} {ε : Env}
theorem SlOk.step (a : Step Hi H Hi' H') {r : Option Vl} {v : Option V} (h : SlOk K H0 Hi H r v) : SlOk K H0 Hi' H' r v := by
  match r, h with
  | none, _ => trivial
  | some (.sh d), h => obtain ⟨x, h1, h2⟩ := h; exact ⟨x, h1, Rep.mono a.i d x h2⟩
  | some (.fr d), h =>
    obtain ⟨p, o, h1, h2, h3, h4, h5⟩ := h
    exact ⟨p, o, h1, a.h _ _ h2, a.n p (by rw [h2]; exact fun z => nomatch z) h3, h4, h5.mono a.i⟩
  | some (.bo d), h => obtain ⟨p, o, h1, h2, h3⟩ := h; exact ⟨p, o, h1, h2, h3.mono a.i⟩
theorem EnvOk.step (I : EnvOk K Hi0 H0 Hi H σ ε) (a : Step Hi H Hi' H') : EnvOk K Hi0 H0 Hi' H' σ ε :=
  ⟨I.st.trans a, I.len, fun i r v h1 h2 => (I.sl i r v h1 h2).step a, I.ap⟩
theorem VlOk.step {Hp0 : Hp} (a : Step Hi H Hi' H') {r : Vl} {x : V} (h : VlOk K Hp0 Hi H r x) : VlOk K Hp0 Hi' H' r x := by
  match r, h with
  | .sh d, h => exact Rep.mono a.i d x h
  | .fr d, h =>
    obtain ⟨p, o, h1, h2, h3, h4, h5⟩ := h
    exact ⟨p, o, h1, a.h _ _ h2, a.n p (by rw [h2]; exact fun z => nomatch z) h3, h4, h5.mono a.i⟩
  | .bo d, h => obtain ⟨p, o, h1, h2, h3⟩ := h; exact ⟨p, o, h1, a.h _ _ h2, h3.mono a.i⟩
theorem VlOk.back {Ha Hb : Hp} (e : Ex Ha Hb) {r : Vl} {x : V} (h : VlOk K Hb Hi H r x) : VlOk K Ha Hi H r x := by
  match r, h with
  | .sh d, h => exact h
  | .fr d, h => obtain ⟨p, o, h1, h2, h3, h4, h5⟩ := h; exact ⟨p, o, h1, h2, h3, Evl.fresh_back e h4, h5⟩
  | .bo d, h => exact h
/-- the value's data, read in the whole heap -/
theorem VlOk.rep {Hp0 : Hp} (s : Ex Hi H) {r : Vl} {x : V} (h : VlOk K Hp0 Hi H r x) : Rep K H r.d x := by
  match r, h with
  | .sh d, h => exact Rep.mono s d x h
  | .fr d, h => obtain ⟨p, o, rfl, h2, h3, h4, h5⟩ := h; exact (h5.mono s).rep h2
  | .bo d, h => obtain ⟨p, o, rfl, h2, h3⟩ := h; exact (h3.mono s).rep h2
/-- the items of a list, however it is held, are shared -/
theorem VlOk.lst {Hp0 : Hp} (s : Ex Hi H) {r : Vl} {x : V} {xs : List D} (h : VlOk K Hp0 Hi H r x) (e : r.d = .lst xs) : ∃ p vs, x = .ref p ∧ H p = some (.lst vs) ∧ RepL K Hi xs vs := by
  match r, h with
  | .sh d, h =>
    have e : d = .lst xs := e
    subst e
    obtain ⟨p, vs, h1, h2, h3⟩ := h
    exact ⟨p, vs, h1, s _ _ h2, h3⟩
  | .fr d, h =>
    have e : d = .lst xs := e
    subst e
    obtain ⟨p, o, h1, h2, _, _, vs, rfl, h5⟩ := h
    exact ⟨p, vs, h1, h2, h5⟩
  | .bo d, h =>
    have e : d = .lst xs := e
    subst e
    obtain ⟨p, o, h1, h2, vs, rfl, h5⟩ := h
    exact ⟨p, vs, h1, h2, h5⟩
/-- what is no list is shared -/
theorem VlOk.flat {Hp0 : Hp} {r : Vl} {x : V} (h : VlOk K Hp0 Hi H r x) (e : ∀ xs, r.d ≠ .lst xs) : Rep K Hi r.d x := by
  have no : ∀ {d : D} {o : HO}, (∀ xs, d ≠ .lst xs) → RepT K Hi d o → False := fun {d o} hd hr => by
    cases d with
    | lst xs => exact hd xs rfl
    | _ => exact hr
  match r, h with
  | .sh d, h => exact h
  | .fr d, h => obtain ⟨p, o, h1, h2, _, _, h5⟩ := h; exact (no e h5).elim
  | .bo d, h => obtain ⟨p, o, h1, h2, h5⟩ := h; exact (no e h5).elim
/-- keeping -/
theorem VlOk.keep {Hp0 Hi0 : Hp} {r : Vl} {x : V} {d : D} (a : Step Hi0 Hp0 Hi H) (h : VlOk K Hp0 Hi H r x) (e : r.keep = some d) : ∃ Hi2, Ex Hi Hi2 ∧ Step Hi0 Hp0 Hi2 H ∧ (∀ p, Hi p = none → Hp0 p ≠ none → Hi2 p = none) ∧ Rep K Hi2 d x := by
  match r, h with
  | .sh d', h => cases e; exact ⟨Hi, Evl.Ex.refl _, a, fun _ z _ => z, h⟩
  | .fr d', h =>
    cases e
    obtain ⟨p, o, rfl, h2, h3, h4, h5⟩ := h
    refine ⟨upd Hi p o, Evl.Ex.new h3, a.freeze h4 h2 h3, fun q q1 q2 => ?_, (h5.mono (Evl.Ex.new h3)).rep upd_same⟩
    rw [upd_ne (fun (z : q = p) => q2 (by rw [z]; exact h4))]; exact q1
  | .bo d', h => cases e
end
end EF
namespace EF
open PySem L2

/-! ### the small language -/
inductive BI where
  | len | int | list | tuple | max | min | abs | sum | any | all | sorted
inductive TyN where
  | int | bool | list | tuple | str
inductive Tg where
  | n (i : Nat) | t (is : List Nat)
mutual
inductive Ep where
  | v (i : Nat) | c (d : D)
  | bin (op : Operator) (a b : Ep) | neg (a : Ep)
  | not (a : Ep) | and (a b : Ep) | or (a b : Ep)
  | cmp (op : CmpOp) (a b : Ep) | chn (o1 o2 : CmpOp) (a b c : Ep)
  | ife (c a b : Ep)
  | ix (a i : Ep) | sl (a : Ep) (lo hi : Epo)
  | tup (es : Eps) | lst (es : Eps)
  | call (f : Nat) (es : Eps) | bi (b : BI) (es : Eps) | isi (t : TyN) (a : Ep) | lrg (a : Ep)
  | lc (tg : Tg) (it : Epi) (cs : Eps) (e : Ep) (own : List Nat)
inductive Eps where
  | nil | cons (e : Ep) (es : Eps)
inductive Epo where
  | no | so (e : Ep)
inductive Epi where
  | over (e : Ep) | r1 (a : Ep) | r2 (a b : Ep)
end
mutual
inductive Sm where
  | asg (tg : Tg) (e : Ep) | app (i : Nat) (e : Ep) | setx (i : Nat) (j e : Ep) | ins (i : Nat) (j e : Ep)
  | popT (tg : Tg) (i : Nat) (a : Epo) | appPop (i j : Nat) (a : Epo)
  | ret (e : Ep) | retV (i : Nat)
  | ifs (c : Ep) (a b : Sms) | frs (tg : Tg) (it : Epi) (b : Sms) | whl (c : Ep) (b : Sms)
  | brk | cnt | pas | fz (i : Nat)
inductive Sms where
  | nil | cons (s : Sm) (ss : Sms)
end

/-! ### operations on data -/
mutual
def toPy : D → PyData
  | .non => .none
  | .bl b => .bool b
  | .int i => .int i
  | .str x => .str x
  | .lst xs => .list (toPys xs)
  | .tup xs => .tuple (toPys xs)
  | .scr ns => .list (ns.map PyData.int)
def toPys : List D → List PyData
  | [] => []
  | d :: ds => toPy d :: toPys ds
end
def eqD (a b : D) : Option Bool :=
  match a, b with
  | .int i, .int j => some (decide (i = j))
  | .str x, .str y => some (decide (x = y))
  | .bl x, .bl y => some (decide (x = y))
  | .non, .non => some true
  | a, b => if SeqAt.shaped (toPy a) = true ∧ SeqAt.shaped (toPy b) = true then some (PyData.eqv (toPy a) (toPy b)) else none
def cmpD (op : CmpOp) (a b : D) : Option Bool :=
  match op with
  | .Eq => eqD a b
  | .NotEq => (eqD a b).map (!·)
  | .Lt => (match a, b with | .int i, .int j => some (decide (i < j)) | _, _ => none)
  | .LtE => (match a, b with | .int i, .int j => some (decide (i ≤ j)) | _, _ => none)
  | .Gt => (match a, b with | .int i, .int j => some (decide (j < i)) | _, _ => none)
  | .GtE => (match a, b with | .int i, .int j => some (decide (j ≤ i)) | _, _ => none)
  | .Is => (match a, b with | .bl x, .bl y => some (decide (x = y)) | .non, .non => some true | .bl _, .non => some false | .int _, .non => some false | .str _, .non => some false | .lst _, .non => some false | .tup _, .non => some false | _, _ => none)
  | .IsNot => (match a, b with | .bl x, .bl y => some (!decide (x = y)) | .non, .non => some false | .bl _, .non => some true | .int _, .non => some true | .str _, .non => some true | .lst _, .non => some true | .tup _, .non => some true | _, _ => none)
  | _ => none
def mulOk (i j : Int) : Bool := decide ((-(2 ^ 64) < i ∧ i < 2 ^ 64) ∨ (-(2 ^ 64) < j ∧ j < 2 ^ 64))
def binD (op : Operator) (a b : D) : Option Vl :=
  match op, a, b with
  | .Add, .int i, .int j => some (.sh (.int (i + j)))
  | .Sub, .int i, .int j => some (.sh (.int (i - j)))
  | .Mult, .int i, .int j => if mulOk i j = true then some (.sh (.int (i * j))) else none
  | .FloorDiv, .int i, .int j => if 0 < j ∧ j < 1073741824 then some (.sh (.int (i / j))) else none
  | .Mod, .int i, .int j => if 0 < j then some (.sh (.int (i % j))) else none
  | .Pow, .int i, .int j => if 0 ≤ j ∧ j ≤ 1000000 ∧ i.natAbs < 2 ^ 64 then some (.sh (.int (i ^ j.toNat))) else none
  | .Add, .lst xs, .lst ys => if xs.length + ys.length ≤ 100000 then some (.fr (.lst (xs ++ ys))) else none
  | _, _, _ => none
def ixD (a b : D) : Option Vl :=
  match a, b with
  | .lst xs, .int i => (atI xs i).map .sh
  | .tup xs, .int i => (atI xs i).map .sh
  | .scr ns, .int i => (atI ns i).map fun n => .sh (.int n)
  | _, _ => none
def cutD {α : Type} (xs : List α) (lo hi : Option Int) : List α := (xs.drop (HT.sIx xs.length 0 lo)).take (HT.sIx xs.length xs.length hi - HT.sIx xs.length 0 lo)
def slD (a : D) (lo hi : Option Int) : Option Vl :=
  match a with
  | .lst xs => some (.fr (.lst (cutD xs lo hi)))
  | _ => none
def truD : D → Option Bool
  | .non => some false
  | .bl b => some b
  | .int i => some (i != 0)
  | .lst xs => some (!xs.isEmpty)
  | .tup xs => some (!xs.isEmpty)
  | _ => none
def intsOf : List D → Option (List Int)
  | [] => some []
  | .int i :: r => (intsOf r).map (i :: ·)
  | _ :: _ => none
def blsOf : List D → Option (List Bool)
  | [] => some []
  | .bl i :: r => (blsOf r).map (i :: ·)
  | _ :: _ => none
def pairsOf : List D → Option (List (Int × Int))
  | [] => some []
  | .tup [.int i, .int j] :: r => (pairsOf r).map ((i, j) :: ·)
  | _ :: _ => none
def maxL : List Int → Int
  | [] => 0
  | [x] => x
  | x :: y :: r => max x (maxL (y :: r))
def minL : List Int → Int
  | [] => 0
  | [x] => x
  | x :: y :: r => min x (minL (y :: r))
def pairD (p : Int × Int) : D := .tup [.int p.1, .int p.2]
/-- p not behind q -/
def leP (p q : Int × Int) : Bool := decide (p.1 < q.1 ∨ (p.1 = q.1 ∧ p.2 ≤ q.2))
def insP (p : Int × Int) : List (Int × Int) → List (Int × Int)
  | [] => [p]
  | q :: r => if leP p q = true then p :: q :: r else q :: insP p r
def sortP : List (Int × Int) → List (Int × Int)
  | [] => []
  | p :: r => insP p (sortP r)
def itemsD : D → Option (List D)
  | .lst xs => some xs
  | .tup xs => some xs
  | .scr ns => some (ns.map D.int)
  | _ => none
def biD (b : BI) (as : List Vl) : Option Vl :=
  match b, as with
  | .len, [x] => (match x.d with | .lst ys => some (.sh (.int ys.length)) | .tup ys => some (.sh (.int ys.length)) | .scr ns => some (.sh (.int ns.length)) | _ => none)
  | .int, [x] => (match x.d with | .int i => some (.sh (.int i)) | .bl b => some (.sh (.int (if b then 1 else 0))) | _ => none)
  | .list, [x] => (match x.d with | .lst ys => some (.fr (.lst ys)) | .tup ys => some (.fr (.lst ys)) | _ => none)
  | .tuple, [x] => (match x.d with | .lst ys => some (.sh (.tup ys)) | .tup ys => some (.sh (.tup ys)) | _ => none)
  | .abs, [x] => (match x.d with | .int i => some (.sh (.int (if i < 0 then -i else i))) | _ => none)
  | .max, [x, y] => (match x.d, y.d with | .int i, .int j => some (.sh (.int (max i j))) | _, _ => none)
  | .min, [x, y] => (match x.d, y.d with | .int i, .int j => some (.sh (.int (min i j))) | _, _ => none)
  | .max, [x] => (match x.d with | .lst ys => (intsOf ys).bind fun ns => if 0 < ns.length then some (.sh (.int (maxL ns))) else none | _ => none)
  | .min, [x] => (match x.d with | .lst ys => (intsOf ys).bind fun ns => if 0 < ns.length then some (.sh (.int (minL ns))) else none | _ => none)
  | .sum, [x] => (match x.d with | .lst ys => (intsOf ys).bind fun ns => some (.sh (.int ns.sum)) | _ => none)
  | .any, [x] => (match x.d with | .lst ys => (blsOf ys).bind fun bs => some (.sh (.bl (bs.any id))) | _ => none)
  | .all, [x] => (match x.d with | .lst ys => (blsOf ys).bind fun bs => some (.sh (.bl (bs.all id))) | _ => none)
  | .sorted, [x] => (match x.d with | .lst ys => (pairsOf ys).bind fun ps => some (.fr (.lst ((sortP ps).map pairD))) | _ => none)
  | _, _ => none
def isiD (t : TyN) (d : D) : Option Bool :=
  match d, t with
  | .non, _ => some false
  | .bl _, .int => some true
  | .bl _, .bool => some true
  | .bl _, _ => some false
  | .int _, .int => some true
  | .int _, _ => some false
  | .str _, .str => some true
  | .str _, _ => some false
  | .lst _, .list => some true
  | .lst _, _ => some false
  | .tup _, .tuple => some true
  | .tup _, _ => some false
  | .scr _, _ => none

/-! ### the interpreter -/
def getS (ε : Env) (i : Nat) : Option Vl := (ε[i]?).join
def wipeE (ε : Env) : List Nat → Env
  | [] => ε
  | v :: vs => (wipeE ε vs).set v none
def setAll : List Nat → List D → Env → Option Env
  | [], [], ε => some ε
  | i :: is, d :: ds, ε => setAll is ds (ε.set i (some (.sh d)))
  | _, _, _ => none
def bindT : Tg → Vl → Env → Option Env
  | .n i, r, ε => (match r with | .bo _ => none | r => some (ε.set i (some r)))
  | .t is, r, ε => (match r.d with | .tup ds => setAll is ds ε | _ => none)
def lcGo (f : D → Option (Option D)) : List D → Option (List D)
  | [] => some []
  | x :: xs => (f x).bind fun o => (lcGo f xs).bind fun ys => some (match o with | some y => y :: ys | none => ys)
def Vl.argd : Vl → Vl
  | .fr d => .sh d
  | r => r
def rangeD (lo hi : Int) : List D := (List.range (hi - lo).toNat).map fun (i : Nat) => D.int (lo + (i : Int))
def smallI (i : Int) : Bool := decide (-(2 ^ 62) ≤ i ∧ i < 2 ^ 62)
mutual
def evalD (Φ : Nat → List Vl → Option Vl) : Ep → Env → Option Vl
  | .v i, ε => (getS ε i).map Vl.use
  | .c d, _ => some (.sh d)
  | .bin op a b, ε => (evalD Φ a ε).bind fun x => (evalD Φ b ε).bind fun y => binD op x.d y.d
  | .neg a, ε => (evalD Φ a ε).bind fun x => match x.d with | .int i => some (.sh (.int (-i))) | _ => none
  | .not a, ε => (evalD Φ a ε).bind fun x => match x.d with | .bl b => some (.sh (.bl (!b))) | _ => none
  | .and a b, ε => (evalD Φ a ε).bind fun x => match x.d with | .bl true => evalD Φ b ε | .bl false => some (.sh (.bl false)) | _ => none
  | .or a b, ε => (evalD Φ a ε).bind fun x => match x.d with | .bl true => some (.sh (.bl true)) | .bl false => evalD Φ b ε | _ => none
  | .cmp op a b, ε => (evalD Φ a ε).bind fun x => (evalD Φ b ε).bind fun y => (cmpD op x.d y.d).map fun r => .sh (.bl r)
  | .chn o1 o2 a b c, ε => (evalD Φ a ε).bind fun x => (evalD Φ b ε).bind fun y => (cmpD o1 x.d y.d).bind fun
    | true => (evalD Φ c ε).bind fun z => (cmpD o2 y.d z.d).map fun r => .sh (.bl r)
    | false => some (.sh (.bl false))
  | .ife c a b, ε => (testD Φ c ε).bind fun
    | true => evalD Φ a ε
    | false => evalD Φ b ε
  | .ix a i, ε => (evalD Φ a ε).bind fun x => (evalD Φ i ε).bind fun y => ixD x.d y.d
  | .sl a lo hi, ε => (evalD Φ a ε).bind fun x => (partD Φ lo ε).bind fun l => (partD Φ hi ε).bind fun h => slD x.d l h
  | .tup es, ε => (keepsD Φ es ε).bind fun ds => if ds.length ≤ 1000 then some (.sh (.tup ds)) else none
  | .lst es, ε => (keepsD Φ es ε).bind fun ds => if ds.length ≤ 1000 then some (.fr (.lst ds)) else none
  | .call f es, ε => (argsD Φ es ε).bind fun as => Φ f as
  | .bi b es, ε => (argsD Φ es ε).bind fun as => biD b as
  | .isi t a, ε => (evalD Φ a ε).bind fun x => (isiD t x.d).map fun r => .sh (.bl r)
  | .lrg a, ε => (evalD Φ a ε).bind fun x => match x.d with | .int n => if 0 ≤ n ∧ n ≤ 100000 then some (.fr (.lst (rangeD 0 n))) else none | _ => none
  | .lc tg it cs e own, ε => (iterD Φ it ε).bind fun xs => if xs.length ≤ 100000 then
      (lcGo (fun x => (bindT tg (.sh x) (wipeE ε own)).bind fun ε2 => (testsD Φ cs ε2).bind fun
        | true => (evalD Φ e ε2).bind fun r => r.keep.map some
        | false => some none) xs).map fun ys => .fr (.lst ys) else none
def testD (Φ : Nat → List Vl → Option Vl) : Ep → Env → Option Bool
  | .not a, ε => (testD Φ a ε).map (!·)
  | .and a b, ε => (testD Φ a ε).bind fun | true => testD Φ b ε | false => some false
  | .or a b, ε => (testD Φ a ε).bind fun | true => some true | false => testD Φ b ε
  | .v i, ε => ((getS ε i).map Vl.use).bind fun x => truD x.d
  | .c d, ε => truD d
  | .cmp op a b, ε => (evalD Φ a ε).bind fun x => (evalD Φ b ε).bind fun y => cmpD op x.d y.d
  | .chn o1 o2 a b c, ε => (evalD Φ a ε).bind fun x => (evalD Φ b ε).bind fun y => (cmpD o1 x.d y.d).bind fun
    | true => (evalD Φ c ε).bind fun z => cmpD o2 y.d z.d
    | false => some false
  | .ix a i, ε => (evalD Φ a ε).bind fun x => (evalD Φ i ε).bind fun y => (ixD x.d y.d).bind fun r => truD r.d
  | .call f es, ε => (argsD Φ es ε).bind fun as => (Φ f as).bind fun r => truD r.d
  | .bi b es, ε => (argsD Φ es ε).bind fun as => (biD b as).bind fun r => truD r.d
  | .isi t a, ε => (evalD Φ a ε).bind fun x => isiD t x.d
  | _, _ => none
def testsD (Φ : Nat → List Vl → Option Vl) : Eps → Env → Option Bool
  | .nil, _ => some true
  | .cons c cs, ε => (testD Φ c ε).bind fun | true => testsD Φ cs ε | false => some false
def keepsD (Φ : Nat → List Vl → Option Vl) : Eps → Env → Option (List D)
  | .nil, _ => some []
  | .cons e es, ε => (evalD Φ e ε).bind fun r => r.keep.bind fun d => (keepsD Φ es ε).map (d :: ·)
def argsD (Φ : Nat → List Vl → Option Vl) : Eps → Env → Option (List Vl)
  | .nil, _ => some []
  | .cons e es, ε => (evalD Φ e ε).bind fun r => (argsD Φ es ε).map (r.argd :: ·)
def partD (Φ : Nat → List Vl → Option Vl) : Epo → Env → Option (Option Int)
  | .no, _ => some none
  | .so e, ε => (evalD Φ e ε).bind fun x => match x.d with | .int i => some (some i) | _ => none
def iterD (Φ : Nat → List Vl → Option Vl) : Epi → Env → Option (List D)
  | .over e, ε => (evalD Φ e ε).bind fun x => itemsD x.d
  | .r1 a, ε => (evalD Φ a ε).bind fun x => match x.d with | .int n => if smallI n = true then some (rangeD 0 n) else none | _ => none
  | .r2 a b, ε => (evalD Φ a ε).bind fun x => (evalD Φ b ε).bind fun y => match x.d, y.d with | .int l, .int n => if smallI l = true ∧ smallI n = true then some (rangeD l n) else none | _, _ => none
end
/-- what a for walks: nothing that its body might change -/
def loopD (Φ : Nat → List Vl → Option Vl) (it : Epi) (ε : Env) : Option (List D) :=
  match it with
  | .over (.v i) => (getS ε i).bind fun r => match r with | .fr _ => none | r => itemsD r.d
  | .over e => (evalD Φ e ε).bind fun r => match r with | .bo _ => none | r => itemsD r.d
  | it => iterD Φ it ε
inductive O where
  | nx (ε : Env) | rt (r : Vl) | bk (ε : Env) | ct (ε : Env)
def forD (tg : Tg) (f : Env → Option O) : List D → Env → Option O
  | [], ε => some (.nx ε)
  | x :: xs, ε => (bindT tg (.sh x) ε).bind fun ε2 => (f ε2).bind fun
    | .nx ε3 => forD tg f xs ε3
    | .ct ε3 => forD tg f xs ε3
    | .bk ε3 => some (.nx ε3)
    | .rt r => some (.rt r)
def whlD (c : Env → Option Bool) (f : Env → Option O) : Nat → Env → Option O
  | 0, _ => none
  | n + 1, ε => (c ε).bind fun
    | false => some (.nx ε)
    | true => (f ε).bind fun
      | .nx ε3 => whlD c f n ε3
      | .ct ε3 => whlD c f n ε3
      | .bk ε3 => some (.nx ε3)
      | .rt r => some (.rt r)
def whlFuel : Nat := 1000000
def frz (ε : Env) (i : Nat) : Env := match getS ε i with | some (.fr d) => ε.set i (some (.sh d)) | _ => ε
/-- the list that a slot owns -/
def ownL (ε : Env) (i : Nat) : Option (List D) := match getS ε i with | some (.fr (.lst xs)) => some xs | _ => none
def putL (ε : Env) (i : Nat) (xs : List D) : Env := ε.set i (some (.fr (.lst xs)))
def popD (xs : List D) : Option Int → Option (D × List D)
  | none => (xs[xs.length - 1]?).map fun y => (y, xs.dropLast)
  | some i => if smallI i = true then (ixN xs.length i).bind fun k => (xs[k]?).map fun y => (y, xs.eraseIdx k) else none
mutual
def execD (Φ : Nat → List Vl → Option Vl) : Sm → Env → Option O
  | .asg tg e, ε => (evalD Φ e ε).bind fun r => (bindT tg r ε).map .nx
  | .app i e, ε => (evalD Φ e ε).bind fun r => r.keep.bind fun d => (ownL ε i).bind fun xs => if xs.length < 100000 then some (.nx (putL ε i (xs ++ [d]))) else none
  | .setx i j e, ε => (evalD Φ e ε).bind fun r => r.keep.bind fun d => (evalD Φ j ε).bind fun x => match x.d with
    | .int k => (ownL ε i).bind fun xs => (ixN xs.length k).map fun n => .nx (putL ε i (xs.set n d))
    | _ => none
  | .ins i j e, ε => (evalD Φ j ε).bind fun x => (evalD Φ e ε).bind fun r => r.keep.bind fun d => match x.d with
    | .int k => (ownL ε i).bind fun xs => if xs.length < 100000 ∧ 0 ≤ k ∧ k < 2 ^ 62 then some (.nx (putL ε i (xs.take k.toNat ++ d :: xs.drop k.toNat))) else none
    | _ => none
  | .popT tg i a, ε => (partD Φ a ε).bind fun k => (ownL ε i).bind fun xs => (popD xs k).bind fun (y, r) => (bindT tg (.sh y) (putL ε i r)).map .nx
  | .appPop i j a, ε => if i = j then none else (partD Φ a ε).bind fun k => (ownL ε j).bind fun xs => (popD xs k).bind fun (y, r) => (ownL ε i).bind fun ys => if ys.length < 100000 then some (.nx (putL (putL ε j r) i (ys ++ [y]))) else none
  | .ret e, ε => (evalD Φ e ε).bind fun r => match r with | .bo _ => none | r => some (.rt r)
  | .retV i, ε => (getS ε i).bind fun r => match r with | .bo _ => none | r => some (.rt r)
  | .ifs c a b, ε => (testD Φ c ε).bind fun
    | true => execsD Φ a ε
    | false => execsD Φ b ε
  | .frs tg it b, ε => (loopD Φ it ε).bind fun xs => forD tg (fun ε2 => execsD Φ b ε2) xs ε
  | .whl c b, ε => whlD (fun ε2 => testD Φ c ε2) (fun ε2 => execsD Φ b ε2) whlFuel ε
  | .brk, ε => some (.bk ε)
  | .cnt, ε => some (.ct ε)
  | .pas, ε => some (.nx ε)
  | .fz i, ε => some (.nx (frz ε i))
def execsD (Φ : Nat → List Vl → Option Vl) : Sms → Env → Option O
  | .nil, ε => some (.nx ε)
  | .cons s ss, ε => (execD Φ s ε).bind fun
    | .nx ε2 => execsD Φ ss ε2
    | o => some o
end
/-- a def: how many parameters, how many names, its body -/
example (Φ : Nat → List Vl → Option Vl) (i : Nat) (ε : Env) : testD Φ (.v i) ε = ((getS ε i).map Vl.use).bind fun x => truD x.d := rfl
example (Φ : Nat → List Vl → Option Vl) (i : Nat) (ε : Env) : execD Φ (.brk) ε = some (.bk ε) := rfl
structure Df where
  np : Nat
  nn : Nat
  body : Sms
def runD (Φ : Nat → List Vl → Option Vl) (d : Df) (as : List Vl) : Option Vl :=
  if as.length = d.np then (execsD Φ d.body (as.map some ++ List.replicate (d.nn - as.length) none)).bind fun
    | .rt r => some r
    | .nx _ => some (.sh .non)
    | _ => none
  else none
def callD (T : List Df) : Nat → Nat → List Vl → Option Vl
  | 0, _, _ => none
  | n + 1, f, as => (T[f]?).bind fun d => runD (callD T n) d as

/-! ### from the given text to the small language -/
structure Mo where
  fs : List Str
  bn : List Str
def visB (sc : Scope) (x : Str) : Bool := match sc.names.lookup x with | some .local => true | some .cell => true | some .free => true | _ => false
def locB (sc : Scope) (x : Str) : Bool := match sc.names.lookup x with | some .local => true | some .cell => true | _ => false
def glB (sc : Scope) (x : Str) : Bool := match sc.names.lookup x with | some .globalImplicit => true | _ => false
def slot : List Str → Str → Option Nat
  | [], _ => none
  | y :: r, x => if x = y then some 0 else (slot r x).map (· + 1)
def biName (x : Str) : Option BI :=
  if x = "len" then some .len else if x = "int" then some .int else if x = "list" then some .list else if x = "tuple" then some .tuple
  else if x = "max" then some .max else if x = "min" then some .min else if x = "abs" then some .abs else if x = "sum" then some .sum
  else if x = "any" then some .any else if x = "all" then some .all else if x = "sorted" then some .sorted else none
def tyName (x : Str) : Option TyN :=
  if x = "int" then some .int else if x = "bool" then some .bool else if x = "list" then some .list else if x = "tuple" then some .tuple else if x = "str" then some .str else none
def isStar : Expr → Bool
  | .Starred _ _ => true
  | _ => false
def cMany (f : Expr → Option Ep) : List Expr → Option Eps
  | [] => some .nil
  | e :: es => if isStar e = true then none else (f e).bind fun x => (cMany f es).map (.cons x)
def cAnd (f : Expr → Option Ep) : List Expr → Option Ep
  | [] => none
  | [a] => f a
  | a :: b :: r => (f a).bind fun x => (cAnd f (b :: r)).map (.and x)
def cOr (f : Expr → Option Ep) : List Expr → Option Ep
  | [] => none
  | [a] => f a
  | a :: b :: r => (f a).bind fun x => (cOr f (b :: r)).map (.or x)
/-- a target's names, all own locals of the block -/
def nameOf : Expr → Option Str
  | .Name x _ => some x
  | _ => none
def cTn (N : List Str) (sc : Scope) (all : Str → Bool) (x : Str) : Option Nat :=
  if (sc.names.lookup x = some .local ∨ (all x = true ∧ sc.names.lookup x = some .cell)) then slot N x else none
def cTns (N : List Str) (sc : Scope) (all : Str → Bool) : List Expr → Option (List Nat)
  | [] => some []
  | .Name x _ :: es => (cTn N sc all x).bind fun i => (cTns N sc all es).map (i :: ·)
  | _ :: _ => none
def cTg (N : List Str) (sc : Scope) (all : Str → Bool) : Expr → Option Tg
  | .Name x _ => (cTn N sc all x).map .n
  | .Tuple es _ _ => (cTns N sc all es).map .t
  | _ => none
def ownOf (N : List Str) : Expr → List (Str × Nat)
  | .Name x _ => (match slot N x with | some i => [(x, i)] | none => [])
  | .Tuple es _ _ => es.filterMap fun e => match e with | .Name x _ => (slot N x).map fun i => (x, i) | _ => none
  | _ => []
def tgIn (own : List Nat) : Tg → Bool
  | .n i => own.contains i
  | .t is => is.all fun i => own.contains i
def ovr (o : Option Ep) : Option Epi := o.bind fun a => match a with | .v _ => none | a => some (.over a)
mutual
def cE (M : Mo) (N : List Str) : Nat → Scope → Expr → Option Ep
  | 0, _, _ => none
  | n + 1, sc, e => match e with
    | .Name x _ => if visB sc x = true ∧ x ≠ "__debug__" ∧ x ≠ "__classdict__" then (slot N x).map .v else none
    | .Constant c _ _ => (match c with | .int i => some (.c (.int i)) | .bool b => some (.c (.bl b)) | .none => some (.c .non) | .str x => some (.c (.str x)) | _ => none)
    | .BinOp a op b _ => (cE M N n sc a).bind fun x => (cE M N n sc b).map fun y => .bin op x y
    | .UnaryOp op a _ => (match op with | .USub => (cE M N n sc a).map .neg | .Not => (cE M N n sc a).map .not | _ => none)
    | .BoolOp op es _ => if es.length < 2 then none else (match op with | .And => cAnd (cE M N n sc) es | .Or => cOr (cE M N n sc) es)
    | .Compare a ops bs _ => (match ops, bs with
      | [op], [b] => (cE M N n sc a).bind fun x => (cE M N n sc b).map fun y => .cmp op x y
      | [o1, o2], [b, c] => (cE M N n sc a).bind fun x => (cE M N n sc b).bind fun y => (cE M N n sc c).map fun z => .chn o1 o2 x y z
      | _, _ => none)
    | .IfExp c a b _ => (cT M N n sc c).bind fun x => (cE M N n sc a).bind fun y => (cE M N n sc b).map fun z => .ife x y z
    | .Subscript a i _ => (match i with
      | .Slice lo hi st _ => (match st with | none => (cE M N n sc a).bind fun x => (cO M N n sc lo).bind fun l => (cO M N n sc hi).map fun h => .sl x l h | some _ => none)
      | i => (cE M N n sc a).bind fun x => (cE M N n sc i).map fun y => .ix x y)
    | .Tuple es _ _ => (cMany (cE M N n sc) es).map .tup
    | .List es _ => (cMany (cE M N n sc) es).map .lst
    | .Call f as ks _ => (match f, ks with
      | .Name x _, [] => if glB sc x = true ∧ x ≠ "__debug__" ∧ x ≠ "__name__" ∧ as ≠ [] then
          (match slot M.fs x with
          | some k => (cMany (cE M N n sc) as).map (.call k)
          | none => if M.bn.contains x = true then
              (if x = "isinstance" then (match as with
                | [a, .Name t _] => if glB sc t = true ∧ M.bn.contains t = true ∧ isStar a = false then (tyName t).bind fun ty => (cE M N n sc a).map (.isi ty) else none
                | _ => none)
              else if x = "list" then (match as with
                | [.Call (.Name y _) [a] [] _] => if y = "range" ∧ glB sc y = true ∧ M.bn.contains y = true ∧ isStar a = false then (cE M N n sc a).map .lrg else (biName x).bind fun b => (cMany (cE M N n sc) as).map (.bi b)
                | _ => (biName x).bind fun b => (cMany (cE M N n sc) as).map (.bi b))
              else (biName x).bind fun b => (cMany (cE M N n sc) as).map (.bi b))
            else none) else none
      | _, _ => none)
    | .ListComp e gs scope _ => (match gs with
      | [⟨tg, it, ifs, 0⟩] => if blkC N sc scope (ownOf N tg) = true ∧ ifs.length ≤ 1 then
          (cI M N n sc it).bind fun i => (cTg N (relS scope sc) (fun x => scope.names.lookup x == some .cell) tg).bind fun t => if tgIn ((ownOf N tg).map (·.2)) t = true then
            (cMany (cT M N n (relS scope sc)) ifs).bind fun cs => (cE M N n (relS scope sc) e).map fun x => .lc t i cs x ((ownOf N tg).map (·.2))
          else none else none
      | _ => none)
    | _ => none
def cT (M : Mo) (N : List Str) : Nat → Scope → Expr → Option Ep
  | 0, _, _ => none
  | n + 1, sc, e => match e with
    | .UnaryOp op a _ => (match op with | .Not => (cT M N n sc a).map .not | _ => none)
    | .BoolOp op es _ => (match op with | .And => cAnd (cT M N n sc) es | .Or => cOr (cT M N n sc) es)
    | .IfExp _ _ _ _ => none
    | e => (cE M N n sc e)
def cO (M : Mo) (N : List Str) : Nat → Scope → Option Expr → Option Epo
  | 0, _, _ => none
  | n + 1, sc, o => match o with | none => some .no | some e => (cE M N n sc e).map .so
def cI (M : Mo) (N : List Str) : Nat → Scope → Expr → Option Epi
  | 0, _, _ => none
  | n + 1, sc, e => match e with
    | .Call f as ks p => (match f, as, ks with
      | .Name x _, [a], [] => if x = "range" then (if glB sc x = true ∧ M.bn.contains x = true ∧ isStar a = false then (cE M N n sc a).map .r1 else none) else ovr (cE M N n sc (.Call f as ks p))
      | .Name x _, [a, b], [] => if x = "range" then (if glB sc x = true ∧ M.bn.contains x = true ∧ isStar a = false ∧ isStar b = false then (cE M N n sc a).bind fun y => (cE M N n sc b).map fun z => .r2 y z else none) else ovr (cE M N n sc (.Call f as ks p))
      | f, as, ks => ovr (cE M N n sc (.Call f as ks p)))
    | .Name x p => (cE M N n sc (.Name x p)).map .over
    | e => ovr (cE M N n sc e)
end
end EF
namespace EF
open PySem L2

/-! ### the universal readings -/
section
variable {X : Cx} {e : Expr} {es : List Expr} {σ : L2.St} {H : Hp}
def tU (X : Cx) (e : Expr) : TE := fun σ H Q => ∀ pins s, Inv X pins σ H s → wpAny (model X.prog X.w) X.A (eval e X.env) (EP X pins σ Q) X.xe s
theorem peU : PE X e (tU X e) := ⟨fun pins s σ H Q I h => h pins s I⟩
theorem tU_of {t : TE} {Q : VK} (h : PE X e t) (q : t σ H Q) : tU X e σ H Q := fun pins s I => h.run pins s σ H Q I q
def tUT (X : Cx) (e : Expr) : TT := fun σ H Q => ∀ pins s, Inv X pins σ H s → wpAny (model X.prog X.w) X.A (isTrue e X.env (eval e X.env)) (TP X pins σ Q) X.xe s
theorem ptU : PT X e (tUT X e) := ⟨fun pins s σ H Q I h => h pins s I⟩
theorem tUT_of {t : TT} {Q : Bool → Hp → Prop} (h : PT X e t) (q : t σ H Q) : tUT X e σ H Q := fun pins s I => h.run pins s σ H Q I q
def tUW (X : Cx) (e : Expr) : TT := fun σ H Q => ∀ wh pins s, Inv X pins σ H s → wpAny (model X.prog X.w) X.A (isTrue e X.env wh) (TP X pins σ Q) X.xe s
theorem pwU : PW X e (tUW X e) := ⟨fun wh pins s σ H Q I h => h wh pins s I⟩
theorem tUW_of {t : TT} {Q : Bool → Hp → Prop} (h : PW X e t) (q : t σ H Q) : tUW X e σ H Q := fun wh pins s I => h.run wh pins s σ H Q I q
def tUA (X : Cx) (es : List Expr) : TA := fun σ H Q => ∀ pos pins s, Inv X pins σ H s → wpAny (model X.prog X.w) X.A (spliced (backTo pos (starEach es X.env))) (AP X pins σ Q) X.xe s
theorem paU : PA X es (tUA X es) := ⟨fun pos pins s σ H Q I h => h pos pins s I⟩
theorem tUA_of {t : TA} {Q : List V → Hp → Prop} (h : PA X es t) (q : t σ H Q) : tUA X es σ H Q := fun pos pins s I => h.run pos pins s σ H Q I q
def tUI (X : Cx) (tg e : Expr) : TI := fun σ H R => ∀ pins s, Inv X pins σ H s → wpAny (model X.prog X.w) X.A (eval e X.env) (fun v s1 => wpAny (model X.prog X.w) X.A (pyIter v) (PIE X pins σ tg R) X.xe s1) X.xe s
theorem piU {tg : Expr} : PI X tg e (tUI X tg e) := ⟨fun pins s σ H R I h => h pins s I⟩
theorem tUI_of {tg : Expr} {t : TI} {R : L2.It → Hp → Prop} (h : PI X tg e t) (q : t σ H R) : tUI X tg e σ H R := fun pins s I => h.run pins s σ H R I q
end

/-! ### what is shown of an expression -/
abbrev Fns := Nat → List Vl → Option Vl
def ArgOk (K : PySem.W.Frag) (Hi H : Hp) : Vl → V → Prop
  | .sh d, x => Rep K Hi d x
  | .bo d, x => ∃ p o, x = .ref p ∧ H p = some o ∧ RepT K Hi d o
  | .fr _, _ => False
def ArgsOk (K : PySem.W.Frag) (Hi H : Hp) : List Vl → List V → Prop
  | [], xs => xs = []
  | r :: rs, xs => ∃ x ys, xs = x :: ys ∧ ArgOk K Hi H r x ∧ ArgsOk K Hi H rs ys
theorem ArgOk.step {K : PySem.W.Frag} {Hi H Hi' H' : Hp} (a : Step Hi H Hi' H') {r : Vl} {x : V} (h : ArgOk K Hi H r x) : ArgOk K Hi' H' r x := by
  match r, h with
  | .sh d, h => exact Rep.mono a.i d x h
  | .bo d, h => obtain ⟨p, o, h1, h2, h3⟩ := h; exact ⟨p, o, h1, a.h _ _ h2, h3.mono a.i⟩
theorem ArgsOk.step {K : PySem.W.Frag} {Hi H Hi' H' : Hp} (a : Step Hi H Hi' H') : ∀ {rs : List Vl} {xs : List V}, ArgsOk K Hi H rs xs → ArgsOk K Hi' H' rs xs
  | [], _, h => h
  | r :: rs, _, h => by
    obtain ⟨x, ys, h1, h2, h3⟩ := h
    exact ⟨x, ys, h1, h2.step a, ArgsOk.step a h3⟩
theorem ArgOk.vl {K : PySem.W.Frag} {Hi H H0 : Hp} {r : Vl} {x : V} (h : ArgOk K Hi H r x) : VlOk K H0 Hi H r x := by
  match r, h with
  | .sh d, h => exact h
  | .bo d, h => exact h

def RE (X : Cx) (Φ : Fns) (pe : Expr) (e : Ep) : Prop := ∀ ε r, evalD Φ e ε = some r → ∀ Hi0 H0 Hi H σ (Q : VK), EnvOk X.K Hi0 H0 Hi H σ ε →
  (∀ Hi' H' x, Step Hi H Hi' H' → VlOk X.K H Hi' H' r x → Q x H') → tU X pe σ H Q
def RT (X : Cx) (Φ : Fns) (pe : Expr) (e : Ep) : Prop := ∀ ε b, testD Φ e ε = some b → ∀ Hi0 H0 Hi H σ (Q : Bool → Hp → Prop), EnvOk X.K Hi0 H0 Hi H σ ε →
  (∀ Hi' H', Step Hi H Hi' H' → Q b H') → tUT X pe σ H Q
def RA (X : Cx) (Φ : Fns) (pes : List Expr) (es : Eps) : Prop := ∀ ε rs, argsD Φ es ε = some rs → ∀ Hi0 H0 Hi H σ (Q : List V → Hp → Prop), EnvOk X.K Hi0 H0 Hi H σ ε →
  (∀ Hi' H' xs, Step Hi H Hi' H' → ArgsOk X.K Hi' H' rs xs → Q xs H') → tUA X pes σ H Q
def RK (X : Cx) (Φ : Fns) (pes : List Expr) (es : Eps) : Prop := ∀ ε ds, keepsD Φ es ε = some ds → ∀ Hi0 H0 Hi H σ (Q : List V → Hp → Prop), EnvOk X.K Hi0 H0 Hi H σ ε →
  (∀ Hi' H' xs, Step Hi H Hi' H' → RepL X.K Hi' ds xs → Q xs H') → tUA X pes σ H Q

section
variable {X : Cx} {Φ : Fns} {pe pa pb pc : Expr} {a b c : Ep} {pos : Pos}
theorem getS_some {ε : Env} {i : Nat} {r : Vl} (h : getS ε i = some r) : ε[i]? = some (some r) := by
  unfold getS at h
  cases q : ε[i]? with
  | none => rw [q] at h; cases h
  | some o => rw [q] at h; cases o with
    | none => cases h
    | some v => cases h; rfl
theorem EnvOk.at {K : PySem.W.Frag} {Hi0 H0 Hi H : Hp} {σ : L2.St} {ε : Env} (I : EnvOk K Hi0 H0 Hi H σ ε) {i : Nat} {r : Vl} (h : getS ε i = some r) : ∃ v, σ[i]? = some v ∧ SlOk K H0 Hi H (some r) v := by
  have h1 := getS_some h
  have hl : i < ε.length := (List.getElem?_eq_some_iff.mp h1).1
  have hs : i < σ.length := by rw [I.len]; exact hl
  exact ⟨σ[i], List.getElem?_eq_getElem hs, I.sl i _ _ h1 (List.getElem?_eq_getElem hs)⟩
theorem EnvOk.var {K : PySem.W.Frag} {Hi0 H0 Hi H : Hp} {σ : L2.St} {ε : Env} (I : EnvOk K Hi0 H0 Hi H σ ε) {i : Nat} {r : Vl} (h : getS ε i = some r) : ∃ x, σ[i]? = some (some x) ∧ VlOk K H Hi H r.use x := by
  obtain ⟨v, h1, h2⟩ := I.at h
  match r, h2 with
  | .sh d, ⟨x, e, h3⟩ => subst e; exact ⟨x, h1, h3⟩
  | .fr d, ⟨p, o, e, h3, _, _, h4⟩ => subst e; exact ⟨_, h1, p, o, rfl, h3, h4⟩
  | .bo d, ⟨p, o, e, h3, h4⟩ => subst e; exact ⟨_, h1, p, o, rfl, I.st.h _ _ h3, h4⟩
theorem r_var {i : Nat} {x : Str} (hN : X.N[i]? = some x) (hv : Vis X.env.scope x) (hd : (x == ("__debug__" : Str)) = false) (hcd : (x == ("__classdict__" : Str)) = false) : RE X Φ (.Name x pos) (.v i) := by
  intro ε r h Hi0 H0 Hi H σ Q I k
  simp only [evalD, Option.map_eq_some_iff] at h
  obtain ⟨r0, h1, rfl⟩ := h
  obtain ⟨x', h2, h3⟩ := I.var h1
  exact tU_of (pe_var hN hv hd hcd) ⟨x', h2, k Hi H x' (Step.refl I.st.s) h3⟩
theorem r_const {t : V} {d : D} (h : PE X pe (tC t)) (hr : ∀ K H, Rep K H d t) : RE X Φ pe (.c d) := by
  intro ε r hh Hi0 H0 Hi H σ Q I k
  simp only [evalD, Option.some.injEq] at hh
  subst hh
  exact tU_of h (k Hi H t (Step.refl I.st.s) (hr _ _))

/-! two in a row -/
theorem two (ha : RE X Φ pa a) (hb : RE X Φ pb b) {ε : Env} {x y : Vl} (ea : evalD Φ a ε = some x) (eb : evalD Φ b ε = some y) {Hi0 H0 Hi H : Hp} {σ : L2.St} {R : V → V → Hp → Prop} (I : EnvOk X.K Hi0 H0 Hi H σ ε)
    (k : ∀ Hi' H' u v, Step Hi H Hi' H' → VlOk X.K H Hi' H' x u → VlOk X.K H Hi' H' y v → R u v H') : tU X pa σ H fun u H1 => tU X pb σ H1 fun v H2 => R u v H2 := by
  refine ha ε x ea Hi0 H0 Hi H σ _ I fun Hi1 H1 u s1 o1 => ?_
  refine hb ε y eb Hi0 H0 Hi1 H1 σ _ (I.step s1) fun Hi2 H2 v s2 o2 => ?_
  exact k Hi2 H2 u v (s1.trans s2) (o1.step s2) (o2.back s1.h)

/-! operators -/
theorem int_of {K : PySem.W.Frag} {Hp0 Hi H : Hp} {r : Vl} {x : V} {i : Int} (h : VlOk K Hp0 Hi H r x) (e : r.d = .int i) : x = .int i := by
  have q := h.flat (fun xs z => by rw [e] at z; cases z)
  rw [e] at q
  exact q
theorem bl_of {K : PySem.W.Frag} {Hp0 Hi H : Hp} {r : Vl} {x : V} {i : Bool} (h : VlOk K Hp0 Hi H r x) (e : r.d = .bl i) : x = .bl i := by
  have q := h.flat (fun xs z => by rw [e] at z; cases z)
  rw [e] at q
  exact q
theorem str_of {K : PySem.W.Frag} {Hp0 Hi H : Hp} {r : Vl} {x : V} {i : Str} (h : VlOk K Hp0 Hi H r x) (e : r.d = .str i) : x = .str i := by
  have q := h.flat (fun xs z => by rw [e] at z; cases z)
  rw [e] at q
  exact q
theorem non_of {K : PySem.W.Frag} {Hp0 Hi H : Hp} {r : Vl} {x : V} (h : VlOk K Hp0 Hi H r x) (e : r.d = .non) : x = .non := by
  have q := h.flat (fun xs z => by rw [e] at z; cases z)
  rw [e] at q
  exact q
theorem tup_of {K : PySem.W.Frag} {Hp0 Hi H : Hp} {r : Vl} {x : V} {xs : List D} (h : VlOk K Hp0 Hi H r x) (e : r.d = .tup xs) : ∃ a vs, x = .ref a ∧ Hi a = some (.tup vs) ∧ RepL K Hi xs vs := by
  have q := h.flat (fun xs z => by rw [e] at z; cases z)
  rw [e] at q
  exact q
theorem scr_of {K : PySem.W.Frag} {Hp0 Hi H : Hp} {r : Vl} {x : V} {ns : List Int} (h : VlOk K Hp0 Hi H r x) (e : r.d = .scr ns) : ∃ a, x = .ref a ∧ SqL K Hi a (ns.map V.int) := by
  have q := h.flat (fun xs z => by rw [e] at z; cases z)
  rw [e] at q
  exact q
/-- a two-place operation on values keeps its word -/
def OpOk (K : PySem.W.Frag) (rr : R2) (x y : Vl) (r : Vl) : Prop := ∀ Hp0 Hi H u v (Q : VK), Ex Hi H → VlOk K Hp0 Hi H x u → VlOk K Hp0 Hi H y v → (∀ Hi' H' z, Step Hi H Hi' H' → VlOk K H Hi' H' r z → Q z H') → rr u v H Q
theorem sz5 {n : Nat} (h : n ≤ 100000) : n ≤ sizeLine := Nat.le_trans h (by decide)
theorem mulOk_ok {i j : Int} (h : mulOk i j = true) : CMul i j := by
  unfold mulOk at h
  exact of_decide_eq_true (p := (-(2 ^ 64) < i ∧ i < 2 ^ 64) ∨ (-(2 ^ 64) < j ∧ j < 2 ^ 64)) h
theorem binD_ok {op : Operator} {x y r : Vl} (h : binD op x.d y.d = some r) : ∃ rr, OpR X (binaryOp op) rr ∧ OpOk X.K rr x y r := by
  generalize ex : x.d = dx at h
  generalize ey : y.d = dy at h
  unfold binD at h
  split at h
  · cases h
    exact ⟨_, op_add, fun _ Hi H u v Q e h1 h2 k => ⟨_, _, int_of h1 ex, int_of h2 ey, k Hi H _ (Step.refl e) rfl⟩⟩
  · cases h
    exact ⟨_, op_sub, fun _ Hi H u v Q e h1 h2 k => ⟨_, _, int_of h1 ex, int_of h2 ey, k Hi H _ (Step.refl e) rfl⟩⟩
  · split at h
    · rename_i hm
      cases h
      exact ⟨_, op_mul, fun _ Hi H u v Q e h1 h2 k => ⟨_, _, int_of h1 ex, int_of h2 ey, mulOk_ok hm, k Hi H _ (Step.refl e) rfl⟩⟩
    · cases h
  · split at h
    · rename_i hm
      cases h
      exact ⟨_, op_fdiv, fun _ Hi H u v Q e h1 h2 k => ⟨_, _, int_of h1 ex, int_of h2 ey, hm, k Hi H _ (Step.refl e) rfl⟩⟩
    · cases h
  · split at h
    · rename_i hm
      cases h
      exact ⟨_, op_mod, fun _ Hi H u v Q e h1 h2 k => ⟨_, _, int_of h1 ex, int_of h2 ey, hm, k Hi H _ (Step.refl e) rfl⟩⟩
    · cases h
  · split at h
    · rename_i hm
      cases h
      exact ⟨_, op_pow, fun _ Hi H u v Q e h1 h2 k => ⟨_, _, int_of h1 ex, int_of h2 ey, hm, k Hi H _ (Step.refl e) rfl⟩⟩
    · cases h
  · split at h
    · rename_i hm
      cases h
      refine ⟨_, op_cat, fun _ Hi H u v Q e h1 h2 k => ?_⟩
      obtain ⟨p, vs, e1, e2, e3⟩ := h1.lst e ex
      obtain ⟨q, ws, f1, f2, f3⟩ := h2.lst e ey
      refine ⟨p, q, vs, ws, e1, f1, e2, f2, sz5 (by rw [← e3.length, ← f3.length]; exact hm), fun l hl => ?_⟩
      exact k Hi _ _ (Step.own e hl) ⟨l, _, rfl, upd_same, Evl.fresh_back e hl, hl, _, rfl, e3.append f3⟩
    · cases h
  · cases h
theorem r_bin {op : Operator} (ha : RE X Φ pa a) (hb : RE X Φ pb b) : RE X Φ (.BinOp pa op pb pos) (.bin op a b) := by
  intro ε r h Hi0 H0 Hi H σ Q I k
  simp only [evalD, Option.bind_eq_some_iff] at h
  obtain ⟨x, h1, y, h2, h3⟩ := h
  obtain ⟨rr, ho, hr⟩ := binD_ok (X := X) h3
  refine tU_of (pe_op ho peU peU) (two ha hb h1 h2 I fun Hi' H' u v s o1 o2 => hr _ _ _ _ _ _ s.s o1 o2 fun Hi2 H2 z s2 o3 => ?_)
  exact k Hi2 H2 z (s.trans s2) (o3.back s.h)
theorem r_neg (ha : RE X Φ pa a) : RE X Φ (.UnaryOp .USub pa pos) (.neg a) := by
  intro ε r h Hi0 H0 Hi H σ Q I k
  simp only [evalD, Option.bind_eq_some_iff] at h
  obtain ⟨x, h1, h2⟩ := h
  split at h2
  · rename_i i ex
    cases h2
    refine tU_of (pe_un un_neg peU) (ha ε x h1 Hi0 H0 Hi H σ _ I fun Hi1 H1 u s1 o1 => ⟨i, int_of o1 ex, ?_⟩)
    exact k Hi1 H1 _ s1 rfl
  · cases h2
theorem r_not (ha : RE X Φ pa a) : RE X Φ (.UnaryOp .Not pa pos) (.not a) := by
  intro ε r h Hi0 H0 Hi H σ Q I k
  simp only [evalD, Option.bind_eq_some_iff] at h
  obtain ⟨x, h1, h2⟩ := h
  split at h2
  · rename_i i ex
    cases h2
    refine tU_of (pe_not peU) (ha ε x h1 Hi0 H0 Hi H σ _ I fun Hi1 H1 u s1 o1 => ⟨i, bl_of o1 ex, ?_⟩)
    exact k Hi1 H1 _ s1 rfl
  · cases h2
theorem r_and {rest : List Expr} (ha : RE X Φ pa a) (hb : RE X Φ (.BoolOp .And (pb :: rest) pos) b) : RE X Φ (.BoolOp .And (pa :: pb :: rest) pos) (.and a b) := by
  intro ε r h Hi0 H0 Hi H σ Q I k
  simp only [evalD, Option.bind_eq_some_iff] at h
  obtain ⟨x, h1, h2⟩ := h
  refine tU_of (pe_and peU peU) (ha ε x h1 Hi0 H0 Hi H σ _ I fun Hi1 H1 u s1 o1 => ?_)
  split at h2
  · rename_i ex
    refine ⟨true, bl_of o1 ex, ?_⟩
    rw [if_pos rfl]
    exact hb ε r h2 Hi0 H0 Hi1 H1 σ _ (I.step s1) fun Hi2 H2 z s2 o2 => k Hi2 H2 z (s1.trans s2) (o2.back s1.h)
  · rename_i ex
    cases h2
    refine ⟨false, bl_of o1 ex, ?_⟩
    rw [if_neg (by decide)]
    exact k Hi1 H1 _ s1 rfl
  · cases h2
theorem r_or {rest : List Expr} (ha : RE X Φ pa a) (hb : RE X Φ (.BoolOp .Or (pb :: rest) pos) b) : RE X Φ (.BoolOp .Or (pa :: pb :: rest) pos) (.or a b) := by
  intro ε r h Hi0 H0 Hi H σ Q I k
  simp only [evalD, Option.bind_eq_some_iff] at h
  obtain ⟨x, h1, h2⟩ := h
  refine tU_of (pe_or peU peU) (ha ε x h1 Hi0 H0 Hi H σ _ I fun Hi1 H1 u s1 o1 => ?_)
  split at h2
  · rename_i ex
    cases h2
    refine ⟨true, bl_of o1 ex, ?_⟩
    rw [if_pos rfl]
    exact k Hi1 H1 _ s1 rfl
  · rename_i ex
    refine ⟨false, bl_of o1 ex, ?_⟩
    rw [if_neg (by decide)]
    exact hb ε r h2 Hi0 H0 Hi1 H1 σ _ (I.step s1) fun Hi2 H2 z s2 o2 => k Hi2 H2 z (s1.trans s2) (o2.back s1.h)
  · cases h2
theorem r_one {op} (ha : RE X Φ pa a) : RE X Φ (.BoolOp op [pa] pos) a := by
  intro ε r h Hi0 H0 Hi H σ Q I k
  exact tU_of (pe_one peU) (ha ε r h Hi0 H0 Hi H σ Q I k)
/-! tests -/
theorem t_not (ha : RT X Φ pa a) : RT X Φ (.UnaryOp .Not pa pos) (.not a) := by
  intro ε r h Hi0 H0 Hi H σ Q I k
  simp only [testD, Option.map_eq_some_iff] at h
  obtain ⟨b, h1, rfl⟩ := h
  exact tUT_of (pt_not ptU) (ha ε b h1 Hi0 H0 Hi H σ _ I fun Hi1 H1 s1 => k Hi1 H1 s1)
def RW (X : Cx) (Φ : Fns) (pe : Expr) (e : Ep) : Prop := ∀ ε b, testD Φ e ε = some b → ∀ Hi0 H0 Hi H σ (Q : Bool → Hp → Prop), EnvOk X.K Hi0 H0 Hi H σ ε →
  (∀ Hi' H', Step Hi H Hi' H' → Q b H') → tUW X pe σ H Q
theorem RW.t (h : RW X Φ pe a) : RT X Φ pe a := fun ε b e Hi0 H0 Hi H σ Q I k => tUT_of (PW.pt pwU) (h ε b e Hi0 H0 Hi H σ Q I k)
theorem w_and {rest : List Expr} (ha : RT X Φ pa a) (hb : RW X Φ (.BoolOp .And (pb :: rest) pos) b) : RW X Φ (.BoolOp .And (pa :: pb :: rest) pos) (.and a b) := by
  intro ε r h Hi0 H0 Hi H σ Q I k
  simp only [testD, Option.bind_eq_some_iff] at h
  obtain ⟨x, h1, h2⟩ := h
  refine tUW_of (pw_and ptU pwU) (ha ε x h1 Hi0 H0 Hi H σ _ I fun Hi1 H1 s1 => ?_)
  cases x with
  | true =>
    rw [if_pos rfl]
    exact hb ε r h2 Hi0 H0 Hi1 H1 σ _ (I.step s1) fun Hi2 H2 s2 => k Hi2 H2 (s1.trans s2)
  | false =>
    cases h2
    rw [if_neg (by decide)]
    exact k Hi1 H1 s1
theorem w_or {rest : List Expr} (ha : RT X Φ pa a) (hb : RW X Φ (.BoolOp .Or (pb :: rest) pos) b) : RW X Φ (.BoolOp .Or (pa :: pb :: rest) pos) (.or a b) := by
  intro ε r h Hi0 H0 Hi H σ Q I k
  simp only [testD, Option.bind_eq_some_iff] at h
  obtain ⟨x, h1, h2⟩ := h
  refine tUW_of (pw_or ptU pwU) (ha ε x h1 Hi0 H0 Hi H σ _ I fun Hi1 H1 s1 => ?_)
  cases x with
  | true =>
    cases h2
    rw [if_pos rfl]
    exact k Hi1 H1 s1
  | false =>
    rw [if_neg (by decide)]
    exact hb ε r h2 Hi0 H0 Hi1 H1 σ _ (I.step s1) fun Hi2 H2 s2 => k Hi2 H2 (s1.trans s2)
theorem w_and1 (ha : RT X Φ pa a) : RW X Φ (.BoolOp .And [pa] pos) a := fun ε r h Hi0 H0 Hi H σ Q I k => tUW_of (pw_and1 ptU) (ha ε r h Hi0 H0 Hi H σ Q I k)
theorem w_or1 (ha : RT X Φ pa a) : RW X Φ (.BoolOp .Or [pa] pos) a := fun ε r h Hi0 H0 Hi H σ Q I k => tUW_of (pw_or1 ptU) (ha ε r h Hi0 H0 Hi H σ Q I k)
theorem truD_ok {K : PySem.W.Frag} {Hp0 Hi H : Hp} {r : Vl} {x : V} {b : Bool} (s : Ex Hi H) (h : VlOk K Hp0 Hi H r x) (e : truD r.d = some b) : TruV K x H b := by
  generalize er : r.d = d at e
  cases d with
  | non => cases e; rw [non_of h er]; rfl
  | bl c => cases e; rw [bl_of h er]; rfl
  | int i => cases e; rw [int_of h er]; rfl
  | str z => cases e
  | scr z => cases e
  | lst xs =>
    cases e
    obtain ⟨p, vs, rfl, h2, h3⟩ := h.lst s er
    refine .inl ⟨vs, SqL.of h2, ?_⟩
    have hl := h3.length
    cases xs <;> cases vs <;> first | rfl | (simp at hl)
  | tup xs =>
    cases e
    obtain ⟨p, vs, rfl, h2, h3⟩ := tup_of h er
    refine .inr (.inl ⟨vs, SqT.of (s _ _ h2), ?_⟩)
    have hl := h3.length
    cases xs <;> cases vs <;> first | rfl | (simp at hl)
theorem t_truth (he : ∀ whole, isTrue pe X.env whole = (do let v ← whole; standAt pe.pos; holding [v] (truthy v))) (ha : RE X Φ pe a) (ht : ∀ ε, testD Φ a ε = (evalD Φ a ε).bind fun x => truD x.d) : RT X Φ pe a := by
  intro ε b h Hi0 H0 Hi H σ Q I k
  rw [ht] at h
  simp only [Option.bind_eq_some_iff] at h
  obtain ⟨x, h1, h2⟩ := h
  exact tUT_of (pt_truth peU he) (ha ε x h1 Hi0 H0 Hi H σ _ I fun Hi1 H1 u s1 o1 => ⟨b, truD_ok s1.s o1 h2, k Hi1 H1 s1⟩)
end
end EF
namespace EF
open PySem L2

/-! ### comparisons -/
theorem dp_ints {K : PySem.W.Frag} {H : Hp} : ∀ ns : List Int, DpAll K H (ns.map V.int) (ns.map PyData.int)
  | [] => .nil
  | n :: ns => .cons (.int n) (dp_ints ns)
mutual
theorem Rep.dp {K : PySem.W.Frag} {H : Hp} : ∀ (d : D) (v : V), Rep K H d v → Dp K H v (toPy d)
  | .non, v, h => by cases (show v = .non from h); exact .non
  | .bl b, v, h => by cases (show v = .bl b from h); exact .bl b
  | .int i, v, h => by cases (show v = .int i from h); exact .int i
  | .str x, v, h => by cases (show v = .str x from h); exact .str x
  | .lst xs, v, h => by
    obtain ⟨a, vs, rfl, h2, h3⟩ := h
    exact .lst (SqL.of h2) (RepL.dp xs vs h3)
  | .tup xs, v, h => by
    obtain ⟨a, vs, rfl, h2, h3⟩ := h
    exact .tup (SqT.of h2) (RepL.dp xs vs h3)
  | .scr ns, v, h => by
    obtain ⟨a, rfl, h2⟩ := h
    exact .lst h2 (dp_ints ns)
theorem RepL.dp {K : PySem.W.Frag} {H : Hp} : ∀ (ds : List D) (vs : List V), RepL K H ds vs → DpAll K H vs (toPys ds)
  | [], vs, h => by cases (show vs = [] from h); exact .nil
  | d :: ds, vs, h => by
    obtain ⟨v, vs', rfl, h2, h3⟩ := h
    exact .cons (Rep.dp d v h2) (RepL.dp ds vs' h3)
end
def CmpOk (K : PySem.W.Frag) (rr : R2) (x y : Vl) (b : Bool) : Prop := ∀ Hp0 Hp1 Hi H u v (Q : VK), Ex Hi H → VlOk K Hp0 Hi H x u → VlOk K Hp1 Hi H y v → Q (.bl b) H → rr u v H Q
section
variable {X : Cx} {Φ : Fns} {pe pa pb pc : Expr} {a b c : Ep} {pos : Pos}
theorem eqD_ok (hu : X.A.units + 64 < cLine) {x y : Vl} {b : Bool} (h : eqD x.d y.d = some b) : (∃ rr, OpR X (compareOp .Eq) rr ∧ CmpOk X.K rr x y b) ∧ (∃ rr, OpR X (compareOp .NotEq) rr ∧ CmpOk X.K rr x y (!b)) := by
  generalize ex : x.d = dx at h
  generalize ey : y.d = dy at h
  unfold eqD at h
  split at h
  · cases h
    refine ⟨⟨_, op_eq, fun _ _ Hi H u v Q e h1 h2 k => ?_⟩, ⟨_, op_ne, fun _ _ Hi H u v Q e h1 h2 k => ?_⟩⟩ <;>
    (rw [int_of h1 ex, int_of h2 ey]; refine ⟨rfl, ?_⟩; simpa using k)
  · cases h
    refine ⟨⟨_, op_eq, fun _ _ Hi H u v Q e h1 h2 k => ?_⟩, ⟨_, op_ne, fun _ _ Hi H u v Q e h1 h2 k => ?_⟩⟩ <;>
    (rw [str_of h1 ex, str_of h2 ey]; refine ⟨rfl, ?_⟩; simpa using k)
  · cases h
    refine ⟨⟨_, op_eq, fun _ _ Hi H u v Q e h1 h2 k => ?_⟩, ⟨_, op_ne, fun _ _ Hi H u v Q e h1 h2 k => ?_⟩⟩ <;>
    (rw [bl_of h1 ex, bl_of h2 ey]; refine ⟨rfl, ?_⟩; simpa using k)
  · cases h
    refine ⟨⟨_, op_eq, fun _ _ Hi H u v Q e h1 h2 k => ?_⟩, ⟨_, op_ne, fun _ _ Hi H u v Q e h1 h2 k => ?_⟩⟩ <;>
    (rw [non_of h1 ex, non_of h2 ey]; refine ⟨rfl, ?_⟩; simpa using k)
  · split at h
    · rename_i hs
      cases h
      refine ⟨⟨_, op_eqD hu, fun _ _ Hi H u v Q e h1 h2 k => ?_⟩, ⟨_, op_neD hu, fun _ _ Hi H u v Q e h1 h2 k => ?_⟩⟩
      · exact ⟨_, _, Rep.dp _ _ (ex ▸ h1.rep e), Rep.dp _ _ (ey ▸ h2.rep e), hs.1, hs.2, k⟩
      · exact ⟨_, _, Rep.dp _ _ (ex ▸ h1.rep e), Rep.dp _ _ (ey ▸ h2.rep e), hs.1, hs.2, k⟩
    · cases h
theorem isN_ok {K : PySem.W.Frag} {Hp0 Hi H : Hp} {x : Vl} {u : V} (e : Ex Hi H) (h : VlOk K Hp0 Hi H x u) (hd : x.d ≠ .non) : decide (u = .non) = false := by
  refine decide_eq_false fun z => ?_
  subst z
  have q := h.rep e
  generalize x.d = d at q hd
  cases d with
  | non => exact hd rfl
  | lst xs => obtain ⟨_, _, z, _⟩ := q; cases z
  | tup xs => obtain ⟨_, _, z, _⟩ := q; cases z
  | scr xs => obtain ⟨_, z, _⟩ := q; cases z
  | bl b => cases (show V.non = .bl b from q)
  | int b => cases (show V.non = .int b from q)
  | str b => cases (show V.non = .str b from q)
theorem cmpD_ok (hu : X.A.units + 64 < cLine) {op : CmpOp} {x y : Vl} {b : Bool} (h : cmpD op x.d y.d = some b) : ∃ rr, OpR X (compareOp op) rr ∧ CmpOk X.K rr x y b := by
  cases op with
  | Eq => exact (eqD_ok hu h).1
  | NotEq =>
    simp only [cmpD, Option.map_eq_some_iff] at h
    obtain ⟨b', h1, rfl⟩ := h
    exact (eqD_ok hu h1).2
  | Lt =>
    simp only [cmpD] at h
    split at h
    · rename_i i j ex ey
      cases h
      exact ⟨_, op_lt, fun _ _ Hi H u v Q e h1 h2 k => ⟨_, _, int_of h1 ex, int_of h2 ey, k⟩⟩
    · cases h
  | LtE =>
    simp only [cmpD] at h
    split at h
    · rename_i i j ex ey
      cases h
      exact ⟨_, op_le, fun _ _ Hi H u v Q e h1 h2 k => ⟨_, _, int_of h1 ex, int_of h2 ey, k⟩⟩
    · cases h
  | Gt =>
    simp only [cmpD] at h
    split at h
    · rename_i i j ex ey
      cases h
      exact ⟨_, op_gt, fun _ _ Hi H u v Q e h1 h2 k => ⟨_, _, int_of h1 ex, int_of h2 ey, k⟩⟩
    · cases h
  | GtE =>
    simp only [cmpD] at h
    split at h
    · rename_i i j ex ey
      cases h
      exact ⟨_, op_ge, fun _ _ Hi H u v Q e h1 h2 k => ⟨_, _, int_of h1 ex, int_of h2 ey, k⟩⟩
    · cases h
  | Is =>
    simp only [cmpD] at h
    split at h
    · rename_i i j ex ey
      cases h
      exact ⟨_, op_isBl, fun _ _ Hi H u v Q e h1 h2 k => ⟨_, _, bl_of h1 ex, bl_of h2 ey, k⟩⟩
    · rename_i ex ey
      cases h
      refine ⟨_, op_isN, fun _ _ Hi H u v Q e h1 h2 k => ⟨non_of h2 ey, ?_⟩⟩
      rw [non_of h1 ex]; exact k
    all_goals first
      | (cases h; done)
      | (rename_i ex ey
         cases h
         refine ⟨_, op_isN, fun _ _ Hi H u v Q e h1 h2 k => ⟨non_of h2 ey, ?_⟩⟩
         rw [isN_ok e h1 (by rw [ex]; exact fun z => nomatch z)]; exact k)
  | IsNot =>
    simp only [cmpD] at h
    split at h
    · rename_i i j ex ey
      cases h
      exact ⟨_, op_notBl, fun _ _ Hi H u v Q e h1 h2 k => ⟨_, _, bl_of h1 ex, bl_of h2 ey, k⟩⟩
    · rename_i ex ey
      cases h
      refine ⟨_, op_notN, fun _ _ Hi H u v Q e h1 h2 k => ⟨non_of h2 ey, ?_⟩⟩
      rw [non_of h1 ex]; exact k
    all_goals first
      | (cases h; done)
      | (rename_i ex ey
         cases h
         refine ⟨_, op_notN, fun _ _ Hi H u v Q e h1 h2 k => ⟨non_of h2 ey, ?_⟩⟩
         rw [isN_ok e h1 (by rw [ex]; exact fun z => nomatch z)]; exact k)
  | In => cases h
  | NotIn => cases h
theorem r_cmp (hu : X.A.units + 64 < cLine) {op : CmpOp} (ha : RE X Φ pa a) (hb : RE X Φ pb b) (hm : behindInMarks op pb = false) : RE X Φ (.Compare pa [op] [pb] pos) (.cmp op a b) := by
  intro ε r h Hi0 H0 Hi H σ Q I k
  simp only [evalD, Option.bind_eq_some_iff, Option.map_eq_some_iff] at h
  obtain ⟨x, h1, y, h2, b', h3, rfl⟩ := h
  obtain ⟨rr, ho, hr⟩ := cmpD_ok hu h3
  exact tU_of (pe_cmpR ho peU peU hm) (two ha hb h1 h2 I fun Hi' H' u v s o1 o2 => hr _ _ _ _ _ _ _ s.s o1 o2 (k Hi' H' _ s rfl))
theorem t_cmp (hu : X.A.units + 64 < cLine) {op : CmpOp} (ha : RE X Φ pa a) (hb : RE X Φ pb b) (hm : behindInMarks op pb = false) : RT X Φ (.Compare pa [op] [pb] pos) (.cmp op a b) := by
  intro ε r h Hi0 H0 Hi H σ Q I k
  simp only [testD, Option.bind_eq_some_iff] at h
  obtain ⟨x, h1, y, h2, h3⟩ := h
  obtain ⟨rr, ho, hr⟩ := cmpD_ok hu h3
  exact tUT_of (pt_cmpR ho peU peU hm) (two ha hb h1 h2 I fun Hi' H' u v s o1 o2 => hr _ _ _ _ _ _ _ s.s o1 o2 ⟨r, rfl, k Hi' H' s⟩)
theorem chain_ok (hu : X.A.units + 64 < cLine) {o1 o2 : CmpOp} (ha : RE X Φ pa a) (hb : RE X Φ pb b) (hc : RE X Φ pc c) {ε : Env} {r : Bool}
    (h : ((evalD Φ a ε).bind fun x => (evalD Φ b ε).bind fun y => (cmpD o1 x.d y.d).bind fun
      | true => (evalD Φ c ε).bind fun z => cmpD o2 y.d z.d
      | false => some false) = some r) : ∃ rr rr', OpR X (compareOp o1) rr ∧ OpR X (compareOp o2) rr' ∧ ∀ Hi0 H0 Hi H σ (Q : VK), EnvOk X.K Hi0 H0 Hi H σ ε → (∀ Hi' H', Step Hi H Hi' H' → Q (.bl r) H') →
        tChain rr rr' (tU X pa) (tU X pb) (tU X pc) σ H Q := by
  simp only [Option.bind_eq_some_iff] at h
  obtain ⟨x, h1, y, h2, b1, h3, h4⟩ := h
  obtain ⟨rr, ho, hr⟩ := cmpD_ok hu h3
  cases b1 with
  | true =>
    simp only [Option.bind_eq_some_iff] at h4
    obtain ⟨z, h5, h6⟩ := h4
    obtain ⟨rr', ho', hr'⟩ := cmpD_ok hu h6
    refine ⟨rr, rr', ho, ho', fun Hi0 H0 Hi H σ Q I k => ?_⟩
    refine two ha hb h1 h2 I fun Hi' H' u v s o1 o2 => hr _ _ _ _ _ _ _ s.s o1 o2 ⟨true, rfl, ?_⟩
    rw [if_pos rfl]
    exact hc ε z h5 Hi0 H0 Hi' H' σ _ (I.step s) fun Hi2 H2 w s2 o3 => hr' _ _ _ _ _ _ _ s2.s (o2.step s2) o3 (k Hi2 H2 (s.trans s2))
  | false =>
    cases h4
    refine ⟨rr, fun _ _ _ _ => False, ho, fun _ _ _ _ _ _ _ _ _ _ _ _ z => z.elim, fun Hi0 H0 Hi H σ Q I k => ?_⟩
    refine two ha hb h1 h2 I fun Hi' H' u v s o1 o2 => hr _ _ _ _ _ _ _ s.s o1 o2 ⟨false, rfl, ?_⟩
    rw [if_neg (by decide)]
    exact k Hi' H' s
theorem r_chn (hu : X.A.units + 64 < cLine) {o1 o2 : CmpOp} (ha : RE X Φ pa a) (hb : RE X Φ pb b) (hc : RE X Φ pc c) (hm : lastMarks [o1, o2] [pb, pc] = false) : RE X Φ (.Compare pa [o1, o2] [pb, pc] pos) (.chn o1 o2 a b c) := by
  intro ε r h Hi0 H0 Hi H σ Q I k
  have h' : ∃ r', r = .sh (.bl r') ∧ ((evalD Φ a ε).bind fun x => (evalD Φ b ε).bind fun y => (cmpD o1 x.d y.d).bind fun
      | true => (evalD Φ c ε).bind fun z => cmpD o2 y.d z.d
      | false => some false) = some r' := by
    simp only [evalD, Option.bind_eq_some_iff] at h
    obtain ⟨x, h1, y, h2, b1, h3, h4⟩ := h
    cases b1 with
    | true =>
      simp only [Option.bind_eq_some_iff, Option.map_eq_some_iff] at h4
      obtain ⟨z, h5, b', h6, rfl⟩ := h4
      exact ⟨b', rfl, by simp [h1, h2, h3, h5, h6]⟩
    | false =>
      cases h4
      exact ⟨false, rfl, by simp [h1, h2, h3]⟩
  obtain ⟨r', rfl, h'⟩ := h'
  obtain ⟨rr, rr', ho, ho', hh⟩ := chain_ok hu ha hb hc h'
  exact tU_of (pe_chain ho ho' peU peU peU hm) (hh Hi0 H0 Hi H σ Q I fun Hi' H' s => k Hi' H' _ s rfl)
theorem t_chn (hu : X.A.units + 64 < cLine) {o1 o2 : CmpOp} (ha : RE X Φ pa a) (hb : RE X Φ pb b) (hc : RE X Φ pc c) (hm : lastMarks [o1, o2] [pb, pc] = false) : RT X Φ (.Compare pa [o1, o2] [pb, pc] pos) (.chn o1 o2 a b c) := by
  intro ε r h Hi0 H0 Hi H σ Q I k
  simp only [testD] at h
  obtain ⟨rr, rr', ho, ho', hh⟩ := chain_ok hu ha hb hc h
  exact tUT_of (pt_chain ho ho' peU peU peU hm) (hh Hi0 H0 Hi H σ _ I fun Hi' H' s => ⟨r, rfl, k Hi' H' s⟩)
theorem r_ife (hc : RT X Φ pc c) (ha : RE X Φ pa a) (hb : RE X Φ pb b) : RE X Φ (.IfExp pc pa pb pos) (.ife c a b) := by
  intro ε r h Hi0 H0 Hi H σ Q I k
  simp only [evalD, Option.bind_eq_some_iff] at h
  obtain ⟨x, h1, h2⟩ := h
  refine tU_of (pe_ifExp ptU peU peU) (hc ε x h1 Hi0 H0 Hi H σ _ I fun Hi1 H1 s1 => ?_)
  cases x with
  | true =>
    rw [if_pos rfl]
    exact ha ε r h2 Hi0 H0 Hi1 H1 σ _ (I.step s1) fun Hi2 H2 z s2 o2 => k Hi2 H2 z (s1.trans s2) (o2.back s1.h)
  | false =>
    rw [if_neg (by decide)]
    exact hb ε r h2 Hi0 H0 Hi1 H1 σ _ (I.step s1) fun Hi2 H2 z s2 o2 => k Hi2 H2 z (s1.trans s2) (o2.back s1.h)
/-! subscripts -/
theorem atI_rep {K : PySem.W.Frag} {Hi : Hp} {xs : List D} {vs : List V} {i : Int} {d : D} (h : RepL K Hi xs vs) (e : atI xs i = some d) : ∃ v, atI vs i = some v ∧ Rep K Hi d v := by
  unfold atI at e ⊢
  rw [← h.length]
  simp only [Option.bind_eq_some_iff] at e ⊢
  obtain ⟨j, e1, e2⟩ := e
  obtain ⟨v, h1, h2⟩ := h.get e2
  exact ⟨v, ⟨j, e1, h1⟩, h2⟩
theorem ixD_ok {x y r : Vl} (h : ixD x.d y.d = some r) : ∃ rr, IxR X rr ∧ OpOk X.K rr x y r := by
  generalize ex : x.d = dx at h
  generalize ey : y.d = dy at h
  unfold ixD at h
  split at h
  · simp only [Option.map_eq_some_iff] at h
    obtain ⟨d, h1, rfl⟩ := h
    refine ⟨_, ix_list, fun _ Hi H u v Q e o1 o2 k => ?_⟩
    obtain ⟨p, vs, e1, e2, e3⟩ := o1.lst e ex
    obtain ⟨w, h3, h4⟩ := atI_rep e3 h1
    exact ⟨p, vs, _, w, e1, int_of o2 ey, SqL.of e2, h3, k Hi H w (Step.refl e) h4⟩
  · simp only [Option.map_eq_some_iff] at h
    obtain ⟨d, h1, rfl⟩ := h
    refine ⟨_, ix_tup, fun _ Hi H u v Q e o1 o2 k => ?_⟩
    obtain ⟨p, vs, e1, e2, e3⟩ := tup_of o1 ex
    obtain ⟨w, h3, h4⟩ := atI_rep e3 h1
    exact ⟨p, vs, _, w, e1, int_of o2 ey, SqT.of (e _ _ e2), h3, k Hi H w (Step.refl e) h4⟩
  · rename_i ns i
    simp only [Option.map_eq_some_iff] at h
    obtain ⟨n, h1, rfl⟩ := h
    refine ⟨_, ix_list, fun _ Hi H u v Q e o1 o2 k => ?_⟩
    obtain ⟨p, e1, e2⟩ := scr_of o1 ex
    have h3 : atI (List.map V.int ns) i = some (V.int n) := by
      unfold atI at h1 ⊢
      rw [List.length_map]
      simp only [Option.bind_eq_some_iff] at h1 ⊢
      obtain ⟨j, f1, f2⟩ := h1
      exact ⟨j, f1, by rw [List.getElem?_map, f2]; rfl⟩
    exact ⟨p, _, _, _, e1, int_of o2 ey, Evl.ex_l e e2, h3, k Hi H _ (Step.refl e) rfl⟩
  · cases h
theorem r_ix (ha : RE X Φ pa a) (hb : RE X Φ pb b) (hs : PlainIx pb) : RE X Φ (.Subscript pa pb pos) (.ix a b) := by
  intro ε r h Hi0 H0 Hi H σ Q I k
  simp only [evalD, Option.bind_eq_some_iff] at h
  obtain ⟨x, h1, y, h2, h3⟩ := h
  obtain ⟨rr, ho, hr⟩ := ixD_ok (X := X) h3
  refine tU_of (pe_ix ho peU peU hs) (two ha hb h1 h2 I fun Hi' H' u v s o1 o2 => hr _ _ _ _ _ _ s.s o1 o2 fun Hi2 H2 z s2 o3 => ?_)
  exact k Hi2 H2 z (s.trans s2) (o3.back s.h)
def tUO (X : Cx) (o : Option Expr) (t : TO) : Prop := PO X o t
def RO (X : Cx) (Φ : Fns) (po : Option Expr) (o : Epo) : Prop := ∃ t, PO X po t ∧ ∀ ε i, partD Φ o ε = some i → ∀ Hi0 H0 Hi H σ (Q : Option Int → Hp → Prop), EnvOk X.K Hi0 H0 Hi H σ ε →
  (∀ Hi' H', Step Hi H Hi' H' → Q i H') → t σ H Q
theorem o_no : RO X Φ none .no := ⟨_, po_none, fun ε i h Hi0 H0 Hi H σ Q I k => by
  simp only [partD, Option.some.injEq] at h
  subst h
  exact k Hi H (Step.refl I.st.s)⟩
theorem o_so (ha : RE X Φ pa a) : RO X Φ (some pa) (.so a) := ⟨_, po_some peU, fun ε i h Hi0 H0 Hi H σ Q I k => by
  simp only [partD, Option.bind_eq_some_iff] at h
  obtain ⟨x, h1, h2⟩ := h
  split at h2
  · rename_i j ex
    cases h2
    exact ha ε x h1 Hi0 H0 Hi H σ _ I fun Hi1 H1 u s1 o1 => ⟨j, int_of o1 ex, k Hi1 H1 s1⟩
  · cases h2⟩
theorem cut_rep {K : PySem.W.Frag} {Hi : Hp} {xs : List D} {vs : List V} {lo hi : Option Int} (h : RepL K Hi xs vs) : RepL K Hi (cutD xs lo hi) (cutV vs lo hi) := by
  unfold cutD cutV
  rw [← h.length]
  exact (h.drop _).take _
theorem r_sl {lo hi : Option Expr} {l h' : Epo} {p2 : Pos} (ha : RE X Φ pa a) (hl : RO X Φ lo l) (hh : RO X Φ hi h') : RE X Φ (.Subscript pa (.Slice lo hi none p2) pos) (.sl a l h') := by
  intro ε r h Hi0 H0 Hi H σ Q I k
  simp only [evalD, Option.bind_eq_some_iff] at h
  obtain ⟨x, h1, i, h2, j, h3, h4⟩ := h
  obtain ⟨tl, pl, kl⟩ := hl
  obtain ⟨th, ph, kh⟩ := hh
  generalize ex : x.d = dx at h4
  unfold slD at h4
  split at h4
  · cases h4
    refine tU_of (pe_slice sl_list peU pl ph) (ha ε x h1 Hi0 H0 Hi H σ _ I fun Hi1 H1 u s1 o1 => ?_)
    refine kl ε i h2 Hi0 H0 Hi1 H1 σ _ (I.step s1) fun Hi2 H2 s2 => ?_
    refine kh ε j h3 Hi0 H0 Hi2 H2 σ _ ((I.step s1).step s2) fun Hi3 H3 s3 => ?_
    obtain ⟨p, vs, e1, e2, e3⟩ := ((o1.step s2).step s3).lst s3.s ex
    refine ⟨p, vs, e1, SqL.of e2, fun q hq => k Hi3 _ _ (((s1.trans s2).trans s3).trans (Step.own s3.s hq)) ⟨q, _, rfl, upd_same, Evl.fresh_back s3.s hq, ((s1.trans s2).trans s3).fresh hq, _, rfl, cut_rep e3⟩⟩
  · cases h4
/-! argument lists and displays -/
theorem a_nil : RA X Φ [] .nil := fun ε rs h Hi0 H0 Hi H σ Q I k => by
  simp only [argsD, Option.some.injEq] at h
  subst h
  exact tUA_of pa_nil (k Hi H [] (Step.refl I.st.s) rfl)
theorem star_no {e : Expr} {es : List Expr} {env : PySem.Env} (h : isStar e = false) : starEach (e :: es) env = (false, eval e env) :: starEach es env := by
  cases e <;> first | rfl | cases h
theorem a_cons {pes : List Expr} {es : Eps} (ha : RE X Φ pa a) (hr : RA X Φ pes es) (hs : isStar pa = false) : RA X Φ (pa :: pes) (.cons a es) := fun ε rs h Hi0 H0 Hi H σ Q I k => by
  simp only [argsD, Option.bind_eq_some_iff, Option.map_eq_some_iff] at h
  obtain ⟨x, h1, ys, h2, rfl⟩ := h
  refine tUA_of (pa_cons peU paU (star_no hs)) (ha ε x h1 Hi0 H0 Hi H σ _ I fun Hi1 H1 u s1 o1 => ?_)
  have q : ∃ Hi2, Step Hi H Hi2 H1 ∧ ArgOk X.K Hi2 H1 x.argd u := by
    match x, o1 with
    | .sh d, o1 => exact ⟨Hi1, s1, o1⟩
    | .bo d, o1 => exact ⟨Hi1, s1, o1⟩
    | .fr d, ⟨p, o, e1, e2, e3, e4, e5⟩ =>
      subst e1
      exact ⟨_, s1.freeze e4 e2 e3, (e5.mono (Evl.Ex.new e3)).rep upd_same⟩
  obtain ⟨Hi2, s2, o2⟩ := q
  exact hr ε ys h2 Hi0 H0 Hi2 H1 σ _ (I.step s2) fun Hi3 H3 zs s3 o3 => k Hi3 H3 (u :: zs) (s2.trans s3) ⟨u, zs, rfl, o2.step s3, o3⟩
theorem k_nil : RK X Φ [] .nil := fun ε rs h Hi0 H0 Hi H σ Q I k => by
  simp only [keepsD, Option.some.injEq] at h
  subst h
  exact tUA_of pa_nil (k Hi H [] (Step.refl I.st.s) rfl)
theorem k_cons {pes : List Expr} {es : Eps} (ha : RE X Φ pa a) (hr : RK X Φ pes es) (hs : isStar pa = false) : RK X Φ (pa :: pes) (.cons a es) := fun ε rs h Hi0 H0 Hi H σ Q I k => by
  simp only [keepsD, Option.bind_eq_some_iff, Option.map_eq_some_iff] at h
  obtain ⟨x, h1, d, hd, ys, h2, rfl⟩ := h
  refine tUA_of (pa_cons peU paU (star_no hs)) (ha ε x h1 Hi0 H0 Hi H σ _ I fun Hi1 H1 u s1 o1 => ?_)
  obtain ⟨Hi2, _, s2, _, o2⟩ := o1.keep s1 hd
  exact hr ε ys h2 Hi0 H0 Hi2 H1 σ _ (I.step s2) fun Hi3 H3 zs s3 o3 => k Hi3 H3 (u :: zs) (s2.trans s3) ⟨u, zs, rfl, Rep.mono s3.i d u o2, o3⟩
theorem r_tup {pes : List Expr} {es : Eps} {x1 : Nat} (h : RK X Φ pes es) : RE X Φ (.Tuple pes x1 pos) (.tup es) := by
  intro ε r hh Hi0 H0 Hi H σ Q I k
  simp only [evalD, Option.bind_eq_some_iff] at hh
  obtain ⟨ds, h1, h2⟩ := hh
  split at h2
  · rename_i hl
    cases h2
    refine tU_of (pe_tup paU) (h ε ds h1 Hi0 H0 Hi H σ _ I fun Hi1 H1 xs s1 o1 => ⟨sz5 (by rw [← o1.length]; omega), fun p hp => ?_⟩)
    have s2 := Step.new (o := .tup xs) s1.s hp
    exact k _ _ _ (s1.trans s2) ⟨p, xs, rfl, upd_same, RepL.mono s2.i _ _ o1⟩
  · cases h2
theorem r_lst {pes : List Expr} {es : Eps} (h : RK X Φ pes es) : RE X Φ (.List pes pos) (.lst es) := by
  intro ε r hh Hi0 H0 Hi H σ Q I k
  simp only [evalD, Option.bind_eq_some_iff] at hh
  obtain ⟨ds, h1, h2⟩ := hh
  split at h2
  · rename_i hl
    cases h2
    refine tU_of (pe_lst paU) (h ε ds h1 Hi0 H0 Hi H σ _ I fun Hi1 H1 xs s1 o1 => ⟨sz5 (by rw [← o1.length]; omega), fun p hp => ?_⟩)
    exact k _ _ _ (s1.trans (Step.own s1.s hp)) ⟨p, _, rfl, upd_same, Evl.fresh_back s1.s hp, s1.fresh hp, xs, rfl, o1⟩
  · cases h2
end
end EF
namespace EF
open PySem L2

/-! ### the mathematics of max, min, sorted -/
theorem maxL_spec : ∀ ns : List Int, ns ≠ [] → maxL ns ∈ ns ∧ ∀ y ∈ ns, y ≤ maxL ns
  | [], h => absurd rfl h
  | [x], _ => ⟨by simp [maxL], by simp [maxL]⟩
  | x :: y :: r, _ => by
    obtain ⟨h1, h2⟩ := maxL_spec (y :: r) (by simp)
    have e : maxL (x :: y :: r) = max x (maxL (y :: r)) := rfl
    rw [e]
    refine ⟨?_, fun z hz => ?_⟩
    · by_cases c : x ≤ maxL (y :: r)
      · rw [Int.max_eq_right c]; exact List.mem_cons_of_mem _ h1
      · rw [Int.max_eq_left (by omega)]; exact List.mem_cons_self
    · rcases List.mem_cons.mp hz with rfl | hz
      · omega
      · have := h2 z hz; omega
theorem minL_spec : ∀ ns : List Int, ns ≠ [] → minL ns ∈ ns ∧ ∀ y ∈ ns, minL ns ≤ y
  | [], h => absurd rfl h
  | [x], _ => ⟨by simp [minL], by simp [minL]⟩
  | x :: y :: r, _ => by
    obtain ⟨h1, h2⟩ := minL_spec (y :: r) (by simp)
    have e : minL (x :: y :: r) = min x (minL (y :: r)) := rfl
    rw [e]
    refine ⟨?_, fun z hz => ?_⟩
    · by_cases c : x ≤ minL (y :: r)
      · rw [Int.min_eq_left c]; exact List.mem_cons_self
      · rw [Int.min_eq_right (by omega)]; exact List.mem_cons_of_mem _ h1
    · rcases List.mem_cons.mp hz with rfl | hz
      · omega
      · have := h2 z hz; omega
theorem leP_iff {p q : Int × Int} : leP p q = true ↔ (p.1 < q.1 ∨ (p.1 = q.1 ∧ p.2 ≤ q.2)) := by unfold leP; exact decide_eq_true_iff
theorem insP_perm (p : Int × Int) : ∀ l, (insP p l).Perm (p :: l)
  | [] => List.Perm.refl _
  | q :: r => by
    unfold insP
    split
    · exact List.Perm.refl _
    · exact ((insP_perm p r).cons q).trans (List.Perm.swap p q r)
theorem sortP_perm : ∀ l, (sortP l).Perm l
  | [] => List.Perm.refl _
  | p :: r => (insP_perm p (sortP r)).trans ((sortP_perm r).cons p)
theorem insP_sorted (p : Int × Int) : ∀ l : List (Int × Int), l.Pairwise (fun a b => leP a b = true) → (insP p l).Pairwise (fun a b => leP a b = true)
  | [], _ => List.pairwise_singleton _ _
  | q :: r, h => by
    unfold insP
    obtain ⟨h1, h2⟩ := List.pairwise_cons.mp h
    split
    · rename_i c
      refine List.pairwise_cons.mpr ⟨fun z hz => ?_, h⟩
      rcases List.mem_cons.mp hz with rfl | hz
      · exact c
      · have := leP_iff.mp (h1 z hz)
        have := leP_iff.mp c
        exact leP_iff.mpr (by omega)
    · rename_i c
      refine List.pairwise_cons.mpr ⟨fun z hz => ?_, insP_sorted p r h2⟩
      rcases List.mem_cons.mp ((insP_perm p r).mem_iff.mp hz) with rfl | hz
      · have c' : ¬ (z.1 < q.1 ∨ (z.1 = q.1 ∧ z.2 ≤ q.2)) := fun k => c (leP_iff.mpr k)
        exact leP_iff.mpr (by omega)
      · exact h1 z hz
theorem sortP_sorted : ∀ l, (sortP l).Pairwise (fun a b => leP a b = true)
  | [] => List.Pairwise.nil
  | p :: r => insP_sorted p _ (sortP_sorted r)
theorem sortP_uniq {l m : List (Int × Int)} (hp : l.Perm m) (hs : l.Pairwise (fun a b => leP a b = true)) : l = sortP m := by
  refine List.Perm.eq_of_pairwise (fun a b _ _ h1 h2 => ?_) hs (sortP_sorted m) (hp.trans (sortP_perm m).symm)
  have := leP_iff.mp h1
  have := leP_iff.mp h2
  exact Prod.ext (by omega) (by omega)

section
variable {K : PySem.W.Frag} {Hi H : Hp}
theorem intsOf_some : ∀ {ds : List D} {ns : List Int}, intsOf ds = some ns → ds = ns.map D.int
  | [], ns, h => by cases h; rfl
  | .int i :: r, ns, h => by
    simp only [intsOf, Option.map_eq_some_iff] at h
    obtain ⟨ms, h1, rfl⟩ := h
    rw [intsOf_some h1]; rfl
  | .non :: r, ns, h => by cases h
  | .bl _ :: r, ns, h => by cases h
  | .str _ :: r, ns, h => by cases h
  | .lst _ :: r, ns, h => by cases h
  | .tup _ :: r, ns, h => by cases h
  | .scr _ :: r, ns, h => by cases h
theorem intsOf_map : ∀ ns : List Int, intsOf (ns.map D.int) = some ns
  | [] => rfl
  | n :: ns => by simp [intsOf, intsOf_map ns]
theorem blsOf_some : ∀ {ds : List D} {ns : List Bool}, blsOf ds = some ns → ds = ns.map D.bl
  | [], ns, h => by cases h; rfl
  | .bl i :: r, ns, h => by
    simp only [blsOf, Option.map_eq_some_iff] at h
    obtain ⟨ms, h1, rfl⟩ := h
    rw [blsOf_some h1]; rfl
  | .non :: r, ns, h => by cases h
  | .int _ :: r, ns, h => by cases h
  | .str _ :: r, ns, h => by cases h
  | .lst _ :: r, ns, h => by cases h
  | .tup _ :: r, ns, h => by cases h
  | .scr _ :: r, ns, h => by cases h
theorem blsOf_map : ∀ ns : List Bool, blsOf (ns.map D.bl) = some ns
  | [] => rfl
  | n :: ns => by simp [blsOf, blsOf_map ns]
theorem RepL.bls : ∀ {ns : List Bool} {vs : List V}, RepL K H (ns.map D.bl) vs → vs = ns.map V.bl
  | [], _, h => by cases h; rfl
  | n :: ns, _, h => by
    obtain ⟨v, vs', rfl, h2, h3⟩ := h
    have h2 : v = .bl n := h2
    rw [h2, RepL.bls h3]; rfl
theorem pairsOf_some : ∀ {ds : List D} {ps : List (Int × Int)}, pairsOf ds = some ps → ds = ps.map pairD
  | [], ps, h => by cases h; rfl
  | d :: r, ps, h => by
    unfold pairsOf at h
    split at h
    · rename_i heq; cases heq
    · rename_i i j r' heq
      cases heq
      simp only [Option.map_eq_some_iff] at h
      obtain ⟨qs, h1, rfl⟩ := h
      rw [pairsOf_some h1]; rfl
    · cases h
theorem pairsOf_map : ∀ ps : List (Int × Int), pairsOf (ps.map pairD) = some ps
  | [] => rfl
  | p :: ps => by simp [pairsOf, pairD, pairsOf_map ps]
/-- the two ints at an address -/
def kOf (H : Hp) : V → Int × Int
  | .ref t => (match H t with | some (.tup [.int i, .int j]) => (i, j) | _ => (0, 0))
  | _ => (0, 0)
theorem pair_at {p : Int × Int} {v : V} (e : Ex Hi H) (h : Rep K Hi (pairD p) v) : ∃ t, v = .ref t ∧ H t = some (.tup [.int (kOf H v).1, .int (kOf H v).2]) ∧ kOf H v = p := by
  obtain ⟨a, vs, rfl, h2, h3⟩ := h
  obtain ⟨x, vs1, rfl, h4, y, vs2, rfl, h5, h6⟩ := h3
  cases (show vs2 = [] from h6)
  cases (show x = .int p.1 from h4)
  cases (show y = .int p.2 from h5)
  have q : kOf H (.ref a) = p := by
    show (match H a with | some (.tup [.int i, .int j]) => (i, j) | _ => (0, 0)) = p
    rw [e _ _ h2]
  refine ⟨a, rfl, ?_, q⟩
  rw [q]
  exact e _ _ h2
theorem pairs_at (e : Ex Hi H) : ∀ {ps : List (Int × Int)} {vs : List V}, RepL K Hi (ps.map pairD) vs → vs.map (kOf H) = ps ∧ ∀ x ∈ vs, (∃ t, x = .ref t ∧ H t = some (.tup [.int (kOf H x).1, .int (kOf H x).2])) ∧ Rep K Hi (pairD (kOf H x)) x
  | [], vs, h => by cases (show vs = [] from h); exact ⟨rfl, fun x hx => nomatch hx⟩
  | p :: ps, vs, h => by
    obtain ⟨v, vs', rfl, h2, h3⟩ := h
    obtain ⟨t, e1, e2, e3⟩ := pair_at e h2
    obtain ⟨h4, h5⟩ := pairs_at e h3
    refine ⟨by rw [List.map_cons, h4, e3], fun x hx => ?_⟩
    rcases List.mem_cons.mp hx with rfl | hx
    · exact ⟨⟨t, e1, e2⟩, by rw [e3]; exact h2⟩
    · exact h5 x hx
theorem rep_pairs : ∀ {vs : List V}, (∀ x ∈ vs, Rep K Hi (pairD (kOf H x)) x) → RepL K Hi ((vs.map (kOf H)).map pairD) vs
  | [], _ => rfl
  | v :: vs, h => ⟨v, vs, rfl, h v List.mem_cons_self, rep_pairs fun x hx => h x (List.mem_cons_of_mem _ hx)⟩
end
/-! ### built-ins -/
def biV : BI → Value
  | .len => .builtin "len" | .int => .type "int" | .list => .type "list" | .tuple => .type "tuple" | .max => .builtin "max" | .min => .builtin "min"
  | .abs => .builtin "abs" | .sum => .builtin "sum" | .any => .builtin "any" | .all => .builtin "all" | .sorted => .builtin "sorted"
theorem biName_boot {x : Str} {b : BI} (h : biName x = some b) : bootBuiltins x = some (biV b) := by
  unfold biName at h
  repeat' split at h
  all_goals first
    | (cases h; done)
    | (rename_i hx; cases h; rw [hx]; decide +kernel)
section
variable {X : Cx} {Φ : Fns} {pe pa pb pc : Expr} {a b c : Ep} {pos : Pos}
def CallOk (K : PySem.W.Frag) (rr : List V → Hp → VK → Prop) (as : List Vl) (r : Vl) : Prop := ∀ Hi H vs (Q : VK), Ex Hi H → ArgsOk K Hi H as vs → (∀ Hi' H' z, Step Hi H Hi' H' → VlOk K H Hi' H' r z → Q z H') → rr vs H Q
theorem args1 {K : PySem.W.Frag} {Hi H : Hp} {x : Vl} {vs : List V} (h : ArgsOk K Hi H [x] vs) : ∃ u, vs = [u] ∧ VlOk K H Hi H x u := by
  obtain ⟨u, ys, rfl, h1, h2⟩ := h
  cases (show ys = [] from h2)
  exact ⟨u, rfl, h1.vl⟩
theorem args2 {K : PySem.W.Frag} {Hi H : Hp} {x y : Vl} {vs : List V} (h : ArgsOk K Hi H [x, y] vs) : ∃ u v, vs = [u, v] ∧ VlOk K H Hi H x u ∧ VlOk K H Hi H y v := by
  obtain ⟨u, ys, rfl, h1, v, zs, rfl, h2, h3⟩ := h
  cases (show zs = [] from h3)
  exact ⟨u, v, rfl, h1.vl, h2.vl⟩
theorem biD_ok (hc : X.calm = true) {b : BI} {as : List Vl} {r : Vl} (h : biD b as = some r) : ∃ rr, CallR X (biV b) rr ∧ CallOk X.K rr as r := by
  unfold biD at h
  split at h
  · split at h
    · rename_i x ys ex
      cases h
      refine ⟨_, call_len_seq, fun Hi H vs Q e ha k => ?_⟩
      obtain ⟨u, rfl, o⟩ := args1 ha
      obtain ⟨p, ws, rfl, e2, e3⟩ := o.lst e ex
      refine ⟨p, ws, rfl, .inl (SqL.of e2), ?_⟩
      rw [← e3.length]
      exact k Hi H _ (Step.refl e) rfl
    · rename_i x ys ex
      cases h
      refine ⟨_, call_len_seq, fun Hi H vs Q e ha k => ?_⟩
      obtain ⟨u, rfl, o⟩ := args1 ha
      obtain ⟨p, ws, rfl, e2, e3⟩ := tup_of o ex
      refine ⟨p, ws, rfl, .inr (SqT.of (e _ _ e2)), ?_⟩
      rw [← e3.length]
      exact k Hi H _ (Step.refl e) rfl
    · rename_i x ns ex
      cases h
      refine ⟨_, call_len_seq, fun Hi H vs Q e ha k => ?_⟩
      obtain ⟨u, rfl, o⟩ := args1 ha
      obtain ⟨p, rfl, e2⟩ := scr_of o ex
      refine ⟨p, _, rfl, .inl (Evl.ex_l e e2), ?_⟩
      rw [List.length_map]
      exact k Hi H _ (Step.refl e) rfl
    · cases h
  · split at h
    · rename_i x i ex
      cases h
      refine ⟨_, call_int1, fun Hi H vs Q e ha k => ?_⟩
      obtain ⟨u, rfl, o⟩ := args1 ha
      rw [int_of o ex]
      exact .inl ⟨_, rfl, k Hi H _ (Step.refl e) rfl⟩
    · rename_i x i ex
      cases h
      refine ⟨_, call_int1, fun Hi H vs Q e ha k => ?_⟩
      obtain ⟨u, rfl, o⟩ := args1 ha
      rw [bl_of o ex]
      exact .inr ⟨_, rfl, k Hi H _ (Step.refl e) rfl⟩
    · cases h
  · split at h
    · rename_i x ys ex
      cases h
      refine ⟨_, call_list_of, fun Hi H vs Q e ha k => ?_⟩
      obtain ⟨u, rfl, o⟩ := args1 ha
      obtain ⟨p, ws, rfl, e2, e3⟩ := o.lst e ex
      exact ⟨p, ws, rfl, .inl (SqL.of e2), fun l hl => k Hi _ _ (Step.own e hl) ⟨l, _, rfl, upd_same, Evl.fresh_back e hl, hl, ws, rfl, e3⟩⟩
    · rename_i x ys ex
      cases h
      refine ⟨_, call_list_of, fun Hi H vs Q e ha k => ?_⟩
      obtain ⟨u, rfl, o⟩ := args1 ha
      obtain ⟨p, ws, rfl, e2, e3⟩ := tup_of o ex
      exact ⟨p, ws, rfl, .inr (SqT.of (e _ _ e2)), fun l hl => k Hi _ _ (Step.own e hl) ⟨l, _, rfl, upd_same, Evl.fresh_back e hl, hl, ws, rfl, e3⟩⟩
    · cases h
  · split at h
    · rename_i x ys ex
      cases h
      refine ⟨_, call_tuple_of, fun Hi H vs Q e ha k => ?_⟩
      obtain ⟨u, rfl, o⟩ := args1 ha
      obtain ⟨p, ws, rfl, e2, e3⟩ := o.lst e ex
      refine ⟨p, ws, rfl, .inl ⟨SqL.of e2, fun l hl => ?_⟩⟩
      have s := Step.new (o := .tup ws) e hl
      exact k _ _ _ s ⟨l, ws, rfl, upd_same, RepL.mono s.i _ _ e3⟩
    · rename_i x ys ex
      cases h
      refine ⟨_, call_tuple_of, fun Hi H vs Q e ha k => ?_⟩
      obtain ⟨u, rfl, o⟩ := args1 ha
      obtain ⟨p, ws, rfl, e2, e3⟩ := tup_of o ex
      exact ⟨p, ws, rfl, .inr ⟨SqT.of (e _ _ e2), k Hi H _ (Step.refl e) ⟨p, ws, rfl, e2, e3⟩⟩⟩
    · cases h
  · split at h
    · rename_i x i ex
      cases h
      refine ⟨_, call_abs, fun Hi H vs Q e ha k => ?_⟩
      obtain ⟨u, rfl, o⟩ := args1 ha
      rw [int_of o ex]
      exact ⟨_, rfl, k Hi H _ (Step.refl e) rfl⟩
    · cases h
  · split at h
    · rename_i x y i j ex ey
      cases h
      refine ⟨_, call_max2 hc, fun Hi H vs Q e ha k => ?_⟩
      obtain ⟨u, v, rfl, o1, o2⟩ := args2 ha
      rw [int_of o1 ex, int_of o2 ey]
      refine ⟨_, _, rfl, ?_⟩
      have z : (if j > i then j else i) = max i j := by split <;> omega
      rw [z]
      exact k Hi H _ (Step.refl e) rfl
    · cases h
  · split at h
    · rename_i x y i j ex ey
      cases h
      refine ⟨_, call_min2 hc, fun Hi H vs Q e ha k => ?_⟩
      obtain ⟨u, v, rfl, o1, o2⟩ := args2 ha
      rw [int_of o1 ex, int_of o2 ey]
      refine ⟨_, _, rfl, ?_⟩
      have z : (if j < i then j else i) = min i j := by split <;> omega
      rw [z]
      exact k Hi H _ (Step.refl e) rfl
    · cases h
  · split at h
    · rename_i x ys ex
      simp only [Option.bind_eq_some_iff] at h
      obtain ⟨ns, h1, h2⟩ := h
      split at h2
      · rename_i hn
        cases h2
        have q := intsOf_some h1
        subst q
        refine ⟨_, cr_max hc, fun Hi H vs Q e ha k => ?_⟩
        obtain ⟨u, rfl, o⟩ := args1 ha
        obtain ⟨p, ws, rfl, e2, e3⟩ := o.lst e ex
        refine ⟨p, ns, rfl, ?_, hn, fun m hm hle => ?_⟩
        · rw [RepL.ints e3] at e2; exact SqL.of e2
        · obtain ⟨s1, s2⟩ := maxL_spec ns (by intro z; rw [z] at hn; exact absurd hn (by decide))
          have z : m = maxL ns := by have := s2 m hm; have := hle _ s1; omega
          rw [z]
          exact k Hi H _ (Step.refl e) rfl
      · cases h2
    · cases h
  · split at h
    · rename_i x ys ex
      simp only [Option.bind_eq_some_iff] at h
      obtain ⟨ns, h1, h2⟩ := h
      split at h2
      · rename_i hn
        cases h2
        have q := intsOf_some h1
        subst q
        refine ⟨_, cr_min hc, fun Hi H vs Q e ha k => ?_⟩
        obtain ⟨u, rfl, o⟩ := args1 ha
        obtain ⟨p, ws, rfl, e2, e3⟩ := o.lst e ex
        refine ⟨p, ns, rfl, ?_, hn, fun m hm hle => ?_⟩
        · rw [RepL.ints e3] at e2; exact SqL.of e2
        · obtain ⟨s1, s2⟩ := minL_spec ns (by intro z; rw [z] at hn; exact absurd hn (by decide))
          have z : m = minL ns := by have := s2 m hm; have := hle _ s1; omega
          rw [z]
          exact k Hi H _ (Step.refl e) rfl
      · cases h2
    · cases h
  · split at h
    · rename_i x ys ex
      simp only [Option.bind_eq_some_iff] at h
      obtain ⟨ns, h1, h2⟩ := h
      cases h2
      have q := intsOf_some h1
      subst q
      refine ⟨_, cr_sum hc, fun Hi H vs Q e ha k => ?_⟩
      obtain ⟨u, rfl, o⟩ := args1 ha
      obtain ⟨p, ws, rfl, e2, e3⟩ := o.lst e ex
      rw [RepL.ints e3] at e2
      exact ⟨p, ns, rfl, SqL.of e2, k Hi H _ (Step.refl e) rfl⟩
    · cases h
  · split at h
    · rename_i x ys ex
      simp only [Option.bind_eq_some_iff] at h
      obtain ⟨ns, h1, h2⟩ := h
      cases h2
      have q := blsOf_some h1
      subst q
      refine ⟨_, cr_any hc, fun Hi H vs Q e ha k => ?_⟩
      obtain ⟨u, rfl, o⟩ := args1 ha
      obtain ⟨p, ws, rfl, e2, e3⟩ := o.lst e ex
      rw [RepL.bls e3] at e2
      exact ⟨p, ns, rfl, SqL.of e2, k Hi H _ (Step.refl e) rfl⟩
    · cases h
  · split at h
    · rename_i x ys ex
      simp only [Option.bind_eq_some_iff] at h
      obtain ⟨ns, h1, h2⟩ := h
      cases h2
      have q := blsOf_some h1
      subst q
      refine ⟨_, cr_all hc, fun Hi H vs Q e ha k => ?_⟩
      obtain ⟨u, rfl, o⟩ := args1 ha
      obtain ⟨p, ws, rfl, e2, e3⟩ := o.lst e ex
      rw [RepL.bls e3] at e2
      exact ⟨p, ns, rfl, SqL.of e2, k Hi H _ (Step.refl e) rfl⟩
    · cases h
  · split at h
    · rename_i x ys ex
      simp only [Option.bind_eq_some_iff] at h
      obtain ⟨ps, h1, h2⟩ := h
      cases h2
      have q := pairsOf_some h1
      subst q
      refine ⟨_, cr_sortedPO, fun Hi H vs Q e ha k => ?_⟩
      obtain ⟨u, rfl, o⟩ := args1 ha
      obtain ⟨p, ws, rfl, e2, e3⟩ := o.lst e ex
      obtain ⟨m1, m2⟩ := pairs_at e e3
      refine ⟨p, ws, kOf H, rfl, SqL.of e2, fun x hx => (m2 x hx).1, fun ys l hs hb hl => ?_⟩
      have pm : (ys.map (kOf H)).Perm ps := by rw [← m1]; exact hb.perm.map _
      have so : (ys.map (kOf H)).Pairwise (fun a b => leP a b = true) := by
        refine List.pairwise_map.mpr (hs.imp fun {a b} z => ?_)
        have z' : SrtO.lexB (kOf H b) (kOf H a) = false := z
        have z2 := SrtO.lexB_no.mp z'
        exact leP_iff.mpr (by omega)
      have eq := sortP_uniq pm so
      have rl : RepL X.K Hi ((sortP ps).map pairD) ys := by
        rw [← eq]
        exact rep_pairs fun x hx => (m2 x (hb.perm.mem_iff.mp hx)).2
      exact k Hi _ _ (Step.own e hl) ⟨l, _, rfl, upd_same, Evl.fresh_back e hl, hl, ys, rfl, rl⟩
    · cases h
  · cases h
end
end EF
namespace EF
open PySem L2

section
variable {X : Cx} {Φ : Fns} {pe pa pb pc : Expr} {a b c : Ep} {pos : Pos}
def noStars (es : List Expr) : Bool := es.all fun e => !isStar e
theorem stars_no {env : PySem.Env} : ∀ {es : List Expr}, noStars es = true → (backTo pos (starEach es env)).any (·.1) = false
  | [], _ => rfl
  | e :: es, h => by
    unfold noStars at h
    rw [List.all_cons, Bool.and_eq_true] at h
    have h1 : isStar e = false := by simpa using h.1
    rw [star_no h1]
    show (false || (backTo pos (starEach es env)).any (·.1)) = false
    rw [Bool.false_or]
    exact stars_no h.2
/-! calls -/
theorem r_bi (hc : X.calm = true) {x : Str} {bi : BI} {e : Expr} {es : List Expr} {as : Eps} {p : Pos} (hb : biName x = some bi) (hg : Gl X x) (hm : X.mg x = none) (hx : x ≠ "__name__") (hd : (x == ("__debug__" : Str)) = false) (hs : noStars (e :: es) = true)
    (ha : RA X Φ (e :: es) as) : RE X Φ (.Call (.Name x p) (e :: es) [] pos) (.bi bi as) := by
  intro ε r h Hi0 H0 Hi H σ Q I k
  simp only [evalD, Option.bind_eq_some_iff] at h
  obtain ⟨rs, h1, h2⟩ := h
  obtain ⟨rr, ho, hr⟩ := biD_ok hc h2
  have bt := biName_boot hb
  have s1 : isStar e = false := by
    unfold noStars at hs
    rw [List.all_cons, Bool.and_eq_true] at hs
    simpa using hs.1
  have s2 : noStars es = true := by
    unfold noStars at hs ⊢
    rw [List.all_cons, Bool.and_eq_true] at hs
    exact hs.2
  have go : tCB rr (tUA X (e :: es)) σ H Q := ha ε rs h1 Hi0 H0 Hi H σ _ I fun Hi' H' xs s o => hr _ _ _ _ s.s o fun Hi2 H2 z s3 o3 => k Hi2 H2 z (s.trans s3) (o3.back s.h)
  cases bi <;> first
    | exact tU_of (pe_callB ho hg hm bt paU hx hd (star_no s1) (stars_no s2)) go
    | exact tU_of (pe_callTy ho hg hm bt paU hx hd (star_no s1) (stars_no s2)) go
/-- what a def promises: it gives what φ gives -/
def spD (K : PySem.W.Frag) (φ : List Vl → Option Vl) (n : Nat) : Sp := fun vs H Q _ => vs.length = n ∧ ∃ Hi as r, φ as = some r ∧ Ex Hi H ∧ ArgsOk K Hi H as vs ∧ ∀ Hi' H' x, Step Hi H Hi' H' → VlOk K H Hi' H' r x → Q x H'
theorem ArgsOk.length {K : PySem.W.Frag} {Hi H : Hp} : ∀ {as : List Vl} {xs : List V}, ArgsOk K Hi H as xs → as.length = xs.length
  | [], _, h => by cases (show _ = [] from h); rfl
  | r :: rs, _, h => by
    obtain ⟨x, ys, rfl, _, h3⟩ := h
    simp [ArgsOk.length h3]
structure FnI (X : Cx) (φ : List Vl → Option Vl) (x : Str) : Prop where
  ex : ∃ (k : Nat) (fa : Addr) (fd : FuncData) (ps : List Str), X.mg x = some (.ref fa) ∧ PySem.W.keepIn X.K (.ref fa) = true ∧ Binds X.K fd ps [] ∧ Room k X.A ∧ FnOk X.prog X.w X.K X.mg X.base CX0 k fa fd ps (spD X.K φ ps.length) ∧ ∀ as r, φ as = some r → as.length = ps.length
theorem r_call {x : Str} {f : Nat} {e : Expr} {es : List Expr} {as : Eps} {p : Pos} (F : FnI X (Φ f) x) (hg : Gl X x) (hd : (x == ("__debug__" : Str)) = false) (hs : noStars (e :: es) = true)
    (ha : RA X Φ (e :: es) as) : RE X Φ (.Call (.Name x p) (e :: es) [] pos) (.call f as) := by
  intro ε r h Hi0 H0 Hi H σ Q I k
  simp only [evalD, Option.bind_eq_some_iff] at h
  obtain ⟨rs, h1, h2⟩ := h
  obtain ⟨lv, fa, fd, ps, hm, hk, hb, hr, F, hl⟩ := F.ex
  have s1 : isStar e = false := by
    unfold noStars at hs
    rw [List.all_cons, Bool.and_eq_true] at hs
    simpa using hs.1
  have s2 : noStars es = true := by
    unfold noStars at hs ⊢
    rw [List.all_cons, Bool.and_eq_true] at hs
    exact hs.2
  refine tU_of (pe_call F hr hg hm hk hb .nil pass0 paU hd (star_no s1) (stars_no s2)) (ha ε rs h1 Hi0 H0 Hi H σ _ I fun Hi' H' xs s o => ?_)
  rw [List.append_nil]
  exact ⟨by rw [← o.length]; exact hl rs r h2, Hi', rs, r, h2, s.s, o, fun Hi2 H2 z s3 o3 => k Hi2 H2 z (s.trans s3) (o3.back s.h)⟩
/-! isinstance -/
def tyNS : TyN → String
  | .int => "int" | .bool => "bool" | .list => "list" | .tuple => "tuple" | .str => "str"
def tyD : D → String
  | .non => "NoneType" | .bl _ => "bool" | .int _ => "int" | .str _ => "str" | .lst _ => "list" | .tup _ => "tuple" | .scr _ => "list"
theorem isi_kit {t : TyN} {d : D} {b : Bool} (h : isiD t d = some b) : kitB (tyD d) (tyNS t) = some b := by
  cases d <;> cases t <;> simp only [isiD, Option.some.injEq] at h <;> first | (cases h; done) | (subst h; simp only [tyD, tyNS]; decide +kernel)
theorem tyName_boot {x : Str} {t : TyN} (h : tyName x = some t) : bootBuiltins x = some (.type (tyNS t)) := by
  unfold tyName at h
  repeat' split at h
  all_goals first
    | (cases h; done)
    | (rename_i hx; cases h; rw [hx]; decide +kernel)
theorem ty_of {K : PySem.W.Frag} {Hp0 Hi H : Hp} {r : Vl} {x : V} (e : Ex Hi H) (h : VlOk K Hp0 Hi H r x) (hn : ∀ ns, r.d ≠ .scr ns) : TyX K H x (.type (tyD r.d)) := by
  generalize er : r.d = d at hn
  cases d with
  | non => rw [non_of h er]; exact .base .non
  | bl b => rw [bl_of h er]; exact .base (.bl b)
  | int b => rw [int_of h er]; exact .base (.int b)
  | str b => rw [str_of h er]; exact .base (.str b)
  | lst xs => obtain ⟨p, vs, rfl, h2, _⟩ := h.lst e er; exact .base (.lst h2)
  | tup xs => obtain ⟨p, vs, rfl, h2, _⟩ := tup_of h er; exact .base (.tup (e _ _ h2))
  | scr ns => exact absurd rfl (hn ns)
theorem r_isi {t : Str} {ty : TyN} {p p2 : Pos} (ht : tyName t = some ty) (hg : Gl X "isinstance") (hm : X.mg "isinstance" = none) (hg2 : Gl X t) (hm2 : X.mg t = none) (htn : t ≠ "__name__") (htd : (t == ("__debug__" : Str)) = false) (hs : isStar pa = false)
    (ha : RE X Φ pa a) : RE X Φ (.Call (.Name "isinstance" p) [pa, .Name t p2] [] pos) (.isi ty a) := by
  intro ε r h Hi0 H0 Hi H σ Q I k
  simp only [evalD, Option.bind_eq_some_iff, Option.map_eq_some_iff] at h
  obtain ⟨x, h1, b, h2, rfl⟩ := h
  refine tU_of (pe_callB call_isi hg hm (by decide +kernel) (pa_cons peU (pa_cons (pe_bltn (v := .ty (tyNS ty)) hg2 hm2 (tyName_boot ht) rfl htn htd) pa_nil) (star_no hs)) (by decide) (by decide) (star_no hs) rfl)
    (ha ε x h1 Hi0 H0 Hi H σ _ I fun Hi1 H1 u s1 o1 => ?_)
  refine ⟨u, .ty (tyNS ty), .type (tyD x.d), .type (tyNS ty), b, rfl, .ty _, ty_of s1.s o1 (fun ns z => by rw [z] at h2; cases ty <;> cases h2), kit_ty (isi_kit h2), k Hi1 H1 _ s1 rfl⟩
theorem t_isi {t : Str} {ty : TyN} {p p2 : Pos} (ht : tyName t = some ty) (hg : Gl X "isinstance") (hm : X.mg "isinstance" = none) (hg2 : Gl X t) (hm2 : X.mg t = none) (htn : t ≠ "__name__") (htd : (t == ("__debug__" : Str)) = false) (hs : isStar pa = false)
    (ha : RE X Φ pa a) : RT X Φ (.Call (.Name "isinstance" p) [pa, .Name t p2] [] pos) (.isi ty a) :=
  t_truth (fun _ => rfl) (r_isi ht hg hm hg2 hm2 htn htd hs ha) fun ε => by
    simp only [testD, evalD]
    cases evalD Φ a ε with
    | none => rfl
    | some x => simp only [Option.bind_some]; cases isiD ty x.d <;> rfl
/-! list(range(n)) -/
theorem range_rep {K : PySem.W.Frag} {Hi : Hp} (lo hi : Int) : RepL K Hi (rangeD lo hi) (rgV lo hi) := by
  unfold rangeD rgV
  generalize (hi - lo).toNat = n
  induction n with
  | zero => rfl
  | succ n ih =>
    rw [List.range_succ, List.map_append, List.map_append]
    exact ih.append (RepL.cons (show Rep K Hi (.int _) (.int _) from rfl) RepL.nil)
theorem r_lrg (hc : X.calm = true) {p p2 pos2 : Pos} (hg : Gl X "list") (hm : X.mg "list" = none) (hg2 : Gl X "range") (hm2 : X.mg "range" = none) (hs : isStar pa = false) (ha : RE X Φ pa a) :
    RE X Φ (.Call (.Name "list" p) [.Call (.Name "range" p2) [pa] [] pos2] [] pos) (.lrg a) := by
  intro ε r h Hi0 H0 Hi H σ Q I k
  simp only [evalD, Option.bind_eq_some_iff] at h
  obtain ⟨x, h1, h2⟩ := h
  split at h2
  · rename_i n ex
    split at h2
    · rename_i hn
      cases h2
      refine tU_of (pe_listRg hc hg hm (prg_1 hg2 hm2 peU (star_no hs))) (ha ε x h1 Hi0 H0 Hi H σ _ I fun Hi1 H1 u s1 o1 => ⟨n, int_of o1 ex, RgOk.of_le (by omega) (by omega) (by omega) (by omega), fun q hq => ?_⟩)
      exact k Hi1 _ _ (s1.trans (Step.own s1.s hq)) ⟨q, _, rfl, upd_same, Evl.fresh_back s1.s hq, s1.fresh hq, _, rfl, range_rep 0 n⟩
    · cases h2
  · cases h2
end

/-! ### walks -/
structure Wk (K : PySem.W.Frag) (J : L2.It) (Hi1 : Hp) (G : Hp → Prop) (xs : List D) : Prop where
  go : ∀ i H, i < xs.length → G H → J.go i H
  yld : ∀ i H x H', G H → i < xs.length → J.yld i H x H' → H' = H ∧ ∃ d, xs[i]? = some d ∧ Rep K Hi1 d x
  stop : ∀ H, G H → J.stop xs.length H
section
variable {K : PySem.W.Frag} {Hi1 : Hp} {G : Hp → Prop}
theorem wk_list {p : Addr} {xs : List D} {vs : List V} (hG : ∀ H, G H → SqL K H p vs) (hr : RepL K Hi1 xs vs) : Wk K (Itl K p) Hi1 G xs := by
  have hl := hr.length
  refine ⟨fun i H hi g => ⟨vs, vs[i]'(by omega), hG H g, by simp [show i < vs.length by omega]⟩, fun i H x H' g hi y => ?_, fun H g => ⟨vs, hG H g, by omega⟩⟩
  obtain ⟨e, y⟩ := y
  obtain ⟨d, h1, h2⟩ := hr.get' (y vs (hG H g))
  exact ⟨e, d, h1, h2⟩
theorem wk_tup {p : Addr} {xs : List D} {vs : List V} (hG : ∀ H, G H → SqT K H p vs) (hr : RepL K Hi1 xs vs) : Wk K (Itt K p) Hi1 G xs := by
  have hl := hr.length
  refine ⟨fun i H hi g => ⟨vs, vs[i]'(by omega), hG H g, by simp [show i < vs.length by omega]⟩, fun i H x H' g hi y => ?_, fun H g => ⟨vs, hG H g, by omega⟩⟩
  obtain ⟨e, y⟩ := y
  obtain ⟨d, h1, h2⟩ := hr.get' (y vs (hG H g))
  exact ⟨e, d, h1, h2⟩
theorem rangeD_length (lo hi : Int) : (rangeD lo hi).length = (hi - lo).toNat := by unfold rangeD; simp
theorem wk_range {lo hi : Int} : Wk K (Itr lo (hi - lo).toNat) Hi1 G (rangeD lo hi) := by
  refine ⟨fun i H hi' g => by rw [rangeD_length] at hi'; exact hi', fun i H x H' g hi' y => ?_, fun H g => by rw [rangeD_length]; exact Nat.le_refl _⟩
  obtain ⟨e, y⟩ := y
  rw [rangeD_length] at hi'
  subst y
  refine ⟨e, .int (lo + i), ?_, rfl⟩
  unfold rangeD
  rw [List.getElem?_map, List.getElem?_range hi']
  rfl
theorem for_wk {J : L2.It} {xs : List D} {g : TG} {tb : TS} {Dn : Ends} {σ : L2.St} {H : Hp} (w : Wk K J Hi1 G xs) (Pv : Nat → L2.St → Hp → Prop) (h0 : Pv 0 σ H) (hG : ∀ i σ H, Pv i σ H → G H)
    (hs : ∀ i d x σ H, xs[i]? = some d → Rep K Hi1 d x → Pv i σ H → g x σ H fun σ2 H2 => tb { Dn with nx := Pv (i + 1), ct := Pv (i + 1), bk := Dn.nx } σ2 H2) (hd : ∀ σ H, Pv xs.length σ H → Dn.nx σ H) :
    ∃ W : Nat → Nat → L2.St → Hp → Prop, (∃ m, W 0 m σ H) ∧ ∀ i m σ H, W i m σ H →
      (J.stop i H ∧ Dn.nx σ H) ∨ (J.go i H ∧ ∃ N : L2.St → Hp → Prop, (∀ σ' H', N σ' H' → ∃ m', m' < m ∧ W (i + 1) m' σ' H') ∧ ∀ x H', J.yld i H x H' → g x σ H' fun σ2 H2 => tb { Dn with nx := N, ct := N, bk := Dn.nx } σ2 H2) := by
  refine ⟨fun i m σ H => m = xs.length - i ∧ i ≤ xs.length ∧ Pv i σ H, ⟨xs.length, by simp, Nat.zero_le _, h0⟩, ?_⟩
  rintro i m σ H ⟨rfl, hi, p⟩
  have q := hG i σ H p
  by_cases hlt : i < xs.length
  · refine .inr ⟨w.go i H hlt q, Pv (i + 1), fun σ' H' p' => ⟨xs.length - (i + 1), by omega, rfl, hlt, p'⟩, fun x H' y => ?_⟩
    obtain ⟨e, d, h1, h2⟩ := w.yld i H x H' q hlt y
    subst e
    exact hs i d x σ _ h1 h2 p
  · have e : i = xs.length := by omega
    subst e
    exact .inl ⟨w.stop H q, hd σ H p⟩
theorem lc_wk {J : L2.It} {xs : List D} {g : TG} {tt : TT} {te : TE} {vs : List Nat} {σ : L2.St} {H1 : Hp} {Dl : Addr} {Qd : Hp → Prop} (w : Wk K J Hi1 G xs) (Pv : Nat → Hp → Prop) (h0 : Pv 0 (upd H1 Dl (.lst []))) (hG : ∀ i H, Pv i H → G H)
    (hs : ∀ i d x H, xs[i]? = some d → Rep K Hi1 d x → Pv i H → g x (wipe σ vs) H fun σ2 H2 => wipe σ2 vs = wipe σ vs ∧ tt σ2 H2 fun b H3 =>
      if b = true then te σ2 H3 fun y H4 => ∃ acc, H4 Dl = some (.lst acc) ∧ acc.length < sizeLine ∧ Pv (i + 1) (upd H4 Dl (.lst (acc ++ [y]))) else Pv (i + 1) H3) (hd : ∀ H, Pv xs.length H → Qd H) :
    ∃ W : Nat → Nat → Hp → Prop, (∃ m, W 0 m (upd H1 Dl (.lst []))) ∧ ∀ i m H, W i m H →
      (J.stop i H ∧ Qd H) ∨ (J.go i H ∧ ∃ Nx : Hp → Prop, (∀ H', Nx H' → ∃ m', m' < m ∧ W (i + 1) m' H') ∧ ∀ x H', J.yld i H x H' → g x (wipe σ vs) H' fun σ2 H2 => wipe σ2 vs = wipe σ vs ∧ tt σ2 H2 fun b H3 =>
        if b = true then te σ2 H3 fun y H4 => ∃ acc, H4 Dl = some (.lst acc) ∧ acc.length < sizeLine ∧ Nx (upd H4 Dl (.lst (acc ++ [y]))) else Nx H3) := by
  refine ⟨fun i m H => m = xs.length - i ∧ i ≤ xs.length ∧ Pv i H, ⟨xs.length, by simp, Nat.zero_le _, h0⟩, ?_⟩
  rintro i m H ⟨rfl, hi, p⟩
  have q := hG i H p
  by_cases hlt : i < xs.length
  · refine .inr ⟨w.go i H hlt q, Pv (i + 1), fun H' p' => ⟨xs.length - (i + 1), by omega, rfl, hlt, p'⟩, fun x H' y => ?_⟩
    obtain ⟨e, d, h1, h2⟩ := w.yld i H x H' q hlt y
    subst e
    exact hs i d x _ h1 h2 p
  · have e : i = xs.length := by omega
    subst e
    exact .inl ⟨w.stop H q, hd H p⟩
end
section
variable {X : Cx} {Φ : Fns} {pe pa pb pc tg : Expr} {a b c : Ep} {pos : Pos}
def RI (X : Cx) (Φ : Fns) (tg pit : Expr) (it : Epi) : Prop := ∀ ε xs, iterD Φ it ε = some xs → ∀ Hi0 H0 Hi H σ (R : L2.It → Hp → Prop), EnvOk X.K Hi0 H0 Hi H σ ε →
  (∀ Hi' H' J, Step Hi H Hi' H' → Wk X.K J Hi' (Ex H') xs → R J H') → tUI X tg pit σ H R
def RL (X : Cx) (Φ : Fns) (tg pit : Expr) (it : Epi) : Prop := ∀ ε xs, loopD Φ it ε = some xs → ∀ Hi0 H0 Hi H σ (R : L2.It → Hp → Prop), EnvOk X.K Hi0 H0 Hi H σ ε →
  (∀ Hi' H' J, Step Hi H Hi' H' → Wk X.K J Hi' (fun H2 => Ex Hi' H2 ∧ Ex H0 H2) xs → R J H') → tUI X tg pit σ H R
theorem ex_trans {A B C : Hp} (h : Ex A B) (h2 : Ex B C) : Ex A C := Evl.Ex.trans h h2
theorem i_over (ha : RE X Φ pa a) : RI X Φ tg pa (.over a) := by
  intro ε xs h Hi0 H0 Hi H σ R I k
  simp only [iterD, Option.bind_eq_some_iff] at h
  obtain ⟨x, h1, hx⟩ := h
  generalize er : x.d = d at hx
  cases d with
  | lst ys =>
    cases hx
    refine tUI_of (pi_list peU) (ha ε x h1 Hi0 H0 Hi H σ _ I fun Hi1 H1 u s1 o1 => ?_)
    obtain ⟨p, vs, rfl, h2, h3⟩ := o1.lst s1.s er
    exact ⟨p, rfl, ⟨vs, SqL.of h2⟩, k Hi1 H1 _ s1 (wk_list (fun H g => SqL.of (g _ _ h2)) h3)⟩
  | tup ys =>
    cases hx
    refine tUI_of (pi_tup peU) (ha ε x h1 Hi0 H0 Hi H σ _ I fun Hi1 H1 u s1 o1 => ?_)
    obtain ⟨p, vs, rfl, h2, h3⟩ := tup_of o1 er
    exact ⟨p, rfl, ⟨vs, SqT.of (s1.s _ _ h2)⟩, k Hi1 H1 _ s1 (wk_tup (fun H g => SqT.of (g _ _ (s1.s _ _ h2))) h3)⟩
  | scr ns =>
    cases hx
    refine tUI_of (pi_list peU) (ha ε x h1 Hi0 H0 Hi H σ _ I fun Hi1 H1 u s1 o1 => ?_)
    obtain ⟨p, rfl, h2⟩ := scr_of o1 er
    exact ⟨p, rfl, ⟨_, Evl.ex_l s1.s h2⟩, k Hi1 H1 _ s1 (wk_list (fun H g => Evl.ex_l (ex_trans s1.s g) h2) (RepL.of_ints ns))⟩
  | non => cases hx
  | bl b => cases hx
  | int i => cases hx
  | str s => cases hx
/-- shared data is walked -/
theorem sh_walk {d : D} {xs : List D} {u : V} {Hi1 H1 H0 : Hp} {R : L2.It → Hp → Prop} (hx : itemsD d = some xs) (s : Ex Hi1 H1) (hr : Rep X.K Hi1 d u) (k : ∀ J, Wk X.K J Hi1 (fun H2 => Ex Hi1 H2 ∧ Ex H0 H2) xs → R J H1) :
    ((∀ ys, d ≠ .tup ys) ∧ ∃ a, u = .ref a ∧ (∃ xs, SqL X.K H1 a xs) ∧ R (Itl X.K a) H1) ∨ ((∃ ys, d = .tup ys) ∧ ∃ a, u = .ref a ∧ (∃ xs, SqT X.K H1 a xs) ∧ R (Itt X.K a) H1) := by
  cases d with
  | lst ys =>
    cases hx
    obtain ⟨p, vs, rfl, h2, h3⟩ := hr
    exact .inl ⟨(fun _ z => nomatch z), p, rfl, ⟨vs, SqL.of (s _ _ h2)⟩, k _ (wk_list (fun H g => SqL.of (g.1 _ _ h2)) h3)⟩
  | tup ys =>
    cases hx
    obtain ⟨p, vs, rfl, h2, h3⟩ := hr
    exact .inr ⟨⟨_, rfl⟩, p, rfl, ⟨vs, SqT.of (s _ _ h2)⟩, k _ (wk_tup (fun H g => SqT.of (g.1 _ _ h2)) h3)⟩
  | scr ns =>
    cases hx
    obtain ⟨p, rfl, h2⟩ := hr
    exact .inl ⟨(fun _ z => nomatch z), p, rfl, ⟨_, Evl.ex_l s h2⟩, k _ (wk_list (fun H g => Evl.ex_l g.1 h2) (RepL.of_ints ns))⟩
  | non => cases hx
  | bl b => cases hx
  | int i => cases hx
  | str s => cases hx
theorem l_over (ha : RE X Φ pa a) (hv : ∀ i, a = .v i → PE X pa (tVar i)) : RL X Φ tg pa (.over a) := by
  intro ε xs h Hi0 H0 Hi H σ R I k
  by_cases hvi : ∃ i, a = .v i
  · obtain ⟨i, rfl⟩ := hvi
    have pv := hv i rfl
    simp only [loopD, Option.bind_eq_some_iff] at h
    obtain ⟨r, h1, hx⟩ := h
    obtain ⟨v, e1, e2⟩ := I.at h1
    match r, e2 with
    | .fr d, _ => cases hx
    | .sh d, ⟨u, e3, e4⟩ =>
      subst e3
      have hx : itemsD d = some xs := hx
      have w := sh_walk (R := R) (H0 := H0) hx I.st.s e4 fun J w => k Hi H J (Step.refl I.st.s) w
      rcases w with ⟨_, p, h2, h3, h4⟩ | ⟨_, p, h2, h3, h4⟩
      · exact tUI_of (pi_list pv) ⟨u, e1, p, h2, h3, h4⟩
      · exact tUI_of (pi_tup pv) ⟨u, e1, p, h2, h3, h4⟩
    | .bo d, ⟨p, o, e3, e4, e5⟩ =>
      subst e3
      have hx : itemsD d = some xs := hx
      cases d with
      | lst ys =>
        cases hx
        obtain ⟨vs, rfl, e6⟩ := e5
        exact tUI_of (pi_list pv) ⟨_, e1, p, rfl, ⟨vs, SqL.of (I.st.h _ _ e4)⟩, k Hi H _ (Step.refl I.st.s) (wk_list (fun H g => SqL.of (g.2 _ _ e4)) e6)⟩
      | tup ys => exact e5.elim
      | scr ys => exact e5.elim
      | non => cases hx
      | bl b => cases hx
      | int i => cases hx
      | str s => cases hx
  · have h' : ((evalD Φ a ε).bind fun r => match r with | .bo _ => none | r => itemsD r.d) = some xs := by
      cases a <;> first | exact h | exact absurd ⟨_, rfl⟩ hvi
    simp only [Option.bind_eq_some_iff] at h'
    obtain ⟨x, h1, hx⟩ := h'
    have key : ∀ Hi1 H1 u, Step Hi H Hi1 H1 → VlOk X.K H Hi1 H1 x u → ∃ Hi2 d, Step Hi H Hi2 H1 ∧ x.d = d ∧ itemsD d = some xs ∧ Rep X.K Hi2 d u := fun Hi1 H1 u s1 o1 => by
      match x, o1 with
      | .sh d, o1 => exact ⟨Hi1, d, s1, rfl, hx, o1⟩
      | .fr d, ⟨p, o, e1, e2, e3, e4, e5⟩ =>
        subst e1
        exact ⟨_, d, s1.freeze e4 e2 e3, rfl, hx, (e5.mono (Evl.Ex.new e3)).rep upd_same⟩
      | .bo d, _ => cases hx
    by_cases ht : ∃ ys, x.d = .tup ys
    · refine tUI_of (pi_tup peU) (ha ε x h1 Hi0 H0 Hi H σ _ I fun Hi1 H1 u s1 o1 => ?_)
      obtain ⟨Hi2, d, s2, e1, e2, e3⟩ := key Hi1 H1 u s1 o1
      rcases sh_walk (R := R) (H0 := H0) e2 s2.s e3 fun J w => k Hi2 H1 J s2 w with ⟨n, _⟩ | ⟨_, p, h2, h3, h4⟩
      · obtain ⟨ys, e⟩ := ht; exact absurd (e1.symm.trans e) (n ys)
      · exact ⟨p, h2, h3, h4⟩
    · refine tUI_of (pi_list peU) (ha ε x h1 Hi0 H0 Hi H σ _ I fun Hi1 H1 u s1 o1 => ?_)
      obtain ⟨Hi2, d, s2, e1, e2, e3⟩ := key Hi1 H1 u s1 o1
      rcases sh_walk (R := R) (H0 := H0) e2 s2.s e3 fun J w => k Hi2 H1 J s2 w with ⟨_, p, h2, h3, h4⟩ | ⟨⟨ys, n⟩, _⟩
      · exact ⟨p, h2, h3, h4⟩
      · exact absurd ⟨ys, e1.trans n⟩ ht
theorem smallI_ok {i : Int} (h : smallI i = true) : -(2 ^ 62) ≤ i ∧ i < 2 ^ 62 := by
  unfold smallI at h
  exact of_decide_eq_true (p := -(2 ^ 62) ≤ i ∧ i < 2 ^ 62) h
theorem r1_ok {p : Pos} (hg : Gl X "range") (hm : X.mg "range" = none) (hs : isStar pa = false) (ha : RE X Φ pa a) {ε : Env} {xs : List D} (h : iterD Φ (.r1 a) ε = some xs) {Hi0 H0 Hi H : Hp} {σ : L2.St} {R : L2.It → Hp → Prop} (I : EnvOk X.K Hi0 H0 Hi H σ ε)
    (k : ∀ Hi' H' J, Step Hi H Hi' H' → (∀ G, Wk X.K J Hi' G xs) → R J H') : tUI X tg (.Call (.Name "range" p) [pa] [] pos) σ H R := by
  simp only [iterD, Option.bind_eq_some_iff] at h
  obtain ⟨x, h1, h2⟩ := h
  split at h2
  · rename_i n ex
    split at h2
    · rename_i hn
      cases h2
      refine tUI_of (pi_range1 hg hm (pa_cons peU pa_nil (star_no hs)) (star_no hs)) (ha ε x h1 Hi0 H0 Hi H σ _ I fun Hi1 H1 u s1 o1 => ?_)
      refine ⟨n, by rw [int_of o1 ex], (smallI_ok hn).1, (smallI_ok hn).2, k Hi1 H1 _ s1 fun G => ?_⟩
      have w := wk_range (K := X.K) (Hi1 := Hi1) (G := G) (lo := 0) (hi := n)
      rw [Int.sub_zero] at w
      exact w
    · cases h2
  · cases h2
theorem r2_ok {p : Pos} (hg : Gl X "range") (hm : X.mg "range" = none) (hs : isStar pa = false) (hs2 : isStar pb = false) (ha : RE X Φ pa a) (hb : RE X Φ pb b) {ε : Env} {xs : List D} (h : iterD Φ (.r2 a b) ε = some xs) {Hi0 H0 Hi H : Hp} {σ : L2.St} {R : L2.It → Hp → Prop} (I : EnvOk X.K Hi0 H0 Hi H σ ε)
    (k : ∀ Hi' H' J, Step Hi H Hi' H' → (∀ G, Wk X.K J Hi' G xs) → R J H') : tUI X tg (.Call (.Name "range" p) [pa, pb] [] pos) σ H R := by
  simp only [iterD, Option.bind_eq_some_iff] at h
  obtain ⟨x, h1, y, h2, h3⟩ := h
  split at h3
  · rename_i l n ex ey
    split at h3
    · rename_i hn
      cases h3
      refine tUI_of (pi_range2 hg hm (pa_cons peU (pa_cons peU pa_nil (star_no hs2)) (star_no hs)) (by rw [star_no hs, star_no hs2]; rfl) (star_no hs2)) (two ha hb h1 h2 I fun Hi1 H1 u v s1 o1 o2 => ?_)
      refine ⟨l, n, by rw [int_of o1 ex, int_of o2 ey], ⟨(smallI_ok hn.1).1, (smallI_ok hn.1).2, (smallI_ok hn.2).1, (smallI_ok hn.2).2⟩, k Hi1 H1 _ s1 fun G => wk_range⟩
    · cases h3
  · cases h3
end
end EF
namespace EF
open PySem L2

/-! ### storing -/
section
variable {K : PySem.W.Frag} {Hi0 H0 Hi H Hi' H' : Hp} {σ : L2.St} {ε : Env}
theorem set_get {α : Type} {l : List α} {i j : Nat} {x y : α} (h : (l.set i x)[j]? = some y) : (j = i ∧ y = x ∧ i < l.length) ∨ (j ≠ i ∧ l[j]? = some y) := by
  by_cases e : j = i
  · subst e
    by_cases hl : j < l.length
    · rw [List.getElem?_set_self hl] at h; cases h; exact .inl ⟨rfl, rfl, hl⟩
    · rw [List.getElem?_eq_none (by simpa using hl)] at h; cases h
  · rw [List.getElem?_set_ne (Ne.symm e)] at h
    exact .inr ⟨e, h⟩
theorem EnvOk.set (I : EnvOk K Hi0 H0 Hi H σ ε) (s : Step Hi H Hi' H') {r : Vl} {x : V} (o : VlOk K H Hi' H' r x) (hb : ∀ d, r ≠ .bo d) (i : Nat) : EnvOk K Hi0 H0 Hi' H' (σ.set i (some x)) (ε.set i (some r)) := by
  refine ⟨I.st.trans s, by simpa using I.len, fun j r' v h1 h2 => ?_, fun j1 j2 d e ne h1 h2 => ?_⟩
  · rcases set_get h1 with ⟨e1, e2, e3⟩ | ⟨e1, e2⟩
    · subst e1 e2
      rcases set_get h2 with ⟨_, f2, _⟩ | ⟨f1, _⟩
      · subst f2
        match r, o with
        | .sh d, o => exact ⟨x, rfl, o⟩
        | .fr d, ⟨p, ob, e1, e2, e3, e4, e5⟩ => subst e1; exact ⟨p, ob, rfl, e2, e3, Evl.fresh_back I.st.h e4, e5⟩
        | .bo d, _ => exact absurd rfl (hb d)
      · exact absurd rfl f1
    · rcases set_get h2 with ⟨f1, _, _⟩ | ⟨_, f2⟩
      · exact absurd f1 e1
      · exact (I.sl j r' v e2 f2).step s
  · have other : ∀ j d', j ≠ i → ε[j]? = some (some (.fr d')) → ∀ d'', r = .fr d'' → (σ.set i (some x))[j]? ≠ some (some x) := fun j d' hj hh d'' hr => by
      rw [List.getElem?_set_ne (Ne.symm hj)]
      intro z
      obtain ⟨q, ob, q1, q2, _⟩ := I.sl j _ _ hh z
      subst hr
      obtain ⟨p, ob2, p1, _, _, p4, _⟩ := o
      rw [p1] at q1
      cases q1
      rw [p4] at q2; cases q2
    rcases set_get h1 with ⟨e1, e2, e3⟩ | ⟨e1, e2⟩
    · rcases set_get h2 with ⟨f1, f2, f3⟩ | ⟨f1, f2⟩
      · exact absurd (e1.trans f1.symm) ne
      · subst e1
        have := other j2 e f1 f2 d (Option.some.inj e2).symm
        have hl : j1 < σ.length := by rw [I.len]; exact e3
        rw [List.getElem?_set_self hl]
        exact fun z => this z.symm
    · rcases set_get h2 with ⟨f1, f2, f3⟩ | ⟨f1, f2⟩
      · subst f1
        have := other j1 d e1 e2 e (Option.some.inj f2).symm
        have hl : j2 < σ.length := by rw [I.len]; exact f3
        rw [List.getElem?_set_self hl]
        exact this
      · rw [List.getElem?_set_ne (Ne.symm e1), List.getElem?_set_ne (Ne.symm f1)]
        exact I.ap j1 j2 d e ne e2 f2
theorem EnvOk.clear (I : EnvOk K Hi0 H0 Hi H σ ε) (i : Nat) : EnvOk K Hi0 H0 Hi H (σ.set i none) (ε.set i none) := by
  refine ⟨I.st, by simpa using I.len, fun j r' v h1 h2 => ?_, fun j1 j2 d e ne h1 h2 => ?_⟩
  · rcases set_get h1 with ⟨e1, e2, e3⟩ | ⟨e1, e2⟩
    · subst e2; trivial
    · rcases set_get h2 with ⟨f1, _, _⟩ | ⟨_, f2⟩
      · exact absurd f1 e1
      · exact I.sl j r' v e2 f2
  · rcases set_get h1 with ⟨e1, e2, e3⟩ | ⟨e1, e2⟩
    · cases e2
    · rcases set_get h2 with ⟨f1, f2, f3⟩ | ⟨f1, f2⟩
      · cases f2
      · rw [List.getElem?_set_ne (Ne.symm e1), List.getElem?_set_ne (Ne.symm f1)]
        exact I.ap j1 j2 d e ne e2 f2
theorem EnvOk.wipe (I : EnvOk K Hi0 H0 Hi H σ ε) : ∀ vs : List Nat, EnvOk K Hi0 H0 Hi H (L2.wipe σ vs) (wipeE ε vs)
  | [] => I
  | v :: vs => (I.wipe vs).clear v
end
theorem wipe_comm {σ : L2.St} {i : Nat} {o : Option V} : ∀ {vs : List Nat}, i ∉ vs → wipe (σ.set i o) vs = (wipe σ vs).set i o
  | [], _ => rfl
  | v :: vs, h => by
    have h1 : i ≠ v := fun z => h (by rw [z]; exact List.mem_cons_self)
    have h2 : i ∉ vs := fun z => h (List.mem_cons_of_mem _ z)
    show (wipe (σ.set i o) vs).set v none = ((wipe σ vs).set v none).set i o
    rw [wipe_comm h2, List.set_comm _ _ h1]
theorem wipe_set {σ : L2.St} {i : Nat} {o : Option V} : ∀ {vs : List Nat}, i ∈ vs → wipe (σ.set i o) vs = wipe σ vs
  | [], h => by cases h
  | v :: vs, h => by
    show (wipe (σ.set i o) vs).set v none = (wipe σ vs).set v none
    by_cases c : i ∈ vs
    · rw [wipe_set c]
    · have e : i = v := by
        rcases List.mem_cons.mp h with e | e
        · exact e
        · exact absurd e c
      subst e
      rw [wipe_comm c, List.set_set]
theorem wipe_wipe {σ : L2.St} {ws : List Nat} : ∀ {vs : List Nat}, (∀ v ∈ vs, v ∈ ws) → wipe (wipe σ vs) ws = wipe σ ws
  | [], _ => rfl
  | v :: vs, h => by
    show wipe ((wipe σ vs).set v none) ws = _
    rw [wipe_set (h v List.mem_cons_self)]
    exact wipe_wipe fun z hz => h z (List.mem_cons_of_mem _ hz)
/-! ### targets -/
def gsT : List Nat → TGs
  | [] => gNil
  | i :: is => gCons (gName i) (gsT is)
def tgT (K : PySem.W.Frag) : Tg → TG
  | .n i => gName i
  | .t is => gTup K is.length (gsT is)
section
variable {K : PySem.W.Frag} {Hi0 H0 Hi H Hi' H' : Hp} {σ : L2.St} {ε : Env}
theorem gsT_ok : ∀ {is : List Nat} {ds : List D} {vs : List V} {σ : L2.St} {ε ε2 : Env} {Q : L2.St → Hp → Prop}, setAll is ds ε = some ε2 → EnvOk K Hi0 H0 Hi H σ ε → RepL K Hi ds vs →
    (∀ σ2, EnvOk K Hi0 H0 Hi H σ2 ε2 → (∀ own : List Nat, (∀ i ∈ is, i ∈ own) → wipe σ2 own = wipe σ own) → Q σ2 H) → gsT is vs σ H Q
  | [], ds, vs, σ, ε, ε2, Q, h, I, r, k => by
    cases ds with
    | nil => cases h; cases (show vs = [] from r); exact ⟨rfl, k σ I fun _ _ => rfl⟩
    | cons d ds => cases h
  | i :: is, ds, vs, σ, ε, ε2, Q, h, I, r, k => by
    cases ds with
    | nil => cases h
    | cons d ds =>
      obtain ⟨v, vs', rfl, r1, r2⟩ := r
      refine ⟨v, vs', rfl, ?_⟩
      show gsT is vs' (σ.set i (some v)) H Q
      have I2 := I.set (Step.refl I.st.s) (r := .sh d) (x := v) r1 (fun _ z => nomatch z) i
      refine gsT_ok (is := is) h I2 r2 fun σ2 I3 w => k σ2 I3 fun own ho => ?_
      rw [w own fun j hj => ho j (List.mem_cons_of_mem _ hj), wipe_set (ho i List.mem_cons_self)]
theorem setAll_len : ∀ {is : List Nat} {ds : List D} {ε ε2 : Env}, setAll is ds ε = some ε2 → ds.length = is.length
  | [], [], _, _, _ => rfl
  | [], _ :: _, _, _, h => by cases h
  | _ :: _, [], _, _, h => by cases h
  | i :: is, d :: ds, _, _, h => by simp [setAll_len (is := is) h]
theorem tgT_ok {t : Tg} {r : Vl} {ε2 : Env} {x : V} {Q : L2.St → Hp → Prop} (h : bindT t r ε = some ε2) (I : EnvOk K Hi0 H0 Hi H σ ε) (s : Step Hi H Hi' H') (o : VlOk K H Hi' H' r x)
    (k : ∀ σ2, EnvOk K Hi0 H0 Hi' H' σ2 ε2 → (∀ own : List Nat, tgIn own t = true → wipe σ2 own = wipe σ own) → Q σ2 H') : tgT K t x σ H' Q := by
  cases t with
  | n i =>
    have h' : (∀ d, r ≠ .bo d) ∧ ε2 = ε.set i (some r) := by
      cases r with
      | sh d => exact ⟨(fun _ z => nomatch z), (Option.some.inj h).symm⟩
      | fr d => exact ⟨(fun _ z => nomatch z), (Option.some.inj h).symm⟩
      | bo d => cases h
    obtain ⟨h1, rfl⟩ := h'
    exact k _ (I.set s o h1 i) fun own ho => wipe_set (by simpa [tgIn] using ho)
  | t is =>
    simp only [bindT] at h
    split at h
    · rename_i ds ex
      obtain ⟨a, vs, e1, e2, e3⟩ := tup_of o ex
      refine ⟨a, vs, e1, SqT.of (s.s _ _ e2), by rw [← e3.length]; exact setAll_len h, gsT_ok h (I.step s) e3 fun σ2 I2 w => k σ2 I2 fun own ho => w own fun i hi => ?_⟩
      have := List.all_eq_true.mp ho i hi
      simpa using this
    · cases h
end
/-! ### comprehensions -/
theorem lcGo_snoc {f : D → Option (Option D)} : ∀ (l : List D) (x : D), lcGo f (l ++ [x]) = (lcGo f l).bind fun zs => (f x).bind fun o => some (zs ++ o.toList)
  | [], x => by
    simp only [List.nil_append, lcGo, Option.bind_some]
    cases f x with
    | none => rfl
    | some o => cases o <;> rfl
  | y :: l, x => by
    simp only [List.cons_append, lcGo, lcGo_snoc l x]
    cases f y with
    | none => rfl
    | some o =>
      simp only [Option.bind_some]
      cases lcGo f l with
      | none => rfl
      | some zs =>
        simp only [Option.bind_some]
        cases f x with
        | none => rfl
        | some o2 => cases o <;> simp
theorem lcGo_take {f : D → Option (Option D)} : ∀ {xs : List D} {ys : List D}, lcGo f xs = some ys → ∀ i, ∃ zs, lcGo f (xs.take i) = some zs
  | [], ys, h, i => ⟨[], by simp [lcGo]⟩
  | x :: xs, ys, h, 0 => ⟨[], rfl⟩
  | x :: xs, ys, h, i + 1 => by
    simp only [lcGo, Option.bind_eq_some_iff] at h
    obtain ⟨o, h1, zs, h2, _⟩ := h
    obtain ⟨ws, h3⟩ := lcGo_take h2 i
    exact ⟨_, by simp [lcGo, h1, h3]; rfl⟩
section
variable {X : Cx} {Φ : Fns} {pe pa pb pc tg : Expr} {a b c : Ep} {pos : Pos}
def tUTs (X : Cx) (ifs : List Expr) : TT := fun σ H Q => ∀ pins s, Inv X pins σ H s →
  wpAny (model X.prog X.w) X.A (forIn ifs true fun c r => if r = true then do let ok ← isTrue c X.env (eval c X.env); pure (ForInStep.yield ok) else pure (ForInStep.yield r)) (TP X pins σ Q) X.xe s
def RTs (X : Cx) (Φ : Fns) (ifs : List Expr) (cs : Eps) : Prop := ∀ ε b, testsD Φ cs ε = some b → ∀ Hi0 H0 Hi H σ (Q : Bool → Hp → Prop), EnvOk X.K Hi0 H0 Hi H σ ε →
  (∀ Hi' H', Step Hi H Hi' H' → Q b H') → tUTs X ifs σ H Q
theorem ts_nil : RTs X Φ [] .nil := fun ε b h Hi0 H0 Hi H σ Q I k => by
  simp only [testsD, Option.some.injEq] at h
  subst h
  exact fun pins s J => pts_nil.run pins s σ H Q J (k Hi H (Step.refl I.st.s))
theorem ts_one (hc : RT X Φ pc c) : RTs X Φ [pc] (.cons c .nil) := fun ε b h Hi0 H0 Hi H σ Q I k => by
  simp only [testsD, Option.bind_eq_some_iff] at h
  obtain ⟨b', h1, h2⟩ := h
  have e : b' = b := by cases b' <;> cases h2 <;> rfl
  subst e
  exact fun pins s J => (pts_one ptU).run pins s σ H Q J (hc ε b' h1 Hi0 H0 Hi H σ Q I k)
theorem r_lc {scope : Scope} {own : List (Str × Nat)} {e it : Expr} {ifs : List Expr} {t : Tg} {i : Epi} {cs : Eps} {x : Ep} (hc : X.calm = true) (hN : X.N.Nodup) (ok : BlkOk X.N X.env.scope scope own) (hi : RI X Φ tg it i)
    (hg : ∀ s H C cl fp, PG (X.blk s H scope (compEnvC scope cl C X.env) fp) tg (tgT X.K t)) (htg : tgIn (own.map (·.2)) t = true) (ht : ∀ s H C cl fp, RTs (X.blk s H scope (compEnvC scope cl C X.env) fp) Φ ifs cs)
    (he : ∀ s H C cl fp, RE (X.blk s H scope (compEnvC scope cl C X.env) fp) Φ e x) :
    ∀ ε r, evalD Φ (.lc t i cs x (own.map (·.2))) ε = some r → ∀ Hi0 H0 Hi H σ (Q : VK), EnvOk X.K Hi0 H0 Hi H σ ε → (∀ Hi' H' x, Step Hi H Hi' H' → VlOk X.K H Hi' H' r x → Q x H') →
      tLc (tUI X tg it) (tgT X.K t) (fun σ H Q => ∀ s Hb C cl fp, tUTs (X.blk s Hb scope (compEnvC scope cl C X.env) fp) ifs σ H Q) (fun σ H Q => ∀ s Hb C cl fp, tU (X.blk s Hb scope (compEnvC scope cl C X.env) fp) e σ H Q) (own.map (·.2)) σ H Q := by
  intro ε r h Hi0 H0 Hi H σ Q I k
  generalize hvs : own.map (·.2) = vs at *
  simp only [evalD, Option.bind_eq_some_iff] at h
  obtain ⟨xs, h1, h2⟩ := h
  split at h2
  case isFalse => cases h2
  case isTrue hlen =>
  simp only [Option.map_eq_some_iff] at h2
  obtain ⟨ys, h3, rfl⟩ := h2
  generalize hf : (fun x' => (bindT t (.sh x') (wipeE ε vs)).bind fun ε2 => (testsD Φ cs ε2).bind fun
        | true => (evalD Φ x ε2).bind fun r => r.keep.map some
        | false => some none) = f at h3
  refine hi ε xs h1 Hi0 H0 Hi H σ _ I fun Hi1 H1 J s1 w Dl hDl => ?_
  have I1 := I.step s1
  refine lc_wk (g := tgT X.K t) (tt := fun σ H Q => ∀ s Hb C cl fp, tUTs (X.blk s Hb scope (compEnvC scope cl C X.env) fp) ifs σ H Q) (te := fun σ H Q => ∀ s Hb C cl fp, tU (X.blk s Hb scope (compEnvC scope cl C X.env) fp) e σ H Q)
    (vs := vs) (σ := σ) (H1 := H1) (Dl := Dl) (Qd := Q (.ref Dl)) w (fun n H' => ∃ Hi' acc zs, lcGo f (xs.take n) = some zs ∧ Step Hi1 H1 Hi' H' ∧ H' Dl = some (.lst acc) ∧ Hi' Dl = none ∧ RepL X.K Hi' zs acc ∧ acc.length ≤ n ∧ n ≤ xs.length)
    ⟨Hi1, [], [], rfl, Step.own s1.s hDl, upd_same, Evl.fresh_back s1.s hDl, rfl, Nat.le_refl _, Nat.zero_le _⟩ (fun n H' ⟨Hi', acc, zs, _, s2, _⟩ => s2.h) ?_ ?_
  · rintro n d u H' hd hu ⟨Hi', acc, zs, z1, s2, z2, z3, z4, z5, _⟩
    have hn : n < xs.length := (List.getElem?_eq_some_iff.mp hd).1
    obtain ⟨ws, hw⟩ := lcGo_take h3 (n + 1)
    have hsn : xs.take (n + 1) = xs.take n ++ [d] := by rw [List.take_add_one, hd]; rfl
    rw [hsn, lcGo_snoc, z1] at hw
    simp only [Option.bind_some, Option.bind_eq_some_iff] at hw
    obtain ⟨o, hfo, hws⟩ := hw
    have hsnoc : lcGo f (xs.take (n + 1)) = some (zs ++ o.toList) := by rw [hsn, lcGo_snoc, z1]; simp [hfo]
    have hfo' := hfo
    rw [← hf] at hfo'
    simp only [Option.bind_eq_some_iff] at hfo'
    obtain ⟨ε2, b1, tb, b2, b3⟩ := hfo'
    have Iw := (I1.step s2).wipe vs
    refine tgT_ok (r := .sh d) b1 Iw (Step.refl Iw.st.s) (Rep.mono s2.i d u hu) fun σ2 I2 wi => ⟨?_, fun s Hb C cl fp => ?_⟩
    · rw [wi vs htg]
      exact wipe_wipe fun _ hz => hz
    · refine ht s Hb C cl fp ε2 tb b2 Hi0 H0 Hi' H' σ2 _ I2 fun Hi2 H2 s3 => ?_
      cases tb with
      | false =>
        rw [if_neg (by decide)]
        cases b3
        refine ⟨Hi2, acc, zs ++ (none : Option D).toList, hsnoc, s2.trans s3, s3.h _ _ z2, s3.n Dl (by rw [z2]; exact fun z => nomatch z) z3, ?_, by omega, hn⟩
        show RepL X.K Hi2 (zs ++ []) acc
        rw [List.append_nil]
        exact RepL.mono s3.i _ _ z4
      | true =>
        rw [if_pos rfl]
        simp only [Option.bind_eq_some_iff, Option.map_eq_some_iff] at b3
        obtain ⟨r, b4, dd, b5, rfl⟩ := b3
        intro s' Hb' C' cl' fp'
        refine he s' Hb' C' cl' fp' ε2 r b4 Hi0 H0 Hi2 H2 σ2 _ (I2.step s3) fun Hi3 H3 y s4 o4 => ?_
        obtain ⟨Hi4, e4, s5, _, o5⟩ := o4.keep s4 b5
        have s25 := s3.trans s5
        have sA := s2.trans s25
        have hD3 : H3 Dl = some (.lst acc) := s25.h _ _ z2
        have hD4 : Hi4 Dl = none := s25.n Dl (by rw [z2]; exact fun z => nomatch z) z3
        refine ⟨acc, hD3, Nat.lt_of_le_of_lt (Nat.le_trans z5 (Nat.le_of_lt hn)) (Nat.lt_of_le_of_lt hlen (by decide)), Hi4, acc ++ [y], zs ++ [dd], hsnoc, ⟨sA.i, Evl.Ex.mut sA.h hDl, Evl.Ex.mut sA.s hD4, sA.n⟩, upd_same, hD4, ?_, by simp; omega, hn⟩
        exact (RepL.mono s25.i _ _ z4).append (RepL.cons o5 RepL.nil)
  · rintro H' ⟨Hi', acc, zs, z1, s2, z2, z3, z4, z5, _⟩
    rw [List.take_length, h3] at z1
    cases z1
    exact k Hi' H' _ (s1.trans s2) ⟨Dl, _, rfl, z2, z3, s1.fresh hDl, acc, rfl, z4⟩
end
end EF
namespace EF
open PySem L2

structure Good (M : Mo) (N : List Str) (sc : Scope) (Φ : Fns) (X : Cx) : Prop where
  hN : X.N = N
  nd : N.Nodup
  hsc : X.env.scope = sc
  calm : X.calm = true
  un : X.A.units + 64 < cLine
  bn : ∀ x, M.bn.contains x = true → X.mg x = none
  fns : ∀ x f, slot M.fs x = some f → FnI X (Φ f) x
theorem Good.blk {M : Mo} {N : List Str} {sc : Scope} {Φ : Fns} {X : Cx} (G : Good M N sc Φ X) (s : Shared) (H : Hp) (scope : Scope) (cl : List (Str × Addr)) (C : Addr) (fp : List Addr) :
    Good M N (relS scope sc) Φ (X.blk s H scope (compEnvC scope cl C X.env) fp) := by
  refine ⟨G.hN, G.nd, ?_, G.calm, G.un, G.bn, fun x f h => ⟨(G.fns x f h).ex⟩⟩
  show relS scope X.env.scope = _
  rw [G.hsc]
def isSet : Expr → Bool
  | .Set _ _ _ => true
  | _ => false
theorem mark_no {e : Expr} (h : isSet e = false) (op : CmpOp) : behindInMarks op e = false := by cases e <;> first | rfl | cases h
theorem fold_no {e : Expr} (h : isSet e = false) (env : PySem.Env) : ∀ x, foldedSetIterable e env x = pure x := by cases e <;> first | (intro _; rfl) | cases h
theorem plain_ix {e : Expr} (h : ∀ a b c d, e = .Slice a b c d → False) : PlainIx e := by
  intro o i
  cases e <;> first | rfl | exact (h _ _ _ _ rfl).elim
theorem visB_ok {sc : Scope} {x : Str} (h : visB sc x = true) : Vis sc x := by
  unfold visB at h
  split at h
  · rename_i e; exact .inl e
  · rename_i e; exact .inr (.inl e)
  · rename_i e; exact .inr (.inr e)
  · cases h
theorem glB_ok {sc : Scope} {x : Str} (h : glB sc x = true) : sc.names.lookup x = some .globalImplicit := by
  unfold glB at h
  split at h
  · rename_i e; exact e
  · cases h
theorem slot_ok : ∀ {N : List Str} {x : Str} {i : Nat}, slot N x = some i → N[i]? = some x
  | [], _, _, h => by cases h
  | y :: r, x, i, h => by
    unfold slot at h
    split at h
    · rename_i e; subst e; cases h; rfl
    · simp only [Option.map_eq_some_iff] at h
      obtain ⟨j, h1, rfl⟩ := h
      simpa using slot_ok h1
theorem beq_no {x y : Str} (h : x ≠ y) : (x == y) = false := by
  cases e : x == y with
  | false => rfl
  | true => exact absurd (eq_of_beq e) h
section
variable {M : Mo} {N : List Str} {Φ : Fns} {X : Cx} {sc : Scope}
theorem cE_notSet {n : Nat} {pe : Expr} {e : Ep} (h : cE M N n sc pe = some e) : isSet pe = false := by
  cases n with
  | zero => simp only [cE] at h; cases h
  | succ n => cases pe <;> first | rfl | (simp only [cE] at h; cases h)
theorem cE_name {n : Nat} {x : Str} {p : Pos} {e : Ep} (h : cE M N n sc (.Name x p) = some e) (G : Good M N sc Φ X) : ∃ i, e = .v i ∧ PE X (.Name x p) (tVar i) ∧ RE X Φ (.Name x p) e := by
  cases n with
  | zero => simp only [cE] at h; cases h
  | succ n =>
    simp only [cE] at h
    split at h
    · rename_i hc
      simp only [Option.map_eq_some_iff] at h
      obtain ⟨j, h1, h2⟩ := h
      cases h2
      have a1 : X.N[j]? = some x := by rw [G.hN]; exact slot_ok h1
      have a2 : Vis X.env.scope x := by rw [G.hsc]; exact visB_ok hc.1
      exact ⟨j, rfl, pe_var a1 a2 (beq_no hc.2.1) (beq_no hc.2.2), r_var a1 a2 (beq_no hc.2.1) (beq_no hc.2.2)⟩
    · cases h
theorem cMany_a {f : Expr → Option Ep} (hf : ∀ pe e, f pe = some e → RE X Φ pe e) : ∀ {pes : List Expr} {es : Eps}, cMany f pes = some es → RA X Φ pes es ∧ noStars pes = true
  | [], es, h => by cases h; exact ⟨a_nil, rfl⟩
  | pe :: pes, es, h => by
    simp only [cMany] at h
    split at h
    · cases h
    · rename_i hs
      have hs : isStar pe = false := by simpa using hs
      simp only [Option.bind_eq_some_iff, Option.map_eq_some_iff] at h
      obtain ⟨x, h1, xs, h2, rfl⟩ := h
      obtain ⟨a1, a2⟩ := cMany_a hf h2
      refine ⟨a_cons (hf pe x h1) a1 hs, ?_⟩
      unfold noStars at a2 ⊢
      rw [List.all_cons, a2, hs]; rfl
theorem cMany_k {f : Expr → Option Ep} (hf : ∀ pe e, f pe = some e → RE X Φ pe e) : ∀ {pes : List Expr} {es : Eps}, cMany f pes = some es → RK X Φ pes es
  | [], es, h => by cases h; exact k_nil
  | pe :: pes, es, h => by
    simp only [cMany] at h
    split at h
    · cases h
    · rename_i hs
      have hs : isStar pe = false := by simpa using hs
      simp only [Option.bind_eq_some_iff, Option.map_eq_some_iff] at h
      obtain ⟨x, h1, xs, h2, rfl⟩ := h
      exact k_cons (hf pe x h1) (cMany_k hf h2) hs
theorem cAnd_e {f : Expr → Option Ep} (hf : ∀ pe e, f pe = some e → RE X Φ pe e) {pos : Pos} : ∀ {pes : List Expr} {e : Ep}, cAnd f pes = some e → RE X Φ (.BoolOp .And pes pos) e
  | [], e, h => by cases h
  | [pe], e, h => r_one (hf pe e h)
  | pe :: pb :: r, e, h => by
    simp only [cAnd, Option.bind_eq_some_iff, Option.map_eq_some_iff] at h
    obtain ⟨x, h1, y, h2, rfl⟩ := h
    exact r_and (hf pe x h1) (cAnd_e hf h2)
theorem cOr_e {f : Expr → Option Ep} (hf : ∀ pe e, f pe = some e → RE X Φ pe e) {pos : Pos} : ∀ {pes : List Expr} {e : Ep}, cOr f pes = some e → RE X Φ (.BoolOp .Or pes pos) e
  | [], e, h => by cases h
  | [pe], e, h => r_one (hf pe e h)
  | pe :: pb :: r, e, h => by
    simp only [cOr, Option.bind_eq_some_iff, Option.map_eq_some_iff] at h
    obtain ⟨x, h1, y, h2, rfl⟩ := h
    exact r_or (hf pe x h1) (cOr_e hf h2)
theorem cAnd_t {f : Expr → Option Ep} (hf : ∀ pe e, f pe = some e → RT X Φ pe e) {pos : Pos} : ∀ {pes : List Expr} {e : Ep}, cAnd f pes = some e → RW X Φ (.BoolOp .And pes pos) e
  | [], e, h => by cases h
  | [pe], e, h => w_and1 (hf pe e h)
  | pe :: pb :: r, e, h => by
    simp only [cAnd, Option.bind_eq_some_iff, Option.map_eq_some_iff] at h
    obtain ⟨x, h1, y, h2, rfl⟩ := h
    exact w_and (hf pe x h1) (cAnd_t hf h2)
theorem cOr_t {f : Expr → Option Ep} (hf : ∀ pe e, f pe = some e → RT X Φ pe e) {pos : Pos} : ∀ {pes : List Expr} {e : Ep}, cOr f pes = some e → RW X Φ (.BoolOp .Or pes pos) e
  | [], e, h => by cases h
  | [pe], e, h => w_or1 (hf pe e h)
  | pe :: pb :: r, e, h => by
    simp only [cOr, Option.bind_eq_some_iff, Option.map_eq_some_iff] at h
    obtain ⟨x, h1, y, h2, rfl⟩ := h
    exact w_or (hf pe x h1) (cOr_t hf h2)
/-! targets -/
theorem cTn_ok {all : Str → Bool} {x : Str} {i : Nat} {p : Pos} (h : cTn N sc all x = some i) (G : Good M N sc Φ X) (ha : ∀ x, all x = true → X.fn x = true) : PG X (.Name x p) (gName i) := by
  unfold cTn at h
  split at h
  · rename_i hc
    refine pg_name (by rw [G.hN]; exact G.nd) (by rw [G.hN]; exact slot_ok h) ?_ ?_
    · rw [G.hsc]
      rcases hc with e | ⟨_, e⟩
      · exact .inl e
      · exact .inr e
    · rw [G.hsc]
      rcases hc with e | ⟨e, _⟩
      · exact .inr e
      · exact .inl (ha x e)
  · cases h
theorem cTns_ok {all : Str → Bool} (G : Good M N sc Φ X) (ha : ∀ x, all x = true → X.fn x = true) : ∀ {es : List Expr} {is : List Nat}, cTns N sc all es = some is → PGs X es (gsT is) ∧ (assignEach es X.env).length = is.length ∧ (assignEach es X.env).findIdx? (·.1) = none
  | [], is, h => by cases h; exact ⟨pgs_nil, rfl, rfl⟩
  | e :: es, is, h => by
    cases e
    case Name x p =>
      simp only [cTns, Option.bind_eq_some_iff, Option.map_eq_some_iff] at h
      obtain ⟨i, h1, js, h2, rfl⟩ := h
      obtain ⟨a1, a2, a3⟩ := cTns_ok G ha h2
      refine ⟨pgs_cons (cTn_ok h1 G ha) a1 rfl, ?_, ?_⟩
      · show (assignEach es X.env).length + 1 = js.length + 1
        rw [a2]
      · show ((false, assign (.Name x p) X.env) :: assignEach es X.env).findIdx? (·.1) = none
        rw [List.findIdx?_cons, a3]; rfl
    all_goals (simp only [cTns] at h; cases h)
theorem cTg_ok {all : Str → Bool} {tg : Expr} {t : Tg} (h : cTg N sc all tg = some t) (G : Good M N sc Φ X) (ha : ∀ x, all x = true → X.fn x = true) : PG X tg (tgT X.K t) := by
  cases tg
  case Name x p =>
    simp only [cTg, Option.map_eq_some_iff] at h
    obtain ⟨i, h1, rfl⟩ := h
    exact cTn_ok h1 G ha
  case Tuple es k p =>
    simp only [cTg, Option.map_eq_some_iff] at h
    obtain ⟨is, h1, rfl⟩ := h
    obtain ⟨a1, a2, a3⟩ := cTns_ok G ha h1
    exact pg_tup G.calm a1 a2 a3
  all_goals (simp only [cTg] at h; cases h)
end
end EF
namespace EF
open PySem L2

def plainT : Expr → Bool
  | .UnaryOp _ _ _ => false
  | .BoolOp _ _ _ => false
  | .IfExp _ _ _ _ => false
  | _ => true
theorem t_vac {X : Cx} {Φ : Fns} {pe : Expr} {e : Ep} (h : ∀ ε, testD Φ e ε = none) : RT X Φ pe e := fun ε b hb => by rw [h] at hb; cases hb
structure COk (M : Mo) (N : List Str) (Φ : Fns) (n : Nat) : Prop where
  e : ∀ sc pe e X, cE M N n sc pe = some e → Good M N sc Φ X → RE X Φ pe e ∧ (plainT pe = true → RT X Φ pe e)
  t : ∀ sc pe e X, cT M N n sc pe = some e → Good M N sc Φ X → RT X Φ pe e
  o : ∀ sc po o X, cO M N n sc po = some o → Good M N sc Φ X → RO X Φ po o
  i : ∀ sc pe it X tg, cI M N n sc pe = some it → Good M N sc Φ X → RI X Φ tg pe it ∧ RL X Φ tg pe it ∧ isSet pe = false
theorem Good.gl {M : Mo} {N : List Str} {sc : Scope} {Φ : Fns} {X : Cx} (G : Good M N sc Φ X) {x : Str} (h : glB sc x = true) : Gl X x := by
  unfold Gl PySem.Env.kindOf
  rw [G.hsc]
  exact glB_ok h
section
variable {M : Mo} {N : List Str} {Φ : Fns}
theorem ovr_some {o : Option Ep} {it : Epi} (h : ovr o = some it) : ∃ a, o = some a ∧ it = .over a ∧ ∀ i, a ≠ .v i := by
  unfold ovr at h
  simp only [Option.bind_eq_some_iff] at h
  obtain ⟨a, h1, h2⟩ := h
  refine ⟨a, h1, ?_⟩
  cases a <;> first | (cases h2; exact ⟨rfl, (fun _ z => nomatch z)⟩) | cases h2
theorem cRest {n : Nat} {sc : Scope} {X : Cx} (ih : COk M N Φ n) (G : Good M N sc Φ X) {pe : Expr} {it : Epi} {tg : Expr} (h : ovr (cE M N n sc pe) = some it) : RI X Φ tg pe it ∧ RL X Φ tg pe it ∧ isSet pe = false := by
  obtain ⟨a, h1, rfl, h2⟩ := ovr_some h
  have r := (ih.e sc pe a X h1 G).1
  exact ⟨i_over r, l_over r fun i z => absurd z (h2 i), cE_notSet h1⟩
theorem c_call {n : Nat} {sc : Scope} {X : Cx} (ih : COk M N Φ n) (G : Good M N sc Φ X) {f : Expr} {as : List Expr} {ks : List Keyword} {pos : Pos} {e : Ep} (h : cE M N (n + 1) sc (.Call f as ks pos) = some e) :
    RE X Φ (.Call f as ks pos) e ∧ RT X Φ (.Call f as ks pos) e := by
  have he : ∀ pe e, cE M N n sc pe = some e → RE X Φ pe e := fun pe e h => (ih.e sc pe e X h G).1
  simp only [cE] at h
  split at h
  · rename_i x p
    split at h
    · rename_i hc
      obtain ⟨c1, c2, c3, c4⟩ := hc
      have hg := G.gl c1
      cases as with
      | nil => exact absurd rfl c4
      | cons a0 ar =>
      split at h
      · rename_i k hk
        simp only [Option.map_eq_some_iff] at h
        obtain ⟨es, h1, rfl⟩ := h
        obtain ⟨a1, a2⟩ := cMany_a he h1
        have r := r_call (pos := pos) (p := p) (G.fns x k hk) hg (beq_no c2) a2 a1
        refine ⟨r, t_truth (fun _ => rfl) r fun ε => ?_⟩
        simp only [testD, evalD, Option.bind_assoc]
      · have bi : ∀ {e : Ep}, ((biName x).bind fun b => (cMany (cE M N n sc) (a0 :: ar)).map (.bi b)) = some e → M.bn.contains x = true → RE X Φ (.Call (.Name x p) (a0 :: ar) [] pos) e ∧ RT X Φ (.Call (.Name x p) (a0 :: ar) [] pos) e := fun {e} h hb => by
          simp only [Option.bind_eq_some_iff, Option.map_eq_some_iff] at h
          obtain ⟨b, h1, es, h2, rfl⟩ := h
          obtain ⟨a1, a2⟩ := cMany_a he h2
          have r := r_bi (pos := pos) (p := p) G.calm h1 hg (G.bn x hb) c3 (beq_no c2) a2 a1
          refine ⟨r, t_truth (fun _ => rfl) r fun ε => ?_⟩
          simp only [testD, evalD, Option.bind_assoc]
        split at h
        · rename_i hb
          split at h
          · rename_i hx
            split at h
            · rename_i a t p2 heq
              cases heq
              split at h
              · rename_i hc2
                simp only [Option.bind_eq_some_iff, Option.map_eq_some_iff] at h
                obtain ⟨ty, h1, y, h2, rfl⟩ := h
                subst hx
                have htn : t ≠ "__name__" := fun z => by
                  have q : tyName ("__name__" : Str) = none := by decide +kernel
                  rw [z, q] at h1; cases h1
                have htd : t ≠ "__debug__" := fun z => by
                  have q : tyName ("__debug__" : Str) = none := by decide +kernel
                  rw [z, q] at h1; cases h1
                exact ⟨r_isi h1 hg (G.bn _ hb) (G.gl hc2.1) (G.bn t hc2.2.1) htn (beq_no htd) hc2.2.2 (he _ _ h2), t_isi h1 hg (G.bn _ hb) (G.gl hc2.1) (G.bn t hc2.2.1) htn (beq_no htd) hc2.2.2 (he _ _ h2)⟩
              · cases h
            · cases h
          · split at h
            · rename_i hx
              split at h
              · rename_i y p2 a p3 heq
                cases heq
                split at h
                · rename_i hc2
                  simp only [Option.map_eq_some_iff] at h
                  obtain ⟨z, h1, rfl⟩ := h
                  subst hx
                  obtain ⟨d1, d2, d3, d4⟩ := hc2
                  subst d1
                  exact ⟨r_lrg G.calm hg (G.bn _ hb) (G.gl d2) (G.bn _ d3) d4 (he _ _ h1), t_vac fun ε => by simp only [testD]⟩
                · exact bi h hb
              · exact bi h hb
            · exact bi h hb
        · cases h
    · cases h
  · cases h
theorem c_lc {n : Nat} {sc : Scope} {X : Cx} (ih : COk M N Φ n) (G : Good M N sc Φ X) {el : Expr} {gs : List Comprehension} {scope : Scope} {p : Pos} {e : Ep} (h : cE M N (n + 1) sc (.ListComp el gs scope p) = some e) :
    ∃ (tg it : Expr) (ifs : List Expr) (own : List (Str × Nat)) (g : TG) (tt : TT) (te : TE), gs = [⟨tg, it, ifs, 0⟩] ∧ BlkOk X.N X.env.scope scope own ∧ (∀ s H C cl fp, PG (X.blk s H scope (compEnvC scope cl C X.env) fp) tg g) ∧
      (∀ s H C cl fp, PTs (X.blk s H scope (compEnvC scope cl C X.env) fp) ifs tt) ∧ (∀ s H C cl fp, PE (X.blk s H scope (compEnvC scope cl C X.env) fp) el te) ∧ isSet it = false ∧
      ∀ ε r, evalD Φ e ε = some r → ∀ Hi0 H0 Hi H σ (Q : VK), EnvOk X.K Hi0 H0 Hi H σ ε → (∀ Hi' H' x, Step Hi H Hi' H' → VlOk X.K H Hi' H' r x → Q x H') → tLc (tUI X tg it) g tt te (own.map (·.2)) σ H Q := by
  simp only [cE] at h
  split at h
  · rename_i tg it ifs
    split at h
    · rename_i hc
      simp only [Option.bind_eq_some_iff] at h
      obtain ⟨i, h1, t, h2, h3⟩ := h
      split at h3
      · rename_i htg
        simp only [Option.bind_eq_some_iff, Option.map_eq_some_iff] at h3
        obtain ⟨cs, h4, x, h5, rfl⟩ := h3
        have bk : BlkOk X.N X.env.scope scope (ownOf N tg) := by rw [G.hN, G.hsc]; exact blkOk_by hc.1
        obtain ⟨i1, i2, i3⟩ := ih.i sc it i X tg h1 G
        have Gb := fun s H C cl fp => G.blk s H scope cl C fp
        have hg : ∀ s H C cl fp, PG (X.blk s H scope (compEnvC scope cl C X.env) fp) tg (tgT X.K t) := fun s H C cl fp => cTg_ok h2 (Gb s H C cl fp) fun x z => z
        have ht : ∀ s H C cl fp, RTs (X.blk s H scope (compEnvC scope cl C X.env) fp) Φ ifs cs := fun s H C cl fp => by
          cases ifs with
          | nil => cases h4; exact ts_nil
          | cons c r =>
            cases r with
            | nil =>
              simp only [cMany] at h4
              split at h4
              · cases h4
              · simp only [Option.bind_eq_some_iff, Option.map_eq_some_iff] at h4
                obtain ⟨y, h6, ys, h7, rfl⟩ := h4
                cases h7
                exact ts_one (ih.t _ c y _ h6 (Gb s H C cl fp))
            | cons c2 r2 => exact absurd hc.2 (by simp)
        have hel : ∀ s H C cl fp, RE (X.blk s H scope (compEnvC scope cl C X.env) fp) Φ el x := fun s H C cl fp => (ih.e _ el x _ h5 (Gb s H C cl fp)).1
        exact ⟨tg, it, ifs, _, _, _, _, rfl, bk, hg, (fun s H C cl fp => ⟨fun pins s' σ H Q I h => h s _ C cl fp pins s' I⟩), (fun s H C cl fp => ⟨fun pins s' σ H Q I h => h s _ C cl fp pins s' I⟩), i3,
          r_lc G.calm (by rw [G.hN]; exact G.nd) bk i1 hg htg ht hel⟩
      · cases h3
    · cases h
  · cases h
theorem c_ok : ∀ n, COk M N Φ n
  | 0 => by
    refine ⟨fun sc pe e X h _ => ?_, fun sc pe e X h _ => ?_, fun sc pe e X h _ => ?_, fun sc pe e X tg h _ => ?_⟩
    · simp only [cE] at h; cases h
    · simp only [cT] at h; cases h
    · simp only [cO] at h; cases h
    · simp only [cI] at h; cases h
  | n + 1 => by
    have ih := c_ok n
    refine ⟨fun sc pe e X h G => ?_, fun sc pe e X h G => ?_, fun sc po o X h G => ?_, fun sc pe it X tg h G => ?_⟩
    · have he : ∀ pe e, cE M N n sc pe = some e → RE X Φ pe e := fun pe e h => (ih.e sc pe e X h G).1
      cases pe
      case Name x p =>
        obtain ⟨i, rfl, h1, h2⟩ := cE_name h G
        exact ⟨h2, fun _ => t_truth (fun _ => rfl) h2 fun ε => rfl⟩
      case Constant c k p =>
        simp only [cE] at h
        have go : ∀ {t : V} {d : D}, PE X (.Constant c k p) (tC t) → (∀ K H, Rep K H d t) → RE X Φ (.Constant c k p) (.c d) ∧ (plainT (.Constant c k p) = true → RT X Φ (.Constant c k p) (.c d)) := fun {t d} h1 h2 =>
          ⟨r_const h1 h2, fun _ => t_truth (fun _ => rfl) (r_const h1 h2) fun ε => rfl⟩
        split at h
        · cases h; exact go pe_int fun _ _ => rfl
        · cases h; exact go pe_bl fun _ _ => rfl
        · cases h; exact go pe_non fun _ _ => rfl
        · cases h; exact go pe_str fun _ _ => rfl
        · cases h
      case BinOp a op b p =>
        simp only [cE, Option.bind_eq_some_iff, Option.map_eq_some_iff] at h
        obtain ⟨x, h1, y, h2, rfl⟩ := h
        exact ⟨r_bin (he _ _ h1) (he _ _ h2), fun _ => t_vac fun ε => by simp only [testD]⟩
      case UnaryOp op a p =>
        simp only [cE] at h
        refine ⟨?_, fun z => nomatch z⟩
        split at h
        · simp only [Option.map_eq_some_iff] at h
          obtain ⟨x, h1, rfl⟩ := h
          exact r_neg (he _ _ h1)
        · simp only [Option.map_eq_some_iff] at h
          obtain ⟨x, h1, rfl⟩ := h
          exact r_not (he _ _ h1)
        · cases h
      case BoolOp op es p =>
        simp only [cE] at h
        refine ⟨?_, fun z => nomatch z⟩
        split at h
        · cases h
        · split at h
          · exact cAnd_e he h
          · exact cOr_e he h
      case Compare a ops bs p =>
        simp only [cE] at h
        split at h
        · simp only [Option.bind_eq_some_iff, Option.map_eq_some_iff] at h
          obtain ⟨x, h1, y, h2, rfl⟩ := h
          have hm := fun op => mark_no (cE_notSet h2) op
          exact ⟨r_cmp G.un (he _ _ h1) (he _ _ h2) (hm _), fun _ => t_cmp G.un (he _ _ h1) (he _ _ h2) (hm _)⟩
        · simp only [Option.bind_eq_some_iff, Option.map_eq_some_iff] at h
          obtain ⟨x, h1, y, h2, z, h3, rfl⟩ := h
          have hm := fun op => mark_no (cE_notSet h3) op
          exact ⟨r_chn G.un (he _ _ h1) (he _ _ h2) (he _ _ h3) (hm _), fun _ => t_chn G.un (he _ _ h1) (he _ _ h2) (he _ _ h3) (hm _)⟩
        · cases h
      case IfExp c a b p =>
        simp only [cE, Option.bind_eq_some_iff, Option.map_eq_some_iff] at h
        obtain ⟨x, h1, y, h2, z, h3, rfl⟩ := h
        exact ⟨r_ife (ih.t sc c x X h1 G) (he _ _ h2) (he _ _ h3), fun z => nomatch z⟩
      case Subscript a i p =>
        simp only [cE] at h
        split at h
        · split at h
          · simp only [Option.bind_eq_some_iff, Option.map_eq_some_iff] at h
            obtain ⟨x, h1, l, h2, hh, h3, rfl⟩ := h
            exact ⟨r_sl (he _ _ h1) (ih.o sc _ _ X h2 G) (ih.o sc _ _ X h3 G), fun _ => t_vac fun ε => by simp only [testD]⟩
          · cases h
        · rename_i hne
          simp only [Option.bind_eq_some_iff, Option.map_eq_some_iff] at h
          obtain ⟨x, h1, y, h2, rfl⟩ := h
          have r := r_ix (pos := p) (he _ _ h1) (he _ _ h2) (plain_ix hne)
          refine ⟨r, fun _ => t_truth (fun _ => rfl) r fun ε => ?_⟩
          simp only [testD, evalD, Option.bind_assoc]
      case Tuple es k p =>
        simp only [cE, Option.map_eq_some_iff] at h
        obtain ⟨xs, h1, rfl⟩ := h
        exact ⟨r_tup (cMany_k he h1), fun _ => t_vac fun ε => by simp only [testD]⟩
      case List es p =>
        simp only [cE, Option.map_eq_some_iff] at h
        obtain ⟨xs, h1, rfl⟩ := h
        exact ⟨r_lst (cMany_k he h1), fun _ => t_vac fun ε => by simp only [testD]⟩
      case Call f as ks p =>
        obtain ⟨h1, h2⟩ := c_call ih G h
        exact ⟨h1, fun _ => h2⟩
      case ListComp el gs scope p =>
        obtain ⟨tg, it, ifs, own, g, tt, te, rfl, bk, hg, ht, hel, i3, rd⟩ := c_lc ih G h
        refine ⟨fun ε r hr Hi0 H0 Hi H σ Q I k => ?_, fun _ => ?_⟩
        · exact tU_of (pe_lc G.calm (by rw [G.hN]; exact G.nd) piU bk hg ht hel (fold_no i3 _)) (rd ε r hr Hi0 H0 Hi H σ Q I k)
        · refine t_vac fun ε => ?_
          simp only [cE] at h
          split at h
          · simp only [Option.bind_eq_some_iff] at h
            obtain ⟨i, h1, t, h2, h3⟩ := h
            split at h3
            · simp only [Option.bind_eq_some_iff, Option.map_eq_some_iff] at h3
              obtain ⟨cs, h4, x, h5, rfl⟩ := h3
              simp only [testD]
            · cases h3
          · cases h
      all_goals (simp only [cE] at h; cases h)
    · have ht : ∀ pe e, cT M N n sc pe = some e → RT X Φ pe e := fun pe e h => ih.t sc pe e X h G
      cases pe
      case UnaryOp op a p =>
        simp only [cT] at h
        split at h
        · simp only [Option.map_eq_some_iff] at h
          obtain ⟨x, h1, rfl⟩ := h
          exact t_not (ht _ _ h1)
        · cases h
      case BoolOp op es p =>
        simp only [cT] at h
        split at h
        · exact (cAnd_t ht h).t
        · exact (cOr_t ht h).t
      case IfExp c a b p => simp only [cT] at h; cases h
      all_goals (simp only [cT] at h; exact (ih.e sc _ _ X h G).2 rfl)
    · simp only [cO] at h
      split at h
      · cases h; exact o_no
      · simp only [Option.map_eq_some_iff] at h
        obtain ⟨x, h1, rfl⟩ := h
        exact o_so (ih.e sc _ _ X h1 G).1
    · cases pe
      case Name x p =>
        simp only [cI, Option.map_eq_some_iff] at h
        obtain ⟨a, h1, rfl⟩ := h
        obtain ⟨i, rfl, h2, h3⟩ := cE_name h1 G
        exact ⟨i_over h3, l_over h3 (fun j z => by cases z; exact h2), rfl⟩
      case Call f as ks p =>
        simp only [cI] at h
        split at h
        · rename_i x p2 a
          split at h
          · rename_i hx
            split at h
            · rename_i hc
              simp only [Option.map_eq_some_iff] at h
              obtain ⟨y, h1, rfl⟩ := h
              subst hx
              have ra := (ih.e sc _ _ X h1 G).1
              refine ⟨fun ε xs hh Hi0 H0 Hi H σ R I k => r1_ok (G.gl hc.1) (G.bn _ hc.2.1) hc.2.2 ra hh I fun Hi' H' J s w => k Hi' H' J s (w _), fun ε xs hh Hi0 H0 Hi H σ R I k => ?_, rfl⟩
              exact r1_ok (G.gl hc.1) (G.bn _ hc.2.1) hc.2.2 ra hh I fun Hi' H' J s w => k Hi' H' J s (w _)
            · cases h
          · exact cRest ih G h
        · rename_i x p2 a b
          split at h
          · rename_i hx
            split at h
            · rename_i hc
              simp only [Option.bind_eq_some_iff, Option.map_eq_some_iff] at h
              obtain ⟨y, h1, z, h2, rfl⟩ := h
              subst hx
              have ra := (ih.e sc _ _ X h1 G).1
              have rb := (ih.e sc _ _ X h2 G).1
              refine ⟨fun ε xs hh Hi0 H0 Hi H σ R I k => r2_ok (G.gl hc.1) (G.bn _ hc.2.1) hc.2.2.1 hc.2.2.2 ra rb hh I fun Hi' H' J s w => k Hi' H' J s (w _), fun ε xs hh Hi0 H0 Hi H σ R I k => ?_, rfl⟩
              exact r2_ok (G.gl hc.1) (G.bn _ hc.2.1) hc.2.2.1 hc.2.2.2 ra rb hh I fun Hi' H' J s w => k Hi' H' J s (w _)
            · cases h
          · exact cRest ih G h
        · exact cRest ih G h
      all_goals (simp only [cI] at h; exact cRest ih G h)
end
end EF
namespace EF
open PySem L2

/-! ### statements: from the text -/
mutual
/-- the names whose lists are kept by other data -/
def retE : Ep → List Nat
  | .v _ => []
  | .c _ => []
  | .bin _ a b => retE a ++ retE b
  | .neg a => retE a
  | .not a => retE a
  | .and a b => retE a ++ retE b
  | .or a b => retE a ++ retE b
  | .cmp _ a b => retE a ++ retE b
  | .chn _ _ a b c => retE a ++ retE b ++ retE c
  | .ife c a b => retE c ++ retE a ++ retE b
  | .ix a b => retE a ++ retE b
  | .sl a _ _ => retE a
  | .tup es => retK es
  | .lst es => retK es
  | .call _ es => retA es
  | .bi _ es => retA es
  | .isi _ a => retE a
  | .lrg a => retE a
  | .lc _ _ _ e _ => (match e with | .v i => [i] | _ => []) ++ retE e
def retK : Eps → List Nat
  | .nil => []
  | .cons e es => (match e with | .v i => [i] | _ => []) ++ retE e ++ retK es
def retA : Eps → List Nat
  | .nil => []
  | .cons e es => retE e ++ retA es
end
def keptV : Ep → List Nat
  | .v i => [i]
  | _ => []
def pre : List Nat → Sms → Sms
  | [], ss => ss
  | i :: is, ss => .cons (.fz i) (pre is ss)
/-- x.m(..), x a name -/
def asMeth : Expr → Option (Str × Str × List Expr)
  | .Call f as ks cpos => (match f, ks with
    | .Attribute (.Name x _) m apos, [] => if (apos.endLine == cpos.line) = true ∧ as.length < 20 then some (x, m, as) else none
    | _, _ => none)
  | _ => none
def isTup : Expr → Bool
  | .Tuple _ _ _ => true
  | _ => false
def isComp : Expr → Bool
  | .ListComp _ _ _ _ => true
  | .SetComp _ _ _ _ => true
  | .DictComp _ _ _ _ _ => true
  | _ => false
/-- does the comprehension's value go straight to the name? -/
def swapB (sc : Scope) (y : Str) (py : Pos) (scope : Scope) (pos : Pos) : Bool :=
  decide (sc.names.lookup y = some .local) && (py.line == pos.line) && !(scope.names.any fun (n, k) => n == y && (k == .local || k == .cell))
def cArg (M : Mo) (N : List Str) (n : Nat) (sc : Scope) : List Expr → Option Epo
  | [] => some .no
  | [a] => if isStar a = true then none else (cE M N n sc a).map .so
  | _ => none
def cLocal (M : Mo) (N : List Str) (n : Nat) (sc : Scope) (x : Str) : Option Nat := (cE M N n sc (.Name x ⟨0, 0, 0, 0⟩)).bind fun e => match e with | .v i => some i | _ => none
mutual
def cS (M : Mo) (N : List Str) (sc : Scope) : Nat → Stmt → Option (List Nat × Sm)
  | 0, _ => none
  | n + 1, st => match st with
    | .Assign tgs e _ => (match tgs with
      | [tg] => (match asMeth e with
        | some (x, m, as) => if m = "pop" then (cLocal M N n sc x).bind fun i => (cArg M N n sc as).bind fun a => (cTg N sc (fun _ => true) tg).map fun t => ([], .popT t i a) else none
        | none => (match tg with
          | .Subscript o j _ => (match o with
            | .Name x _ => (match j with
              | .Slice _ _ _ _ => none
              | j => if isComp e = true then none else (cLocal M N n sc x).bind fun i => (cE M N n sc j).bind fun jj => (cE M N n sc e).map fun ee => (keptV ee ++ retE ee, .setx i jj ee))
            | _ => none)
          | tg => if isTup tg = true ∧ isTup e = true then none else (cE M N n sc e).bind fun ee => (cTg N sc (fun _ => true) tg).map fun t => (keptV ee ++ retE ee, .asg t ee)))
      | _ => none)
    | .Expr e _ => (match asMeth e with
      | some (x, m, as) => (cLocal M N n sc x).bind fun i =>
          if m = "append" then (match as with
            | [a] => (match asMeth a with
              | some (y, m2, as2) => if m2 = "pop" then (cLocal M N n sc y).bind fun j => (cArg M N n sc as2).map fun k => ([], .appPop i j k) else none
              | none => if isStar a = true then none else (cE M N n sc a).map fun aa => (keptV aa ++ retE aa, .app i aa))
            | _ => none)
          else if m = "insert" then (match as with
            | [a, b] => if isStar a = true ∨ isStar b = true then none else (cE M N n sc a).bind fun aa => (cE M N n sc b).map fun bb => (keptV bb ++ retE aa ++ retE bb, .ins i aa bb)
            | _ => none)
          else none
      | none => none)
    | .Return v _ => (match v with
      | some e => (match e with
        | .Name x _ => (cLocal M N n sc x).map fun i => ([], .retV i)
        | e => (cE M N n sc e).map fun ee => (retE ee, .ret ee))
      | none => some ([], .ret (.c .non)))
    | .If c a b _ => (cT M N n sc c).bind fun cc => (cSs M N sc n a).bind fun aa => (cSs M N sc n b).map fun bb => (retE cc, .ifs cc aa bb)
    | .For tg it body els _ => (match els with
      | [] => (cTg N sc (fun _ => true) tg).bind fun t => (cI M N n sc it).bind fun i => (cSs M N sc n body).map fun b => ((match i with | .over e => keptV e ++ retE e | _ => []), .frs t i b)
      | _ => none)
    | .While c body els _ => (match els with
      | [] => (cT M N n sc c).bind fun cc => (cSs M N sc n body).map fun b => ([], .whl cc b)
      | _ => none)
    | .Pass _ => some ([], .pas)
    | .Break _ => some ([], .brk)
    | .Continue _ => some ([], .cnt)
    | _ => none
def cSs (M : Mo) (N : List Str) (sc : Scope) : Nat → List Stmt → Option Sms
  | 0, _ => none
  | n + 1, sts => match sts with
    | [] => some .nil
    | st :: rest => (cS M N sc n st).bind fun (is, s) => (cSs M N sc n rest).map fun ss => pre is (.cons s ss)
end

/-! ### what is shown of statements -/
def sU1 (X : Cx) (st : Stmt) : TS := fun Dn σ H => ∀ pins s, Inv X pins σ H s → wpAny (model X.prog X.w) X.A (exec st X.env) (SP X pins Dn) X.xe s
def sU (X : Cx) (sts : List Stmt) : TS := fun Dn σ H => ∀ pins s, Inv X pins σ H s → wpAny (model X.prog X.w) X.A (execs sts X.env) (SP X pins Dn) X.xe s
theorem ps1U {X : Cx} {st : Stmt} : PS X st (sU1 X st) := ⟨fun pins s σ H Dn I h => h pins s I⟩
theorem psU {X : Cx} {sts : List Stmt} : PSs X sts (sU X sts) := ⟨fun pins s σ H Dn I h => h pins s I⟩
theorem sU1_of {X : Cx} {st : Stmt} {t : TS} {Dn : Ends} {σ : L2.St} {H : Hp} (h : PS X st t) (q : t Dn σ H) : sU1 X st Dn σ H := fun pins s I => h.run pins s σ H Dn I q
theorem sU_of {X : Cx} {sts : List Stmt} {t : TS} {Dn : Ends} {σ : L2.St} {H : Hp} (h : PSs X sts t) (q : t Dn σ H) : sU X sts Dn σ H := fun pins s I => h.run pins s σ H Dn I q
def GoodO (K : PySem.W.Frag) (Hi0 H0 Hi : Hp) (Dn : Ends) : O → Prop
  | .nx ε => ∀ Hi' H' σ', Ex Hi Hi' → EnvOk K Hi0 H0 Hi' H' σ' ε → Dn.nx σ' H'
  | .bk ε => ∀ Hi' H' σ', Ex Hi Hi' → EnvOk K Hi0 H0 Hi' H' σ' ε → Dn.bk σ' H'
  | .ct ε => ∀ Hi' H' σ', Ex Hi Hi' → EnvOk K Hi0 H0 Hi' H' σ' ε → Dn.ct σ' H'
  | .rt r => ∀ Hi' H' x, Step Hi0 H0 Hi' H' → VlOk K H0 Hi' H' r x → Dn.rt x H'
def RS (X : Cx) (Φ : Fns) (st : Stmt) (s : Sm) : Prop := ∀ ε o, execD Φ s ε = some o → ∀ Hi0 H0 Hi H σ Dn, EnvOk X.K Hi0 H0 Hi H σ ε → GoodO X.K Hi0 H0 Hi Dn o → sU1 X st Dn σ H
def RSs (X : Cx) (Φ : Fns) (sts : List Stmt) (ss : Sms) : Prop := ∀ ε o, execsD Φ ss ε = some o → ∀ Hi0 H0 Hi H σ Dn, EnvOk X.K Hi0 H0 Hi H σ ε → GoodO X.K Hi0 H0 Hi Dn o → sU X sts Dn σ H
section
variable {X : Cx} {Φ : Fns} {pos : Pos}
theorem GoodO.mono {K : PySem.W.Frag} {Hi0 H0 Hi Hi1 : Hp} {Dn : Ends} {o : O} (e : Ex Hi Hi1) (h : GoodO K Hi0 H0 Hi Dn o) : GoodO K Hi0 H0 Hi1 Dn o := by
  cases o with
  | nx ε => exact fun Hi' H' σ' e2 I => h Hi' H' σ' (ex_trans e e2) I
  | bk ε => exact fun Hi' H' σ' e2 I => h Hi' H' σ' (ex_trans e e2) I
  | ct ε => exact fun Hi' H' σ' e2 I => h Hi' H' σ' (ex_trans e e2) I
  | rt r => exact h
theorem ss_nil : RSs X Φ [] .nil := fun ε o h Hi0 H0 Hi H σ Dn I k => by
  simp only [execsD, Option.some.injEq] at h
  subst h
  exact sU_of pss_nil (k Hi H σ (Evl.Ex.refl _) I)
theorem ss_cons {st : Stmt} {sts : List Stmt} {s : Sm} {ss : Sms} (h1 : RS X Φ st s) (h2 : RSs X Φ sts ss) : RSs X Φ (st :: sts) (.cons s ss) := fun ε o h Hi0 H0 Hi H σ Dn I k => by
  simp only [execsD, Option.bind_eq_some_iff] at h
  obtain ⟨o1, e1, e2⟩ := h
  refine sU_of (pss_cons ps1U psU) (h1 ε o1 e1 Hi0 H0 Hi H σ _ I ?_)
  cases o1 with
  | nx ε2 => exact fun Hi' H' σ' e3 I2 => h2 ε2 o e2 Hi0 H0 Hi' H' σ' _ I2 (k.mono e3)
  | bk ε2 => cases e2; exact k
  | ct ε2 => cases e2; exact k
  | rt r => cases e2; exact k
/-! freezing -/
theorem EnvOk.frz {K : PySem.W.Frag} {Hi0 H0 Hi H : Hp} {σ : L2.St} {ε : Env} (I : EnvOk K Hi0 H0 Hi H σ ε) (i : Nat) : ∃ Hi2, Ex Hi Hi2 ∧ EnvOk K Hi0 H0 Hi2 H σ (frz ε i) := by
  unfold EF.frz
  split
  · rename_i d hd
    obtain ⟨v, e1, p, o, e2, e3, e4, e5, e6⟩ := I.at hd
    subst e2
    have hi := getS_some hd
    refine ⟨upd Hi p o, Evl.Ex.new e4, I.st.freeze e5 e3 e4, by simpa using I.len, fun j r w h1 h2 => ?_, fun j1 j2 d1 d2 ne h1 h2 => ?_⟩
    · rcases set_get h1 with ⟨f1, f2, _⟩ | ⟨f1, f2⟩
      · subst f1 f2
        rw [e1] at h2; cases h2
        exact ⟨_, rfl, (e6.mono (Evl.Ex.new e4)).rep upd_same⟩
      · have q := I.sl j r w f2 h2
        match r, q, f2 with
        | none, _, _ => trivial
        | some (.sh d'), ⟨x, q1, q2⟩, _ => exact ⟨x, q1, Rep.mono (Evl.Ex.new e4) _ _ q2⟩
        | some (.bo d'), ⟨q, o', q1, q2, q3⟩, _ => exact ⟨q, o', q1, q2, q3.mono (Evl.Ex.new e4)⟩
        | some (.fr d'), ⟨q, o', q1, q2, q3, q4, q5⟩, f2 =>
          refine ⟨q, o', q1, q2, ?_, q4, q5.mono (Evl.Ex.new e4)⟩
          rw [upd_ne fun z => ?_]
          · exact q3
          · subst z q1
            exact I.ap j i _ _ f1 f2 hi (h2.trans e1.symm)
    · rcases set_get h1 with ⟨f1, f2, _⟩ | ⟨f1, f2⟩
      · cases f2
      · rcases set_get h2 with ⟨g1, g2, _⟩ | ⟨g1, g2⟩
        · cases g2
        · exact I.ap j1 j2 d1 d2 ne f2 g2
  · exact ⟨Hi, Evl.Ex.refl _, I⟩
theorem ss_pre {sts : List Stmt} {ss : Sms} (h : RSs X Φ sts ss) : ∀ is : List Nat, RSs X Φ sts (pre is ss)
  | [] => h
  | i :: is => fun ε o e Hi0 H0 Hi H σ Dn I k => by
    have e' : execsD Φ (pre is ss) (frz ε i) = some o := by
      simpa [pre, execsD, execD] using e
    obtain ⟨Hi2, e2, I2⟩ := I.frz i
    exact ss_pre h is (frz ε i) o e' Hi0 H0 Hi2 H σ Dn I2 (k.mono e2)
/-! simple statements -/
theorem s_pas : RS X Φ (.Pass pos) .pas := fun ε o h Hi0 H0 Hi H σ Dn I k => by
  simp only [execD, Option.some.injEq] at h; subst h
  exact sU1_of ps_pass (k Hi H σ (Evl.Ex.refl _) I)
theorem s_brk : RS X Φ (.Break pos) .brk := fun ε o h Hi0 H0 Hi H σ Dn I k => by
  simp only [execD, Option.some.injEq] at h; subst h
  exact sU1_of ps_break (k Hi H σ (Evl.Ex.refl _) I)
theorem s_cnt : RS X Φ (.Continue pos) .cnt := fun ε o h Hi0 H0 Hi H σ Dn I k => by
  simp only [execD, Option.some.injEq] at h; subst h
  exact sU1_of ps_continue (k Hi H σ (Evl.Ex.refl _) I)
theorem s_ret {pe : Expr} {e : Ep} (ha : RE X Φ pe e) : RS X Φ (.Return (some pe) pos) (.ret e) := fun ε o h Hi0 H0 Hi H σ Dn I k => by
  simp only [execD, Option.bind_eq_some_iff] at h
  obtain ⟨r, h1, h2⟩ := h
  have h3 : o = .rt r := by cases r <;> first | (cases h2; rfl) | cases h2
  subst h3
  exact sU1_of (ps_ret peU) (ha ε r h1 Hi0 H0 Hi H σ _ I fun Hi' H' x s o => k Hi' H' x (I.st.trans s) (o.back I.st.h))
theorem s_retN : RS X Φ (.Return none pos) (.ret (.c .non)) := fun ε o h Hi0 H0 Hi H σ Dn I k => by
  simp only [execD, evalD, Option.bind_some, Option.some.injEq] at h
  subst h
  exact sU1_of ps_retN (k Hi H _ I.st rfl)
theorem s_retV {pe : Expr} {i : Nat} (hp : PE X pe (tVar i)) : RS X Φ (.Return (some pe) pos) (.retV i) := fun ε o h Hi0 H0 Hi H σ Dn I k => by
  simp only [execD, Option.bind_eq_some_iff] at h
  obtain ⟨r, h1, h2⟩ := h
  obtain ⟨v, e1, e2⟩ := I.at h1
  match r, e2 with
  | .sh d, ⟨x, q1, q2⟩ =>
    cases h2; subst q1
    exact sU1_of (ps_ret hp) ⟨x, e1, k Hi H x I.st q2⟩
  | .fr d, ⟨p, ob, q1, q2, q3, q4, q5⟩ =>
    cases h2; subst q1
    exact sU1_of (ps_ret hp) ⟨_, e1, k Hi H _ I.st ⟨p, ob, rfl, q2, q3, q4, q5⟩⟩
  | .bo d, _ => cases h2
theorem s_ifs {pc : Expr} {c : Ep} {pa pb : List Stmt} {a b : Sms} (hc : RT X Φ pc c) (ha : RSs X Φ pa a) (hb : RSs X Φ pb b) : RS X Φ (.If pc pa pb pos) (.ifs c a b) := fun ε o h Hi0 H0 Hi H σ Dn I k => by
  simp only [execD, Option.bind_eq_some_iff] at h
  obtain ⟨x, h1, h2⟩ := h
  refine sU1_of (ps_if ptU psU psU) (hc ε x h1 Hi0 H0 Hi H σ _ I fun Hi1 H1 s1 => ?_)
  cases x with
  | true => rw [if_pos rfl]; exact ha ε o h2 Hi0 H0 Hi1 H1 σ _ (I.step s1) (k.mono s1.i)
  | false => rw [if_neg (by decide)]; exact hb ε o h2 Hi0 H0 Hi1 H1 σ _ (I.step s1) (k.mono s1.i)
theorem s_frs {tg pit : Expr} {t : Tg} {it : Epi} {pb : List Stmt} {b : Sms} (hp : PassesOwn (model X.prog X.w) X.A X.env X.xe) (hc : X.calm = true) (hi : RL X Φ tg pit it) (hg : PG X tg (tgT X.K t)) (hs : ∀ x, foldedSetIterable pit X.env x = pure x) (hb : RSs X Φ pb b) :
    RS X Φ (.For tg pit pb [] pos) (.frs t it b) := fun ε o h Hi0 H0 Hi H σ Dn I k => by
  simp only [execD, Option.bind_eq_some_iff] at h
  obtain ⟨xs, h1, h2⟩ := h
  refine sU1_of (ps_for hp hc piU hg psU hs) (hi ε xs h1 Hi0 H0 Hi H σ _ I fun Hi1 H1 J s1 w => ?_)
  refine for_wk (g := tgT X.K t) (tb := sU X pb) (Dn := Dn) (σ := σ) (H := H1) w (fun n σ' H' => ∃ Hi' εn, Ex Hi1 Hi' ∧ EnvOk X.K Hi0 H0 Hi' H' σ' εn ∧ forD t (fun ε2 => execsD Φ b ε2) (xs.drop n) εn = some o)
    ⟨Hi1, ε, Evl.Ex.refl _, I.step s1, h2⟩ (fun n σ' H' ⟨Hi', εn, e, I', _⟩ => ⟨ex_trans e I'.st.s, I'.st.h⟩) ?_ ?_
  · rintro n d x σ' H' hd hx ⟨Hi', εn, e, I', q⟩
    have hn : n < xs.length := (List.getElem?_eq_some_iff.mp hd).1
    have hdr : xs.drop n = d :: xs.drop (n + 1) := by
      rw [List.drop_eq_getElem_cons hn]
      congr 1
      exact Option.some.inj ((List.getElem?_eq_getElem hn).symm.trans hd)
    rw [hdr] at q
    simp only [forD, Option.bind_eq_some_iff] at q
    obtain ⟨ε2, q1, o1, q2, q3⟩ := q
    refine tgT_ok (r := .sh d) q1 I' (Step.refl I'.st.s) (Rep.mono e d x hx) fun σ2 I2 _ => ?_
    refine hb ε2 o1 q2 Hi0 H0 Hi' H' σ2 _ I2 ?_
    cases o1 with
    | nx ε3 => exact fun Hi2 H2 σ3 e2 I3 => ⟨Hi2, ε3, ex_trans e e2, I3, q3⟩
    | ct ε3 => exact fun Hi2 H2 σ3 e2 I3 => ⟨Hi2, ε3, ex_trans e e2, I3, q3⟩
    | bk ε3 => cases q3; exact fun Hi2 H2 σ3 e2 I3 => k Hi2 H2 σ3 (ex_trans s1.i (ex_trans e e2)) I3
    | rt r => cases q3; exact k
  · rintro σ' H' ⟨Hi', εn, e, I', q⟩
    rw [List.drop_length] at q
    cases q
    exact k Hi' H' σ' (ex_trans s1.i e) I'
theorem s_whl {pc : Expr} {c : Ep} {pb : List Stmt} {b : Sms} (hp : PassesOwn (model X.prog X.w) X.A X.env X.xe) (hc : RT X Φ pc c) (hb : RSs X Φ pb b) : RS X Φ (.While pc pb [] pos) (.whl c b) := fun ε o h Hi0 H0 Hi H σ Dn I k => by
  simp only [execD] at h
  refine sU1_of (ps_while hp ptU psU) ⟨fun m σ' H' => ∃ Hi' εn, Ex Hi Hi' ∧ EnvOk X.K Hi0 H0 Hi' H' σ' εn ∧ whlD (fun ε2 => testD Φ c ε2) (fun ε2 => execsD Φ b ε2) m εn = some o, ⟨_, Hi, ε, Evl.Ex.refl _, I, h⟩, ?_⟩
  rintro m σ' H' ⟨Hi', εn, e, I', q⟩
  cases m with
  | zero => cases q
  | succ m =>
    simp only [whlD, Option.bind_eq_some_iff] at q
    obtain ⟨x, q1, q2⟩ := q
    refine hc εn x q1 Hi0 H0 Hi' H' σ' _ I' fun Hi1 H1 s1 => ?_
    cases x with
    | false =>
      cases q2
      rw [if_neg (by decide)]
      exact k Hi1 H1 σ' (ex_trans e s1.i) (I'.step s1)
    | true =>
      rw [if_pos rfl]
      simp only [Option.bind_eq_some_iff] at q2
      obtain ⟨o1, q3, q4⟩ := q2
      refine ⟨fun σ2 H2 => ∃ Hi2 ε3, Ex Hi Hi2 ∧ EnvOk X.K Hi0 H0 Hi2 H2 σ2 ε3 ∧ whlD (fun ε2 => testD Φ c ε2) (fun ε2 => execsD Φ b ε2) m ε3 = some o, fun σ2 H2 z => ⟨m, Nat.lt_succ_self m, z⟩, ?_⟩
      refine hb εn o1 q3 Hi0 H0 Hi1 H1 σ' _ (I'.step s1) ?_
      cases o1 with
      | nx ε3 => exact fun Hi2 H2 σ3 e2 I3 => ⟨Hi2, ε3, ex_trans e (ex_trans s1.i e2), I3, q4⟩
      | ct ε3 => exact fun Hi2 H2 σ3 e2 I3 => ⟨Hi2, ε3, ex_trans e (ex_trans s1.i e2), I3, q4⟩
      | bk ε3 => cases q4; exact fun Hi2 H2 σ3 e2 I3 => k Hi2 H2 σ3 (ex_trans e (ex_trans s1.i e2)) I3
      | rt r => cases q4; exact k
/-! stores -/
theorem s_asg {tg pe : Expr} {te : TE} {t : Tg} {e : Ep} (hp : PS X (.Assign [tg] pe pos) (tAsg te (tgT X.K t))) (ha : ∀ ε r, evalD Φ e ε = some r → ∀ Hi0 H0 Hi H σ (Q : VK), EnvOk X.K Hi0 H0 Hi H σ ε → (∀ Hi' H' x, Step Hi H Hi' H' → VlOk X.K H Hi' H' r x → Q x H') → te σ H Q) :
    RS X Φ (.Assign [tg] pe pos) (.asg t e) := fun ε o h Hi0 H0 Hi H σ Dn I k => by
  simp only [execD, Option.bind_eq_some_iff, Option.map_eq_some_iff] at h
  obtain ⟨r, h1, ε2, h2, rfl⟩ := h
  refine sU1_of hp (ha ε r h1 Hi0 H0 Hi H σ _ I fun Hi' H' x s o => ?_)
  exact tgT_ok h2 I s o fun σ2 I2 _ => k Hi' H' σ2 s.i I2
/-- the list at an owned slot -/
theorem EnvOk.own {K : PySem.W.Frag} {Hi0 H0 Hi H : Hp} {σ : L2.St} {ε : Env} (I : EnvOk K Hi0 H0 Hi H σ ε) {i : Nat} {xs : List D} (h : ownL ε i = some xs) : ε[i]? = some (some (.fr (.lst xs))) ∧ ∃ p vs, σ[i]? = some (some (.ref p)) ∧ H p = some (.lst vs) ∧ Hi p = none ∧ H0 p = none ∧ RepL K Hi xs vs := by
  unfold ownL at h
  split at h
  · rename_i ys hg
    cases h
    obtain ⟨v, e1, p, o, e2, e3, e4, e5, vs, e6, e7⟩ := I.at hg
    subst e2 e6
    exact ⟨getS_some hg, p, vs, e1, e3, e4, e5, e7⟩
  · cases h
theorem EnvOk.put {K : PySem.W.Frag} {Hi0 H0 Hi H : Hp} {σ : L2.St} {ε : Env} (I : EnvOk K Hi0 H0 Hi H σ ε) {i : Nat} {xs xs' : List D} {p : Addr} {vs vs' : List V} (hε : ε[i]? = some (some (.fr (.lst xs)))) (hσ : σ[i]? = some (some (.ref p))) (hH : H p = some (.lst vs)) (hi : Hi p = none) (h0 : H0 p = none)
    (hr : RepL K Hi xs' vs') : EnvOk K Hi0 H0 Hi (upd H p (.lst vs')) σ (putL ε i xs') := by
  refine ⟨⟨I.st.i, Evl.Ex.mut I.st.h h0, Evl.Ex.mut I.st.s hi, I.st.n⟩, by simpa [putL] using I.len, fun j r w h1 h2 => ?_, fun j1 j2 d1 d2 ne h1 h2 => ?_⟩
  · rcases set_get h1 with ⟨f1, f2, _⟩ | ⟨f1, f2⟩
    · subst f1 f2
      rw [hσ] at h2; cases h2
      exact ⟨p, _, rfl, upd_same, hi, h0, _, rfl, hr⟩
    · have q := I.sl j r w f2 h2
      match r, q, f2 with
      | none, _, _ => trivial
      | some (.sh d'), q, _ => exact q
      | some (.bo d'), q, _ => exact q
      | some (.fr d'), ⟨q, o', q1, q2, q3, q4, q5⟩, f2 =>
        refine ⟨q, o', q1, ?_, q3, q4, q5⟩
        rw [upd_ne fun z => ?_]
        · exact q2
        · subst z q1
          exact I.ap j i _ _ f1 f2 hε (h2.trans hσ.symm)
  · have back : ∀ (j : Nat) (d : D), (putL ε i xs')[j]? = some (some (Vl.fr d)) → ∃ d' : D, ε[j]? = some (some (Vl.fr d')) := fun j d hh => by
      rcases set_get hh with ⟨f1, f2, _⟩ | ⟨f1, f2⟩
      · subst f1; exact ⟨_, hε⟩
      · exact ⟨d, f2⟩
    obtain ⟨d1', g1⟩ := back j1 d1 h1
    obtain ⟨d2', g2⟩ := back j2 d2 h2
    exact I.ap j1 j2 d1' d2' ne g1 g2
theorem EnvOk.toHi {K : PySem.W.Frag} {Hi0 H0 Hi H Hi' H' Hi2 : Hp} {σ : L2.St} {ε : Env} (I : EnvOk K Hi0 H0 Hi H σ ε) (s : Step Hi H Hi2 H') : EnvOk K Hi0 H0 Hi2 H' σ ε := I.step s
theorem tyL {K : PySem.W.Frag} {H : Hp} {p : Addr} {vs : List V} (h : H p = some (.lst vs)) : tyV K "list" (.ref p) H := .inl ⟨rfl, vs, SqL.of h⟩
theorem lt5 {n : Nat} (h : n < 100000) : n < sizeLine := Nat.lt_of_lt_of_le h (by decide)
theorem s_app {x : Str} {p apos cpos : Pos} {pe : Expr} {i : Nat} {e : Ep} (hx : PE X (.Name x p) (tVar i)) (ha : RE X Φ pe e) (hs : isStar pe = false) (hl : (apos.endLine == cpos.line) = true) :
    RS X Φ (.Expr (.Call (.Attribute (.Name x p) "append" apos) [pe] [] cpos) pos) (.app i e) := fun ε o h Hi0 H0 Hi H σ Dn I k => by
  simp only [execD, Option.bind_eq_some_iff] at h
  obtain ⟨r, h1, d, h2, xs, h3, h4⟩ := h
  split at h4
  · rename_i hz
    cases h4
    obtain ⟨hε, q, vs, e1, e2, e3, e4, e5⟩ := I.own h3
    refine sU1_of (ps_expr (pe_bm PySem.F.plainAttrs_list PySem.F.slot_list_append PySem.F.type_list_append mt_append hx (pa_cons peU pa_nil (star_no hs)) rfl (by rw [star_no hs]; rfl) hl (star_no hs) rfl) rfl)
      ⟨.ref q, e1, tyL e2, ha ε r h1 Hi0 H0 Hi H σ _ I fun Hi1 H1 u s1 o1 => ?_⟩
    obtain ⟨Hi2, f1, s2, _, f3⟩ := o1.keep s1 h2
    have hq : H1 q = some (.lst vs) := s1.h _ _ e2
    refine ⟨q, vs, u, rfl, rfl, hq, lt5 (by rw [← e5.length]; exact hz), ?_⟩
    have I2 := I.step s2
    exact k Hi2 _ σ s2.i (I2.put hε e1 hq (s2.n q (by rw [e2]; exact fun z => nomatch z) e3) e4 ((RepL.mono s2.i _ _ e5).append (RepL.cons f3 RepL.nil)))
  · cases h4
theorem s_ins {x : Str} {p apos cpos : Pos} {pj pe : Expr} {i : Nat} {j e : Ep} (hx : PE X (.Name x p) (tVar i)) (hj : RE X Φ pj j) (ha : RE X Φ pe e) (hs : isStar pe = false) (hs2 : isStar pj = false) (hl : (apos.endLine == cpos.line) = true) :
    RS X Φ (.Expr (.Call (.Attribute (.Name x p) "insert" apos) [pj, pe] [] cpos) pos) (.ins i j e) := fun ε o h Hi0 H0 Hi H σ Dn I k => by
  simp only [execD, Option.bind_eq_some_iff] at h
  obtain ⟨y, h0, r, h1, d, h2, h3⟩ := h
  split at h3
  · rename_i kk ex
    simp only [Option.bind_eq_some_iff] at h3
    obtain ⟨xs, h4, h5⟩ := h3
    split at h5
    · rename_i hz
      cases h5
      obtain ⟨hε, q, vs, e1, e2, e3, e4, e5⟩ := I.own h4
      refine sU1_of (ps_expr (pe_bm PySem.F.plainAttrs_list PySem.F.slot_list_insert PySem.F.type_list_insert mt_insert hx (pa_cons peU (pa_cons peU pa_nil (star_no hs)) (star_no hs2)) rfl (by rw [star_no hs2, star_no hs]; rfl) hl (star_no hs2) (by rw [star_no hs]; rfl)) rfl)
        ⟨.ref q, e1, tyL e2, hj ε y h0 Hi0 H0 Hi H σ _ I fun Hi1 H1 u s1 o1 => ha ε r h1 Hi0 H0 Hi1 H1 σ _ (I.step s1) fun Hi2 H2 w s2 o2 => ?_⟩
      obtain ⟨Hi3, f1, s3, _, f3⟩ := o2.keep s2 h2
      have s13 := s1.trans s3
      have hq : H2 q = some (.lst vs) := s13.h _ _ e2
      refine ⟨q, vs, kk, w, rfl, by rw [int_of o1 ex], hq, lt5 (by rw [← e5.length]; exact hz.1), hz.2.1, by have := hz.2.2; omega, ?_⟩
      have I2 := I.step s13
      refine k Hi3 _ σ s13.i (I2.put hε e1 hq (s13.n q (by rw [e2]; exact fun z => nomatch z) e3) e4 ?_)
      have g := RepL.mono s13.i _ _ e5
      rw [List.append_assoc]
      exact (g.take _).append ((RepL.cons f3 RepL.nil).append (g.drop _))
    · cases h5
  · cases h3
theorem s_setx {x : Str} {p p2 : Pos} {pj pe : Expr} {i : Nat} {j e : Ep} (hx : PE X (.Name x p) (tVar i)) (hj : RE X Φ pj j) (ha : RE X Φ pe e) (hsl : ∀ a b c d, pj = .Slice a b c d → False) (hc : isComp pe = false) :
    RS X Φ (.Assign [.Subscript (.Name x p) pj p2] pe pos) (.setx i j e) := fun ε o h Hi0 H0 Hi H σ Dn I k => by
  simp only [execD, Option.bind_eq_some_iff] at h
  obtain ⟨r, h1, d, h2, y, h0, h3⟩ := h
  split at h3
  · rename_i kk ex
    simp only [Option.bind_eq_some_iff, Option.map_eq_some_iff] at h3
    obtain ⟨xs, h4, n, h5, rfl⟩ := h3
    obtain ⟨hε, q, vs, e1, e2, e3, e4, e5⟩ := I.own h4
    have hs : swapsWithSole [.Subscript (.Name x p) pj p2] pe pos.line X.env = pure false := by cases pe <;> first | rfl | cases hc
    have hw : swappedStores [.Subscript (.Name x p) pj p2] pe X.env = pure none := by cases pe <;> rfl
    refine sU1_of (ps_asg peU (pg_sub hx peU set_list (fun v => by cases pj <;> first | rfl | exact (hsl _ _ _ _ rfl).elim)) hs hw rfl) (ha ε r h1 Hi0 H0 Hi H σ _ I fun Hi1 H1 u s1 o1 => ?_)
    obtain ⟨Hi2, f1, s2, _, f3⟩ := o1.keep s1 h2
    have I2 := I.step s2
    refine ⟨.ref q, e1, hj ε y h0 Hi0 H0 Hi2 H1 σ _ I2 fun Hi3 H3 w s3 o3 => ?_⟩
    have s23 := s2.trans s3
    have hq : H3 q = some (.lst vs) := s23.h _ _ e2
    refine ⟨q, vs, kk, n, rfl, int_of o3 ex, hq, by rw [← e5.length]; exact h5, ?_⟩
    exact k Hi3 _ σ s23.i ((I.step s23).put hε e1 hq (s23.n q (by rw [e2]; exact fun z => nomatch z) e3) e4 ((RepL.mono s23.i _ _ e5).set (Rep.mono s3.i _ _ f3) n))
  · cases h3
end
end EF
namespace EF
open PySem L2
theorem RepL.dropLast {K : PySem.W.Frag} {H : Hp} {ds : List D} {vs : List V} (h : RepL K H ds vs) : RepL K H ds.dropLast vs.dropLast := by
  rw [List.dropLast_eq_take, List.dropLast_eq_take, h.length]
  exact h.take _
theorem RepL.erase {K : PySem.W.Frag} {H : Hp} {ds : List D} {vs : List V} (h : RepL K H ds vs) (i : Nat) : RepL K H (ds.eraseIdx i) (vs.eraseIdx i) := by
  rw [List.eraseIdx_eq_take_drop_succ, List.eraseIdx_eq_take_drop_succ]
  exact (h.take _).append (h.drop _)
theorem ixN_range {n : Nat} {i : Int} {k : Nat} (h : ixN n i = some k) : -(n : Int) ≤ i ∧ i < n := by
  obtain ⟨_, _, h1, h2⟩ := ixN_seq h
  exact ⟨h1, h2⟩
section
variable {X : Cx} {Φ : Fns} {pos : Pos} {M : Mo} {N : List Str} {sc : Scope}
/-- what pop does, as an expression -/
theorem pop_ok {x : Str} {p apos cpos : Pos} {as : List Expr} {i n : Nat} {a : Epo} (hx : PE X (.Name x p) (tVar i)) (ih : COk M N Φ n) (G : Good M N sc Φ X) (ha : cArg M N n sc as = some a) (hl : (apos.endLine == cpos.line) = true)
    {ε : Env} {k : Option Int} {xs r : List D} {y : D} (h1 : partD Φ a ε = some k) (h2 : ownL ε i = some xs) (h3 : popD xs k = some (y, r)) {Hi0 H0 Hi H : Hp} {σ : L2.St} {Q : VK} (I : EnvOk X.K Hi0 H0 Hi H σ ε)
    (k' : ∀ Hi' H' q vs vs' u, Step Hi H Hi' H' → σ[i]? = some (some (.ref q)) → H' q = some (.lst vs) → RepL X.K Hi' r vs' → Rep X.K Hi' y u → Hi' q = none → H0 q = none → Q u (upd H' q (.lst vs'))) :
    tU X (.Call (.Attribute (.Name x p) "pop" apos) as [] cpos) σ H Q := by
  obtain ⟨hε, q, vs, e1, e2, e3, e4, e5⟩ := I.own h2
  have lenz : vs.length ≤ sizeLine → True := fun _ => trivial
  cases as with
  | nil =>
    cases ha
    simp only [partD, Option.some.injEq] at h1
    subst h1
    simp only [popD, Option.map_eq_some_iff] at h3
    obtain ⟨y', h4, h5⟩ := h3
    cases h5
    obtain ⟨u, f1, f2⟩ := e5.get h4
    refine tU_of (pe_bm0 PySem.F.plainAttrs_list PySem.F.slot_list_pop PySem.F.type_list_pop mt_pop hx rfl hl) ⟨.ref q, e1, tyL e2, q, vs, u, rfl, rfl, e2, by rw [← e5.length]; exact f1, ?_⟩
    exact k' Hi H q vs _ u (Step.refl I.st.s) e1 e2 e5.dropLast f2 e3 e4
  | cons a0 ar =>
    cases ar with
    | cons a1 ar => simp only [cArg] at ha; cases ha
    | nil =>
      simp only [cArg] at ha
      split at ha
      · cases ha
      · rename_i hs
        have hs : isStar a0 = false := by simpa using hs
        simp only [Option.map_eq_some_iff] at ha
        obtain ⟨e, ha1, rfl⟩ := ha
        have he := (ih.e sc a0 e X ha1 G).1
        simp only [partD, Option.bind_eq_some_iff] at h1
        obtain ⟨z, g1, g2⟩ := h1
        split at g2
        · rename_i j ex
          cases g2
          simp only [popD] at h3
          split at h3
          case isFalse => cases h3
          case isTrue hsm =>
          simp only [Option.bind_eq_some_iff, Option.map_eq_some_iff] at h3
          obtain ⟨m, h4, y', h5, h6⟩ := h3
          cases h6
          refine tU_of (pe_bm PySem.F.plainAttrs_list PySem.F.slot_list_pop PySem.F.type_list_pop mt_popAt hx (pa_cons peU pa_nil (star_no hs)) rfl (by rw [star_no hs]; rfl) hl (star_no hs) rfl)
            ⟨.ref q, e1, tyL e2, he ε z g1 Hi0 H0 Hi H σ _ I fun Hi1 H1 u s1 o1 => ?_⟩
          obtain ⟨w, f1, f2⟩ := e5.get h5
          have hq : H1 q = some (.lst vs) := s1.h _ _ e2
          have hr := ixN_range h4
          have hsq := (ixN_seq h4).1
          rw [e5.length] at hr hsq
          have h63 : (vs.length : Int) < 2 ^ 63 ∨ True := .inr trivial
          refine ⟨q, vs, j, m, w, rfl, by rw [int_of o1 ex], hq, ?_, ?_, hsq, f1, ?_⟩
          · have := (smallI_ok hsm).1; omega
          · have := (smallI_ok hsm).2; omega
          · exact k' Hi1 H1 q vs _ w s1 e1 hq ((RepL.mono s1.i _ _ e5).erase m) (Rep.mono s1.i _ _ f2) (s1.n q (by rw [e2]; exact fun z => nomatch z) e3) e4
        · cases g2
theorem sole_no {tg e : Expr} {l : Nat} {env : PySem.Env} (h : isComp e = false) : swapsWithSole [tg] e l env = pure false := by cases e <;> first | rfl | cases h
theorem stores_no {tg e : Expr} {env : PySem.Env} (h : isTup tg = false ∨ isTup e = false) (hl : ∀ a b, tg ≠ .List a b) : swappedStores [tg] e env = pure none := by
  rcases h with h | h
  · cases tg <;> first | rfl | exact absurd rfl (hl _ _) | cases h
  · cases e <;> first | (cases tg <;> rfl) | cases h
theorem tg_form {all : Str → Bool} {tg : Expr} {t : Tg} (h : cTg N sc all tg = some t) (env : PySem.Env) : (assignEach [tg] env).map (·.2) = [assign tg env] ∧ ∀ a b, tg ≠ .List a b := by
  cases tg
  case Name x p => exact ⟨rfl, fun _ _ z => by cases z⟩
  case Tuple a b c => exact ⟨rfl, fun _ _ z => by cases z⟩
  all_goals (simp only [cTg] at h; cases h)
theorem s_popT {x : Str} {p apos cpos : Pos} {as : List Expr} {i n : Nat} {a : Epo} {tg : Expr} {t : Tg} (hx : PE X (.Name x p) (tVar i)) (ih : COk M N Φ n) (G : Good M N sc Φ X) (ha : cArg M N n sc as = some a) (hl : (apos.endLine == cpos.line) = true)
    (hg : PG X tg (tgT X.K t)) (ht : cTg N sc (fun _ => true) tg = some t) : RS X Φ (.Assign [tg] (.Call (.Attribute (.Name x p) "pop" apos) as [] cpos) pos) (.popT t i a) := fun ε o h Hi0 H0 Hi H σ Dn I k => by
  simp only [execD, Option.bind_eq_some_iff, Option.map_eq_some_iff] at h
  obtain ⟨kk, h1, xs, h2, ⟨y, r⟩, h3, ε2, h4, rfl⟩ := h
  obtain ⟨f1, f2⟩ := tg_form ht X.env
  refine sU1_of (ps_asg peU hg (sole_no rfl) (stores_no (.inr rfl) f2) f1) (pop_ok hx ih G ha hl h1 h2 h3 I fun Hi' H' q vs vs' u s e1 e2 e3 e4 e5 e6 => ?_)
  have I2 := (I.step s).put (I.own h2).1 e1 e2 e5 e6 e3
  exact tgT_ok (r := .sh y) h4 I2 (Step.refl I2.st.s) e4 fun σ2 I3 _ => k Hi' _ σ2 s.i I3
theorem s_appPop {x y : Str} {p apos cpos p2 apos2 cpos2 : Pos} {as : List Expr} {i j n : Nat} {a : Epo} (hx : PE X (.Name x p) (tVar i)) (hy : PE X (.Name y p2) (tVar j)) (ih : COk M N Φ n) (G : Good M N sc Φ X) (ha : cArg M N n sc as = some a)
    (hl : (apos.endLine == cpos.line) = true) (hl2 : (apos2.endLine == cpos2.line) = true) :
    RS X Φ (.Expr (.Call (.Attribute (.Name x p) "append" apos) [.Call (.Attribute (.Name y p2) "pop" apos2) as [] cpos2] [] cpos) pos) (.appPop i j a) := fun ε o h Hi0 H0 Hi H σ Dn I k => by
  simp only [execD] at h
  split at h
  · cases h
  · rename_i hij
    simp only [Option.bind_eq_some_iff] at h
    obtain ⟨kk, h1, xs, h2, ⟨z, r⟩, h3, ys, h4, h5⟩ := h
    split at h5
    · rename_i hz
      cases h5
      obtain ⟨hε, q, vs, e1, e2, e3, e4, e5⟩ := I.own h4
      refine sU1_of (ps_expr (pe_bm PySem.F.plainAttrs_list PySem.F.slot_list_append PySem.F.type_list_append mt_append hx (pa_cons peU pa_nil rfl) rfl rfl hl rfl rfl) rfl)
        ⟨.ref q, e1, tyL e2, pop_ok hy ih G ha hl2 h1 h2 h3 I fun Hi' H' q' vs1 vs1' u s f1 f2 f3 f4 f5 f6 => ?_⟩
      have I2 := (I.step s).put (I.own h2).1 f1 f2 f5 f6 f3
      have h4' : ownL (putL ε j r) i = some ys := by
        unfold ownL getS at h4 ⊢
        unfold putL
        rw [List.getElem?_set_ne (Ne.symm hij)]
        exact h4
      obtain ⟨gε, q2, ws, g1, g2, g3, g4, g5⟩ := I2.own h4'
      rw [e1] at g1; cases g1
      refine ⟨q, ws, u, rfl, rfl, g2, lt5 (by rw [← g5.length]; exact hz), ?_⟩
      exact k Hi' _ σ s.i (I2.put gε e1 g2 g3 g4 (g5.append (RepL.cons f4 RepL.nil)))
    · cases h5
/-! ### the compiled text -/
theorem asMeth_some {e : Expr} {x m : Str} {as : List Expr} (h : asMeth e = some (x, m, as)) : ∃ p apos cpos, e = .Call (.Attribute (.Name x p) m apos) as [] cpos ∧ (apos.endLine == cpos.line) = true := by
  unfold asMeth at h
  split at h
  · split at h
    · split at h
      · rename_i hc
        cases h
        exact ⟨_, _, _, rfl, hc.1⟩
      · cases h
    · cases h
  · cases h
theorem cLocal_ok {n : Nat} {x : Str} {i : Nat} (h : cLocal M N n sc x = some i) (G : Good M N sc Φ X) (p : Pos) : PE X (.Name x p) (tVar i) := by
  unfold cLocal at h
  simp only [Option.bind_eq_some_iff] at h
  obtain ⟨e, h1, h2⟩ := h
  cases n with
  | zero => simp only [cE] at h1; cases h1
  | succ n =>
    simp only [cE] at h1
    split at h1
    · rename_i hc
      simp only [Option.map_eq_some_iff] at h1
      obtain ⟨j, h3, h4⟩ := h1
      subst h4
      cases h2
      exact pe_var (by rw [G.hN]; exact slot_ok h3) (by rw [G.hsc]; exact visB_ok hc.1) (beq_no hc.2.1) (beq_no hc.2.2)
    · cases h1
structure GoodS (M : Mo) (N : List Str) (sc : Scope) (Φ : Fns) (X : Cx) : Prop extends Good M N sc Φ X where
  pw : PassesOwn (model X.prog X.w) X.A X.env X.xe
  hf : ∀ x, X.fn x = true
  kd : X.env.scope.kind = .function
theorem swap_val {el : Expr} {gs : List Comprehension} {scope : Scope} {pos py : Pos} {y : Str} {l : Nat} (hk : X.env.scope.kind = .function) : swapsWith (.ListComp el gs scope pos) (some (.Name y py)) l X.env = pure (swapB X.env.scope y py scope pos) := by
  have hb : X.env.blockKind = .function := by unfold PySem.Env.blockKind; rw [hk]; rfl
  unfold swapsWith swapB
  simp only [hb]
  have e : (X.env.kindOf y == some NameKind.local) = decide (X.env.scope.names.lookup y = some .local) := by
    unfold PySem.Env.kindOf
    cases h : X.env.scope.names.lookup y with
    | none => rfl
    | some k => cases k <;> rfl
  simp only [e]
  rfl
end
end EF
namespace EF
open PySem L2
section
variable {M : Mo} {N : List Str} {sc : Scope} {Φ : Fns}
theorem comp_form {n : Nat} {e : Expr} {ee : Ep} (h : isComp e = true) (h1 : cE M N n sc e = some ee) : ∃ el gs scope pos, e = .ListComp el gs scope pos := by
  cases e
  case ListComp a b c d => exact ⟨a, b, c, d, rfl⟩
  case SetComp a b c d => cases n <;> (simp only [cE] at h1; cases h1)
  case DictComp a b c d e => cases n <;> (simp only [cE] at h1; cases h1)
  all_goals cases h
theorem s_ok : ∀ n, (∀ st is s X, cS M N sc n st = some (is, s) → GoodS M N sc Φ X → RS X Φ st s) ∧ (∀ sts ss X, cSs M N sc n sts = some ss → GoodS M N sc Φ X → RSs X Φ sts ss)
  | 0 => by
    refine ⟨fun st is s X h _ => ?_, fun sts ss X h _ => ?_⟩
    · simp only [cS] at h; cases h
    · simp only [cSs] at h; cases h
  | n + 1 => by
    obtain ⟨ih1, ih2⟩ := s_ok n
    have ih := c_ok (M := M) (N := N) (Φ := Φ) n
    refine ⟨fun st is s X h G => ?_, fun sts ss X h G => ?_⟩
    · have G0 : Good M N sc Φ X := G.toGood
      have he : ∀ pe e, cE M N n sc pe = some e → RE X Φ pe e := fun pe e h => (ih.e sc pe e X h G0).1
      have hg : ∀ tg t, cTg N sc (fun _ => true) tg = some t → PG X tg (tgT X.K t) := fun tg t h => cTg_ok h G0 fun x _ => G.hf x
      cases st
      case Assign tgs e p =>
        simp only [cS] at h
        split at h
        · rename_i tg
          split at h
          · rename_i x m as hm
            obtain ⟨p1, p2, p3, rfl, hl⟩ := asMeth_some hm
            split at h
            · rename_i hpop
              subst hpop
              simp only [Option.bind_eq_some_iff, Option.map_eq_some_iff] at h
              obtain ⟨i, h1, a, h2, t, h3, h4⟩ := h
              cases h4
              exact s_popT (cLocal_ok h1 G0 p1) ih G0 h2 hl (hg _ _ h3) h3
            · cases h
          · split at h
            · split at h
              · rename_i x p1
                split at h
                · cases h
                · rename_i hsl
                  split at h
                  · cases h
                  · rename_i hcomp
                    simp only [Option.bind_eq_some_iff, Option.map_eq_some_iff] at h
                    obtain ⟨i, h1, jj, h2, ee, h3, h4⟩ := h
                    cases h4
                    exact s_setx (cLocal_ok h1 G0 p1) (he _ _ h2) (he _ _ h3) hsl (by simpa using hcomp)
              · cases h
            · rename_i hne
              split at h
              · cases h
              · rename_i htt
                simp only [Option.bind_eq_some_iff, Option.map_eq_some_iff] at h
                obtain ⟨ee, h1, t, h2, h4⟩ := h
                cases h4
                obtain ⟨f1, f2⟩ := tg_form h2 X.env
                have htt' : isTup tg = false ∨ isTup e = false := by
                  cases a : isTup tg with
                  | false => exact .inl rfl
                  | true =>
                    cases b : isTup e with
                    | false => exact .inr rfl
                    | true => exact absurd ⟨a, b⟩ htt
                by_cases hcp : isComp e = true
                · obtain ⟨el, gs, scope, pos, rfl⟩ := comp_form hcp h1
                  cases n with
                  | zero => simp only [cE] at h1; cases h1
                  | succ n =>
                  by_cases hnm : ∃ y py, tg = .Name y py
                  · obtain ⟨y, py, rfl⟩ := hnm
                    simp only [cTg, Option.map_eq_some_iff] at h2
                    obtain ⟨i, h3, rfl⟩ := h2
                    have sv := swap_val (X := X) (el := el) (gs := gs) (scope := scope) (pos := pos) (py := py) (y := y) (l := p.line) G.kd
                    cases hsw : swapB X.env.scope y py scope pos with
                    | true =>
                      rw [hsw] at sv
                      have hloc : X.env.scope.names.lookup y = some .local := by
                        unfold swapB at hsw
                        simp only [Bool.and_eq_true, decide_eq_true_eq] at hsw
                        exact hsw.1.1
                      have hN : X.N[i]? = some y := by
                        unfold cTn at h3
                        split at h3
                        · rw [G.hN]; exact slot_ok h3
                        · cases h3
                      obtain ⟨tg, it, ifs, own, g, tt, te, rfl, bk, hg', ht', hel, i3, rd⟩ := c_lc (c_ok (M := M) (N := N) (Φ := Φ) n) G0 h1
                      exact s_asg (t := .n i) (ps_setLc G.calm (by rw [G.hN]; exact G.nd) hN hloc sv piU bk hg' ht' hel (fold_no i3 _)) rd
                    | false =>
                      rw [hsw] at sv
                      exact s_asg (t := .n i) (ps_asg peU (hg (.Name y py) (.n i) (by simp only [cTg, h3]; rfl)) sv (stores_no htt' f2) f1) (he _ _ h1)
                  · have hso : swapsWithSole [tg] (.ListComp el gs scope pos) p.line X.env = pure false := by
                      cases tg <;> first | rfl | exact absurd ⟨_, _, rfl⟩ hnm
                    exact s_asg (ps_asg peU (hg _ _ h2) hso (stores_no htt' f2) f1) (he _ _ h1)
                · exact s_asg (ps_asg peU (hg _ _ h2) (sole_no (by simpa using hcp)) (stores_no htt' f2) f1) (he _ _ h1)
        · cases h
      case Expr e p =>
        simp only [cS] at h
        split at h
        · rename_i x m as hm
          obtain ⟨p1, p2, p3, rfl, hl⟩ := asMeth_some hm
          simp only [Option.bind_eq_some_iff] at h
          obtain ⟨i, h1, h2⟩ := h
          split at h2
          · rename_i hap
            subst hap
            split at h2
            · rename_i a
              split at h2
              · rename_i y m2 as2 hm2
                obtain ⟨p4, p5, p6, rfl, hl2⟩ := asMeth_some hm2
                split at h2
                · rename_i hpop
                  subst hpop
                  simp only [Option.bind_eq_some_iff, Option.map_eq_some_iff] at h2
                  obtain ⟨j, h3, k, h4, h5⟩ := h2
                  cases h5
                  exact s_appPop (cLocal_ok h1 G0 p1) (cLocal_ok h3 G0 p4) ih G0 h4 hl hl2
                · cases h2
              · split at h2
                · cases h2
                · rename_i hs
                  simp only [Option.map_eq_some_iff] at h2
                  obtain ⟨aa, h3, h4⟩ := h2
                  cases h4
                  exact s_app (cLocal_ok h1 G0 p1) (he _ _ h3) (by simpa using hs) hl
            · cases h2
          · split at h2
            · rename_i hin
              subst hin
              split at h2
              · rename_i a b
                split at h2
                · cases h2
                · rename_i hs
                  simp only [Option.bind_eq_some_iff, Option.map_eq_some_iff] at h2
                  obtain ⟨aa, h3, bb, h4, h5⟩ := h2
                  cases h5
                  have hs' : isStar a = false ∧ isStar b = false := by
                    cases ha : isStar a with
                    | true => exact absurd (.inl ha) hs
                    | false => cases hb : isStar b with
                      | true => exact absurd (.inr hb) hs
                      | false => exact ⟨rfl, rfl⟩
                  exact s_ins (cLocal_ok h1 G0 p1) (he _ _ h3) (he _ _ h4) hs'.2 hs'.1 hl
              · cases h2
            · cases h2
        · cases h
      case Return v p =>
        simp only [cS] at h
        split at h
        · rename_i e
          split at h
          · rename_i x q
            simp only [Option.map_eq_some_iff] at h
            obtain ⟨i, h1, h2⟩ := h
            cases h2
            exact s_retV (cLocal_ok h1 G0 q)
          · simp only [Option.map_eq_some_iff] at h
            obtain ⟨ee, h1, h2⟩ := h
            cases h2
            exact s_ret (he _ _ h1)
        · cases h; exact s_retN
      case If c a b p =>
        simp only [cS, Option.bind_eq_some_iff, Option.map_eq_some_iff] at h
        obtain ⟨cc, h1, aa, h2, bb, h3, h4⟩ := h
        cases h4
        exact s_ifs (ih.t sc c cc X h1 G0) (ih2 a aa X h2 G) (ih2 b bb X h3 G)
      case For tg it body els p =>
        simp only [cS] at h
        split at h
        · simp only [Option.bind_eq_some_iff, Option.map_eq_some_iff] at h
          obtain ⟨t, h1, i, h2, b, h3, h4⟩ := h
          cases h4
          obtain ⟨i1, i2, i3⟩ := ih.i sc it i X tg h2 G0
          exact s_frs G.pw G.calm i2 (hg _ _ h1) (fold_no i3 _) (ih2 body b X h3 G)
        · cases h
      case While c body els p =>
        simp only [cS] at h
        split at h
        · simp only [Option.bind_eq_some_iff, Option.map_eq_some_iff] at h
          obtain ⟨cc, h1, b, h3, h4⟩ := h
          cases h4
          exact s_whl G.pw (ih.t sc c cc X h1 G0) (ih2 body b X h3 G)
        · cases h
      case Pass p => simp only [cS] at h; cases h; exact s_pas
      case Break p => simp only [cS] at h; cases h; exact s_brk
      case Continue p => simp only [cS] at h; cases h; exact s_cnt
      all_goals (simp only [cS] at h; cases h)
    · simp only [cSs] at h
      split at h
      · cases h; exact ss_nil
      · rename_i st rest
        simp only [Option.bind_eq_some_iff, Option.map_eq_some_iff] at h
        obtain ⟨⟨is, s⟩, h1, ss', h2, rfl⟩ := h
        exact ss_pre (ss_cons (ih1 st is s X h1 G) (ih2 rest ss' X h2 G)) is
end
end EF
namespace EF
open PySem L2
section
variable {P : Program} {w : World} {K : PySem.W.Frag} {mg : Str → Option Value} {base : Heap}
theorem env_start {Hi H : Hp} (e : Ex Hi H) : ∀ {as : List Vl} {vs : List V} (m : Nat), ArgsOk K Hi H as vs → EnvOk K Hi H Hi H (vs.map some ++ List.replicate m none) (as.map some ++ List.replicate m none) := by
  have sl : ∀ {as : List Vl} {vs : List V} (m : Nat), ArgsOk K Hi H as vs → ∀ (i : Nat) (r : Option Vl) (v : Option V), (as.map some ++ List.replicate m none)[i]? = some r → (vs.map some ++ List.replicate m none)[i]? = some v →
      SlOk K H Hi H r v ∧ ∀ d, r ≠ some (.fr d) := by
    intro as
    induction as with
    | nil =>
      intro vs m h i r v h1 h2
      cases (show vs = [] from h)
      simp only [List.map_nil, List.nil_append, List.getElem?_replicate] at h1
      split at h1
      · cases h1; exact ⟨trivial, fun _ z => nomatch z⟩
      · cases h1
    | cons a as ih =>
      intro vs m h i r v h1 h2
      obtain ⟨x, ys, rfl, h3, h4⟩ := h
      cases i with
      | zero =>
        simp at h1 h2
        subst h1 h2
        match a, h3 with
        | .sh d, h3 => exact ⟨⟨x, rfl, h3⟩, fun _ z => nomatch z⟩
        | .bo d, ⟨p, o, e1, e2, e3⟩ => subst e1; exact ⟨⟨p, o, rfl, e2, e3⟩, fun _ z => nomatch z⟩
      | succ i => exact ih m h4 i r v (by simpa using h1) (by simpa using h2)
  intro as vs m h
  refine ⟨Step.refl e, ?_, fun i r v h1 h2 => (sl m h i r v h1 h2).1, fun i j d e' ne h1 h2 => ?_⟩
  · simp [h.length]
  · exfalso
    have hl : i < (vs.map some ++ List.replicate m (none : Option V)).length := by
      have := (List.getElem?_eq_some_iff.mp h1).1
      simp [h.length] at this ⊢
      exact this
    exact (sl m h i _ _ h1 (List.getElem?_eq_getElem hl)).2 d rfl
/-- a def of the text keeps the promise of its small program -/
theorem def_ok {M : Mo} {Φ : Fns} {x qual : Str} {st : Stmt} {f : Addr} {fd : FuncData} {N ps : List Str} {k n : Nat} {body : Sms} (F : Fun K x qual st f fd) (S : FnScope N ps (defScope st)) (hc : cSs M N (defScope st) n (defBody st) = some body)
    (hb : ∀ x, M.bn.contains x = true → mg x = none)
    (hf : ∀ x g, slot M.fs x = some g → ∃ (fa : Addr) (fd : FuncData) (ps : List Str), mg x = some (.ref fa) ∧ PySem.W.keepIn K (.ref fa) = true ∧ Binds K fd ps [] ∧ FnOk P w K mg base CX0 k fa fd ps (spD K (Φ g) ps.length) ∧ ∀ as r, Φ g as = some r → as.length = ps.length) :
    FnOk P w K mg base CX0 (k + 1) f fd ps (spD K (runD Φ ⟨ps.length, N.length, body⟩) ps.length) := by
  refine F.ok S (fun vs H Q E h => h.1) (fun cdv A outer s H vs Q E hr h => ?_)
  obtain ⟨hl, Hi, as, r, h1, h2, h3, h4⟩ := h
  have G : GoodS M N (defScope st) Φ (cxOf CX0 P w K mg base N qual (defScope st) f cdv A outer s H E).nox := by
    refine ⟨⟨rfl, S.nd, rfl, rfl, hr.units, hb, fun y g hy => ?_⟩, PassesOwn.never, fun _ => rfl, S.kind⟩
    obtain ⟨fa, fd', ps', e1, e2, e3, e4, e5⟩ := hf y g hy
    exact ⟨k, fa, fd', ps', e1, e2, e3, hr, e4, e5⟩
  refine ⟨_, psU, ?_⟩
  unfold runD at h1
  split at h1
  · rename_i hlen
    simp only [Option.bind_eq_some_iff] at h1
    obtain ⟨o, h5, h6⟩ := h1
    have el : as.length = vs.length := h3.length
    have I := env_start (K := K) h2 (N.length - vs.length) h3
    have hR := (s_ok (M := M) (N := N) (sc := defScope st) (Φ := Φ) n).2 (defBody st) body _ hc G
    rw [el] at h5
    refine hR _ o h5 Hi H Hi H (start N vs) _ I ?_
    cases o with
    | rt r' => cases h6; exact fun Hi' H' y s o => h4 Hi' H' y s o
    | nx ε => cases h6; exact fun Hi' H' σ' _ I' => h4 Hi' H' _ I'.st rfl
    | bk ε => cases h6
    | ct ε => cases h6
  · cases h1
/-! ### a table of defs -/
structure Ent where
  x : Str
  st : Stmt
  N : List Str
  ps : List Str
  body : Sms
def Ent.df (e : Ent) : Df := ⟨e.ps.length, e.N.length, e.body⟩
structure EntOk (M : Mo) (e : Ent) : Prop where
  S : FnScope e.N e.ps (defScope e.st)
  c : ∃ n, cSs M e.N (defScope e.st) n (defBody e.st) = some e.body
structure EntAt (K : PySem.W.Frag) (mg : Str → Option Value) (e : Ent) : Prop where
  ex : ∃ (fa : Addr) (fd : FuncData), mg e.x = some (.ref fa) ∧ Fun K e.x e.x e.st fa fd ∧ Binds K fd e.ps []
theorem slot_at : ∀ {tab : List Ent} {x : Str} {f : Nat}, slot (tab.map (·.x)) x = some f → ∃ e, tab[f]? = some e ∧ e.x = x
  | tab, x, f, h => by
    have q := slot_ok h
    rw [List.getElem?_map, Option.map_eq_some_iff] at q
    obtain ⟨e, h1, h2⟩ := q
    exact ⟨e, h1, h2⟩
theorem callD_len {T : List Df} {n f : Nat} {as : List Vl} {r : Vl} {d : Df} (h : callD T n f as = some r) (hd : T[f]? = some d) : as.length = d.np := by
  cases n with
  | zero => cases h
  | succ n =>
    simp only [callD, hd, Option.bind_some] at h
    unfold runD at h
    split at h
    · assumption
    · cases h
theorem tab_ok {M : Mo} {tab : List Ent} (hM : M.fs = tab.map (·.x)) (hok : ∀ e ∈ tab, EntOk M e) (hat : ∀ e ∈ tab, EntAt K mg e) (hb : ∀ x, M.bn.contains x = true → mg x = none) : ∀ (n : Nat) (f : Nat) (e : Ent), tab[f]? = some e →
    ∃ (fa : Addr) (fd : FuncData), mg e.x = some (.ref fa) ∧ PySem.W.keepIn K (.ref fa) = true ∧ Binds K fd e.ps [] ∧ FnOk P w K mg base CX0 n fa fd e.ps (spD K (callD (tab.map Ent.df) n f) e.ps.length)
  | 0, f, e, hf => by
    obtain ⟨fa, fd, h1, h2, h3⟩ := (hat e (List.mem_of_getElem? hf)).ex
    refine ⟨fa, fd, h1, h2.kp, h3, ⟨fun vs H Q E h => h.1, fun A outer s H args us vs Q E hr e0 hb r hsp => ?_⟩⟩
    obtain ⟨_, Hi, as, r, h4, _⟩ := hsp
    cases h4
  | n + 1, f, e, hf => by
    obtain ⟨fa, fd, h1, h2, h3⟩ := (hat e (List.mem_of_getElem? hf)).ex
    obtain ⟨S, m, hc⟩ := hok e (List.mem_of_getElem? hf)
    refine ⟨fa, fd, h1, h2.kp, h3, ?_⟩
    have q := def_ok (P := P) (w := w) (mg := mg) (base := base) (M := M) (Φ := callD (tab.map Ent.df) n) (k := n) h2 S hc hb (fun y g hy => ?_)
    · refine q.imp fun vs H Q E h => ?_
      obtain ⟨hl, Hi, as, r, h4, h5⟩ := h
      refine ⟨hl, Hi, as, r, ?_, h5⟩
      have hd : (tab.map Ent.df)[f]? = some e.df := by rw [List.getElem?_map, hf]; rfl
      simp only [callD, hd, Option.bind_some] at h4
      exact h4
    · rw [hM] at hy
      obtain ⟨e', g1, rfl⟩ := slot_at hy
      obtain ⟨fa', fd', f1, f2, f3, f4⟩ := tab_ok hM hok hat hb n g e' g1
      refine ⟨fa', fd', e'.ps, f1, f2, f3, f4, fun as r hr => ?_⟩
      exact callD_len hr (d := e'.df) (by rw [List.getElem?_map, g1]; rfl)
theorem tab_at {M : Mo} {tab : List Ent} (hM : M.fs = tab.map (·.x)) (hok : ∀ e ∈ tab, EntOk M e) (hat : ∀ e ∈ tab, EntAt K mg e) (hb : ∀ x, M.bn.contains x = true → mg x = none) (n f : Nat) (e : Ent) (hf : tab[f]? = some e) {fa : Addr} {fd : FuncData} (F : Fun K e.x e.x e.st fa fd) :
    FnOk P w K mg base CX0 (n + 1) fa fd e.ps (spD K (callD (tab.map Ent.df) (n + 1) f) e.ps.length) := by
  obtain ⟨S, m, hc⟩ := hok e (List.mem_of_getElem? hf)
  have q := def_ok (P := P) (w := w) (mg := mg) (base := base) (M := M) (Φ := callD (tab.map Ent.df) n) (k := n) F S hc hb (fun y g hy => ?_)
  · refine q.imp fun vs H Q E h => ?_
    obtain ⟨hl, Hi, as, r, h4, h5⟩ := h
    refine ⟨hl, Hi, as, r, ?_, h5⟩
    have hd : (tab.map Ent.df)[f]? = some e.df := by rw [List.getElem?_map, hf]; rfl
    simp only [callD, hd, Option.bind_some] at h4
    exact h4
  · rw [hM] at hy
    obtain ⟨e', g1, rfl⟩ := slot_at hy
    obtain ⟨fa', fd', f1, f2, f3, f4⟩ := tab_ok (P := P) (w := w) (base := base) hM hok hat hb n g e' g1
    refine ⟨fa', fd', e'.ps, f1, f2, f3, f4, fun as r hr => ?_⟩
    exact callD_len hr (d := e'.df) (by rw [List.getElem?_map, g1]; rfl)
end
/-- the scope's conditions, as one test -/
def scopeB (N ps : List Str) (sc : Scope) : Bool :=
  (match sc.kind with | .function => true | _ => false) && !sc.isCoroutine && !sc.isGenerator && decide N.Nodup && decide (N.take ps.length = ps) &&
    (ps.all fun x => match sc.names.lookup x with | some .local => true | some .cell => true | _ => false) && (sc.names.all fun y => match y.2 with | .free => false | _ => true)
theorem scopeB_ok {N ps : List Str} {sc : Scope} (h : scopeB N ps sc = true) : FnScope N ps sc := by
  unfold scopeB at h
  simp only [Bool.and_eq_true, Bool.not_eq_true', decide_eq_true_eq, List.all_eq_true] at h
  obtain ⟨⟨⟨⟨⟨⟨h1, h2⟩, h3⟩, h4⟩, h5⟩, h6⟩, h7⟩ := h
  refine ⟨?_, h2, h3, h4, h5, fun x hx => ?_, fun y hy z => ?_⟩
  · split at h1
    · assumption
    · cases h1
  · have q := h6 x hx
    split at q
    · rename_i e; exact .inl e
    · rename_i e; exact .inr e
    · cases q
  · have q := h7 y hy
    rw [z] at q; cases q
/-- the end: what a law's promise asks -/
theorem law_sp {tab : List Ent} {n f : Nat} (h : ∀ ns : List Int, ns.length ≤ 63 → callD (tab.map Ent.df) n f [.sh (.scr ns)] = some (.sh (.bl true))) (K : PySem.W.Frag) (H : Hp) (a : Addr) (ns : List Int) (hl : ns.length ≤ 63) (hS : SqL K H a (ns.map V.int)) :
    spD K (callD (tab.map Ent.df) n f) 1 [.ref a] H (fun v _ => v = .bl true) fun _ _ _ => False :=
  ⟨rfl, H, _, _, h ns hl, Evl.Ex.refl _, ⟨_, _, rfl, ⟨a, rfl, hS⟩, rfl⟩, fun _ _ _ _ o => o⟩
end EF
namespace EF
open PySem L2
/-! ### what a small program comes to: rules that run it from the root -/
def Wo {α : Type} (o : Option α) (Q : α → Prop) : Prop := ∃ r, o = some r ∧ Q r
def setW (ε : Env) (i : Nat) (r : Option Vl) (Q : Env → Prop) : Prop := Q (ε.set i r)
def asI : D → Option Int
  | .int i => some i
  | _ => none
def asB : D → Option Bool
  | .bl b => some b
  | _ => none
def asL : D → Option (List D)
  | .lst xs => some xs
  | _ => none
def retW (Q : O → Prop) : Vl → Prop
  | .bo _ => False
  | r => Q (.rt r)
def lenW (Q : Vl → Prop) : D → Prop
  | .lst ys => Q (.sh (.int ys.length))
  | .tup ys => Q (.sh (.int ys.length))
  | .scr ns => Q (.sh (.int ns.length))
  | _ => False
/-- a cell of one's own -/
def ownW : Vl → Option D
  | .fr d => some d
  | _ => none
def itemV : Vl → Option (List D)
  | .fr _ => none
  | r => itemsD r.d
def itemE : Vl → Option (List D)
  | .bo _ => none
  | r => itemsD r.d
section
variable {Φ : Fns} {α β : Type}
theorem Wo.mono {o : Option α} {Q Q' : α → Prop} (h : Wo o Q) (k : ∀ r, Q r → Q' r) : Wo o Q' := by obtain ⟨r, h1, h2⟩ := h; exact ⟨r, h1, k r h2⟩
theorem Wo.eq {o : Option α} {r : α} (h : Wo o fun x => x = r) : o = some r := by obtain ⟨x, h1, rfl⟩ := h; exact h1
theorem Wo.of {o : Option α} {r : α} {Q : α → Prop} (h : o = some r) (q : Q r) : Wo o Q := ⟨r, h, q⟩
theorem z_some (r : α) (Q : α → Prop) : Wo (some r) Q = Q r := by simp [Wo]
theorem z_none (Q : α → Prop) : Wo (none : Option α) Q = False := by simp [Wo]
theorem z_bind (o : Option α) (f : α → Option β) (Q : β → Prop) : Wo (o.bind f) Q = Wo o fun x => Wo (f x) Q := by
  cases o <;> simp [Wo]
theorem z_map (o : Option α) (f : α → β) (Q : β → Prop) : Wo (o.map f) Q = Wo o fun x => Q (f x) := by
  cases o <;> simp [Wo]
theorem z_set0 (a r : Option Vl) (l : Env) (Q : Env → Prop) : setW (a :: l) 0 r Q = Q (r :: l) := rfl
theorem z_setS (a r : Option Vl) (l : Env) (n : Nat) (Q : Env → Prop) : setW (a :: l) (n + 1) r Q = setW l n r fun l' => Q (a :: l') := rfl
theorem z_get0 (r : Vl) (l : Env) (Q : Vl → Prop) : Wo (getS (some r :: l) 0) Q = Q r := z_some r Q
theorem z_getS (a : Option Vl) (l : Env) (n : Nat) (Q : Vl → Prop) : Wo (getS (a :: l) (n + 1)) Q = Wo (getS l n) Q := rfl
/-! expressions -/
theorem z_v (i : Nat) (ε : Env) (Q : Vl → Prop) : Wo (evalD Φ (.v i) ε) Q = Wo (getS ε i) fun r => Q r.use := z_map _ _ _
theorem z_c (d : D) (ε : Env) (Q : Vl → Prop) : Wo (evalD Φ (.c d) ε) Q = Q (.sh d) := z_some _ _
theorem z_bin (op : Operator) (a b : Ep) (ε : Env) (Q : Vl → Prop) : Wo (evalD Φ (.bin op a b) ε) Q = Wo (evalD Φ a ε) fun x => Wo (evalD Φ b ε) fun y => Wo (binD op x.d y.d) Q := by simp only [evalD, z_bind]
theorem z_neg (a : Ep) (ε : Env) (Q : Vl → Prop) : Wo (evalD Φ (.neg a) ε) Q = Wo (evalD Φ a ε) fun x => Wo (asI x.d) fun i => Q (.sh (.int (-i))) := by
  simp only [evalD, z_bind]
  congr 1; funext x
  generalize x.d = d
  cases d <;> simp [asI, asB, z_some, z_none]
theorem z_not (a : Ep) (ε : Env) (Q : Vl → Prop) : Wo (evalD Φ (.not a) ε) Q = Wo (evalD Φ a ε) fun x => Wo (asB x.d) fun b => Q (.sh (.bl (!b))) := by
  simp only [evalD, z_bind]
  congr 1; funext x
  generalize x.d = d
  cases d <;> simp [asI, asB, z_some, z_none]
theorem z_and (a b : Ep) (ε : Env) (Q : Vl → Prop) : Wo (evalD Φ (.and a b) ε) Q = Wo (evalD Φ a ε) fun x => Wo (asB x.d) fun t => if t = true then Wo (evalD Φ b ε) Q else Q (.sh (.bl false)) := by
  simp only [evalD, z_bind]
  congr 1; funext x
  generalize x.d = d
  cases d <;> simp [asI, asB, z_some, z_none]
  split <;> simp_all [z_some, z_none]
theorem z_or (a b : Ep) (ε : Env) (Q : Vl → Prop) : Wo (evalD Φ (.or a b) ε) Q = Wo (evalD Φ a ε) fun x => Wo (asB x.d) fun t => if t = true then Q (.sh (.bl true)) else Wo (evalD Φ b ε) Q := by
  simp only [evalD, z_bind]
  congr 1; funext x
  generalize x.d = d
  cases d <;> simp [asI, asB, z_some, z_none]
  split <;> simp_all [z_some, z_none]
theorem z_cmp (op : CmpOp) (a b : Ep) (ε : Env) (Q : Vl → Prop) : Wo (evalD Φ (.cmp op a b) ε) Q = Wo (evalD Φ a ε) fun x => Wo (evalD Φ b ε) fun y => Wo (cmpD op x.d y.d) fun r => Q (.sh (.bl r)) := by simp only [evalD, z_bind, z_map]
theorem z_ix (a b : Ep) (ε : Env) (Q : Vl → Prop) : Wo (evalD Φ (.ix a b) ε) Q = Wo (evalD Φ a ε) fun x => Wo (evalD Φ b ε) fun y => Wo (ixD x.d y.d) Q := by simp only [evalD, z_bind]
theorem z_sl (a : Ep) (l h : Epo) (ε : Env) (Q : Vl → Prop) : Wo (evalD Φ (.sl a l h) ε) Q = Wo (evalD Φ a ε) fun x => Wo (partD Φ l ε) fun i => Wo (partD Φ h ε) fun j => Wo (slD x.d i j) Q := by simp only [evalD, z_bind]
theorem z_tup (es : Eps) (ε : Env) (Q : Vl → Prop) : Wo (evalD Φ (.tup es) ε) Q = Wo (keepsD Φ es ε) fun ds => ds.length ≤ 1000 ∧ Q (.sh (.tup ds)) := by
  simp only [evalD, z_bind]
  congr 1; funext ds
  by_cases h : ds.length ≤ 1000 <;> simp [h, z_some, z_none]
theorem z_lst (es : Eps) (ε : Env) (Q : Vl → Prop) : Wo (evalD Φ (.lst es) ε) Q = Wo (keepsD Φ es ε) fun ds => ds.length ≤ 1000 ∧ Q (.fr (.lst ds)) := by
  simp only [evalD, z_bind]
  congr 1; funext ds
  by_cases h : ds.length ≤ 1000 <;> simp [h, z_some, z_none]
theorem z_call (f : Nat) (es : Eps) (ε : Env) (Q : Vl → Prop) : Wo (evalD Φ (.call f es) ε) Q = Wo (argsD Φ es ε) fun as => Wo (Φ f as) Q := by simp only [evalD, z_bind]
theorem z_bi (b : BI) (es : Eps) (ε : Env) (Q : Vl → Prop) : Wo (evalD Φ (.bi b es) ε) Q = Wo (argsD Φ es ε) fun as => Wo (biD b as) Q := by simp only [evalD, z_bind]
theorem z_isi (t : TyN) (a : Ep) (ε : Env) (Q : Vl → Prop) : Wo (evalD Φ (.isi t a) ε) Q = Wo (evalD Φ a ε) fun x => Wo (isiD t x.d) fun r => Q (.sh (.bl r)) := by simp only [evalD, z_bind, z_map]
theorem z_lrg (a : Ep) (ε : Env) (Q : Vl → Prop) : Wo (evalD Φ (.lrg a) ε) Q = Wo (evalD Φ a ε) fun x => Wo (asI x.d) fun n => (0 ≤ n ∧ n ≤ 100000) ∧ Q (.fr (.lst (rangeD 0 n))) := by
  simp only [evalD, z_bind]
  congr 1; funext x
  generalize x.d = d
  cases d <;> simp only [asI, z_some, z_none]
  rename_i n
  by_cases h : 0 ≤ n ∧ n ≤ 100000 <;> simp [h, z_some, z_none]
theorem z_ife (c a b : Ep) (ε : Env) (Q : Vl → Prop) : Wo (evalD Φ (.ife c a b) ε) Q = Wo (testD Φ c ε) fun t => if t = true then Wo (evalD Φ a ε) Q else Wo (evalD Φ b ε) Q := by
  simp only [evalD, z_bind]
  congr 1; funext t; cases t <;> rfl
theorem z_argsN (ε : Env) (Q : List Vl → Prop) : Wo (argsD Φ .nil ε) Q = Q [] := z_some _ _
theorem z_argsC (e : Ep) (es : Eps) (ε : Env) (Q : List Vl → Prop) : Wo (argsD Φ (.cons e es) ε) Q = Wo (evalD Φ e ε) fun r => Wo (argsD Φ es ε) fun rs => Q (r.argd :: rs) := by simp only [argsD, z_bind, z_map]
theorem z_keepsN (ε : Env) (Q : List D → Prop) : Wo (keepsD Φ .nil ε) Q = Q [] := z_some _ _
theorem z_keepsC (e : Ep) (es : Eps) (ε : Env) (Q : List D → Prop) : Wo (keepsD Φ (.cons e es) ε) Q = Wo (evalD Φ e ε) fun r => Wo r.keep fun d => Wo (keepsD Φ es ε) fun ds => Q (d :: ds) := by simp only [keepsD, z_bind, z_map]
theorem z_pno (ε : Env) (Q : Option Int → Prop) : Wo (partD Φ .no ε) Q = Q none := z_some _ _
theorem z_pso (e : Ep) (ε : Env) (Q : Option Int → Prop) : Wo (partD Φ (.so e) ε) Q = Wo (evalD Φ e ε) fun x => Wo (asI x.d) fun i => Q (some i) := by
  simp only [partD, z_bind]
  congr 1; funext x
  generalize x.d = d
  cases d <;> simp [asI, z_some, z_none]
theorem z_asI (i : Int) (Q : Int → Prop) : Wo (asI (.int i)) Q = Q i := z_some _ _
theorem z_asB (i : Bool) (Q : Bool → Prop) : Wo (asB (.bl i)) Q = Q i := z_some _ _
theorem z_asL (i : List D) (Q : List D → Prop) : Wo (asL (.lst i)) Q = Q i := z_some _ _
/-! values -/
theorem z_addI (i j : Int) (Q : Vl → Prop) : Wo (binD .Add (.int i) (.int j)) Q = Q (.sh (.int (i + j))) := z_some _ _
theorem z_subI (i j : Int) (Q : Vl → Prop) : Wo (binD .Sub (.int i) (.int j)) Q = Q (.sh (.int (i - j))) := z_some _ _
theorem z_ite {c : Prop} [Decidable c] (r : α) (Q : α → Prop) : Wo (if c then some r else none) Q = (c ∧ Q r) := by by_cases h : c <;> simp [h, z_some, z_none]
theorem z_mulI (i j : Int) (Q : Vl → Prop) : Wo (binD .Mult (.int i) (.int j)) Q = (mulOk i j = true ∧ Q (.sh (.int (i * j)))) := z_ite _ _
theorem z_divI (i j : Int) (Q : Vl → Prop) : Wo (binD .FloorDiv (.int i) (.int j)) Q = ((0 < j ∧ j < 1073741824) ∧ Q (.sh (.int (i / j)))) := z_ite _ _
theorem z_modI (i j : Int) (Q : Vl → Prop) : Wo (binD .Mod (.int i) (.int j)) Q = (0 < j ∧ Q (.sh (.int (i % j)))) := z_ite _ _
theorem z_powI (i j : Int) (Q : Vl → Prop) : Wo (binD .Pow (.int i) (.int j)) Q = ((0 ≤ j ∧ j ≤ 1000000 ∧ i.natAbs < 2 ^ 64) ∧ Q (.sh (.int (i ^ j.toNat)))) := z_ite _ _
theorem z_catL (xs ys : List D) (Q : Vl → Prop) : Wo (binD .Add (.lst xs) (.lst ys)) Q = (xs.length + ys.length ≤ 100000 ∧ Q (.fr (.lst (xs ++ ys)))) := z_ite _ _
theorem z_eqI (i j : Int) (Q : Bool → Prop) : Wo (cmpD .Eq (.int i) (.int j)) Q = Q (decide (i = j)) := z_some _ _
theorem z_neI (i j : Int) (Q : Bool → Prop) : Wo (cmpD .NotEq (.int i) (.int j)) Q = Q (!decide (i = j)) := z_some _ _
theorem z_eqB (i j : Bool) (Q : Bool → Prop) : Wo (cmpD .Eq (.bl i) (.bl j)) Q = Q (decide (i = j)) := z_some _ _
theorem z_neB (i j : Bool) (Q : Bool → Prop) : Wo (cmpD .NotEq (.bl i) (.bl j)) Q = Q (!decide (i = j)) := z_some _ _
theorem z_ltI (i j : Int) (Q : Bool → Prop) : Wo (cmpD .Lt (.int i) (.int j)) Q = Q (decide (i < j)) := z_some _ _
theorem z_leI (i j : Int) (Q : Bool → Prop) : Wo (cmpD .LtE (.int i) (.int j)) Q = Q (decide (i ≤ j)) := z_some _ _
theorem z_gtI (i j : Int) (Q : Bool → Prop) : Wo (cmpD .Gt (.int i) (.int j)) Q = Q (decide (j < i)) := z_some _ _
theorem z_geI (i j : Int) (Q : Bool → Prop) : Wo (cmpD .GtE (.int i) (.int j)) Q = Q (decide (j ≤ i)) := z_some _ _
theorem z_lenSh (d : D) (Q : Vl → Prop) : Wo (biD .len [.sh d]) Q = lenW Q d := by cases d <;> simp [biD, Vl.d, lenW, z_some, z_none]
theorem z_lenBo (d : D) (Q : Vl → Prop) : Wo (biD .len [.bo d]) Q = lenW Q d := by cases d <;> simp [biD, Vl.d, lenW, z_some, z_none]
theorem z_lenWL (ys : List D) (Q : Vl → Prop) : lenW Q (.lst ys) = Q (.sh (.int ys.length)) := rfl
theorem z_lenWT (ys : List D) (Q : Vl → Prop) : lenW Q (.tup ys) = Q (.sh (.int ys.length)) := rfl
theorem z_lenWS (ys : List Int) (Q : Vl → Prop) : lenW Q (.scr ys) = Q (.sh (.int ys.length)) := rfl
theorem z_intI (i : Int) (Q : Vl → Prop) : Wo (biD .int [.sh (.int i)]) Q = Q (.sh (.int i)) := z_some _ _
theorem z_maxI (i j : Int) (Q : Vl → Prop) : Wo (biD .max [.sh (.int i), .sh (.int j)]) Q = Q (.sh (.int (max i j))) := z_some _ _
theorem z_minI (i j : Int) (Q : Vl → Prop) : Wo (biD .min [.sh (.int i), .sh (.int j)]) Q = Q (.sh (.int (min i j))) := z_some _ _
theorem z_absI (i : Int) (Q : Vl → Prop) : Wo (biD .abs [.sh (.int i)]) Q = Q (.sh (.int (if i < 0 then -i else i))) := z_some _ _
theorem z_listSh (ys : List D) (Q : Vl → Prop) : Wo (biD .list [.sh (.lst ys)]) Q = Q (.fr (.lst ys)) := z_some _ _
theorem z_listBo (ys : List D) (Q : Vl → Prop) : Wo (biD .list [.bo (.lst ys)]) Q = Q (.fr (.lst ys)) := z_some _ _
theorem z_listT (ys : List D) (Q : Vl → Prop) : Wo (biD .list [.sh (.tup ys)]) Q = Q (.fr (.lst ys)) := z_some _ _
theorem z_tupleSh (ys : List D) (Q : Vl → Prop) : Wo (biD .tuple [.sh (.lst ys)]) Q = Q (.sh (.tup ys)) := z_some _ _
theorem z_tupleBo (ys : List D) (Q : Vl → Prop) : Wo (biD .tuple [.bo (.lst ys)]) Q = Q (.sh (.tup ys)) := z_some _ _
theorem z_tupleT (ys : List D) (Q : Vl → Prop) : Wo (biD .tuple [.sh (.tup ys)]) Q = Q (.sh (.tup ys)) := z_some _ _
theorem z_ixL (xs : List D) (i : Int) (Q : Vl → Prop) : Wo (ixD (.lst xs) (.int i)) Q = Wo (atI xs i) fun d => Q (.sh d) := z_map _ _ _
theorem z_ixT (xs : List D) (i : Int) (Q : Vl → Prop) : Wo (ixD (.tup xs) (.int i)) Q = Wo (atI xs i) fun d => Q (.sh d) := z_map _ _ _
theorem z_ixS (xs : List Int) (i : Int) (Q : Vl → Prop) : Wo (ixD (.scr xs) (.int i)) Q = Wo (atI xs i) fun n => Q (.sh (.int n)) := z_map _ _ _
theorem z_slL (xs : List D) (i j : Option Int) (Q : Vl → Prop) : Wo (slD (.lst xs) i j) Q = Q (.fr (.lst (cutD xs i j))) := z_some _ _
theorem z_keepSh (d : D) (Q : D → Prop) : Wo (Vl.sh d).keep Q = Q d := z_some _ _
theorem z_keepFr (d : D) (Q : D → Prop) : Wo (Vl.fr d).keep Q = Q d := z_some _ _
/-! tests -/
theorem zt_not (a : Ep) (ε : Env) (Q : Bool → Prop) : Wo (testD Φ (.not a) ε) Q = Wo (testD Φ a ε) fun b => Q (!b) := by simp only [testD, z_map]
theorem zt_and (a b : Ep) (ε : Env) (Q : Bool → Prop) : Wo (testD Φ (.and a b) ε) Q = Wo (testD Φ a ε) fun x => if x = true then Wo (testD Φ b ε) Q else Q false := by
  simp only [testD, z_bind]
  congr 1; funext x; cases x <;> simp [z_some]
theorem zt_or (a b : Ep) (ε : Env) (Q : Bool → Prop) : Wo (testD Φ (.or a b) ε) Q = Wo (testD Φ a ε) fun x => if x = true then Q true else Wo (testD Φ b ε) Q := by
  simp only [testD, z_bind]
  congr 1; funext x; cases x <;> simp [z_some]
theorem zt_v (i : Nat) (ε : Env) (Q : Bool → Prop) : Wo (testD Φ (.v i) ε) Q = Wo (getS ε i) fun r => Wo (truD r.use.d) Q := by simp only [testD, z_bind, z_map]
theorem zt_c (d : D) (ε : Env) (Q : Bool → Prop) : Wo (testD Φ (.c d) ε) Q = Wo (truD d) Q := by simp only [testD]
theorem zt_cmp (op : CmpOp) (a b : Ep) (ε : Env) (Q : Bool → Prop) : Wo (testD Φ (.cmp op a b) ε) Q = Wo (evalD Φ a ε) fun x => Wo (evalD Φ b ε) fun y => Wo (cmpD op x.d y.d) Q := by simp only [testD, z_bind]
theorem zt_chn (o1 o2 : CmpOp) (a b c : Ep) (ε : Env) (Q : Bool → Prop) : Wo (testD Φ (.chn o1 o2 a b c) ε) Q = Wo (evalD Φ a ε) fun x => Wo (evalD Φ b ε) fun y => Wo (cmpD o1 x.d y.d) fun t => if t = true then Wo (evalD Φ c ε) fun z => Wo (cmpD o2 y.d z.d) Q else Q false := by
  simp only [testD, z_bind]
  congr 1; funext x; congr 1; funext y; congr 1; funext t; cases t <;> simp [z_some, z_bind]
theorem z_chn (o1 o2 : CmpOp) (a b c : Ep) (ε : Env) (Q : Vl → Prop) : Wo (evalD Φ (.chn o1 o2 a b c) ε) Q = Wo (evalD Φ a ε) fun x => Wo (evalD Φ b ε) fun y => Wo (cmpD o1 x.d y.d) fun t => if t = true then Wo (evalD Φ c ε) fun z => Wo (cmpD o2 y.d z.d) fun r => Q (.sh (.bl r)) else Q (.sh (.bl false)) := by
  simp only [evalD, z_bind]
  congr 1; funext x; congr 1; funext y; congr 1; funext t; cases t <;> simp [z_some, z_bind, z_map]
theorem zt_ix (a b : Ep) (ε : Env) (Q : Bool → Prop) : Wo (testD Φ (.ix a b) ε) Q = Wo (evalD Φ a ε) fun x => Wo (evalD Φ b ε) fun y => Wo (ixD x.d y.d) fun r => Wo (truD r.d) Q := by simp only [testD, z_bind]
theorem zt_call (f : Nat) (es : Eps) (ε : Env) (Q : Bool → Prop) : Wo (testD Φ (.call f es) ε) Q = Wo (argsD Φ es ε) fun as => Wo (Φ f as) fun r => Wo (truD r.d) Q := by simp only [testD, z_bind]
theorem zt_bi (b : BI) (es : Eps) (ε : Env) (Q : Bool → Prop) : Wo (testD Φ (.bi b es) ε) Q = Wo (argsD Φ es ε) fun as => Wo (biD b as) fun r => Wo (truD r.d) Q := by simp only [testD, z_bind]
theorem zt_isi (t : TyN) (a : Ep) (ε : Env) (Q : Bool → Prop) : Wo (testD Φ (.isi t a) ε) Q = Wo (evalD Φ a ε) fun x => Wo (isiD t x.d) Q := by simp only [testD, z_bind]
theorem z_truB (b : Bool) (Q : Bool → Prop) : Wo (truD (.bl b)) Q = Q b := z_some _ _
theorem z_truL (xs : List D) (Q : Bool → Prop) : Wo (truD (.lst xs)) Q = Q (!xs.isEmpty) := z_some _ _
theorem z_matchB {b : Bool} {x y : Option α} (Q : α → Prop) : Wo (match b with | true => x | false => y) Q = if b = true then Wo x Q else Wo y Q := by cases b <;> rfl
/-! statements -/
theorem z_nil (ε : Env) (Q : O → Prop) : Wo (execsD Φ .nil ε) Q = Q (.nx ε) := z_some _ _
/-- a statement, then the rest -/
def andThen (Φ : Fns) (ss : Sms) (Q : O → Prop) : O → Prop
  | .nx ε => Wo (execsD Φ ss ε) Q
  | o => Q o
theorem z_seq (s : Sm) (ss : Sms) (ε : Env) (Q : O → Prop) : Wo (execsD Φ (.cons s ss) ε) Q = Wo (execD Φ s ε) (andThen Φ ss Q) := by
  simp only [execsD, z_bind]
  congr 1; funext o
  cases o <;> simp [andThen, z_some]
theorem z_thenNx (ss : Sms) (ε : Env) (Q : O → Prop) : andThen Φ ss Q (.nx ε) = Wo (execsD Φ ss ε) Q := rfl
theorem z_thenRt (ss : Sms) (r : Vl) (Q : O → Prop) : andThen Φ ss Q (.rt r) = Q (.rt r) := rfl
theorem z_thenBk (ss : Sms) (ε : Env) (Q : O → Prop) : andThen Φ ss Q (.bk ε) = Q (.bk ε) := rfl
theorem z_thenCt (ss : Sms) (ε : Env) (Q : O → Prop) : andThen Φ ss Q (.ct ε) = Q (.ct ε) := rfl
theorem z_asg (t : Tg) (e : Ep) (ε : Env) (Q : O → Prop) : Wo (execD Φ (.asg t e) ε) Q = Wo (evalD Φ e ε) fun r => Wo (bindT t r ε) fun ε2 => Q (.nx ε2) := by simp only [execD, z_bind, z_map]
theorem z_bindSh (i : Nat) (d : D) (ε : Env) (Q : Env → Prop) : Wo (bindT (.n i) (.sh d) ε) Q = setW ε i (some (.sh d)) Q := z_some _ _
theorem z_bindFr (i : Nat) (d : D) (ε : Env) (Q : Env → Prop) : Wo (bindT (.n i) (.fr d) ε) Q = setW ε i (some (.fr d)) Q := z_some _ _
theorem z_bindT (is : List Nat) (ds : List D) (ε : Env) (Q : Env → Prop) : Wo (bindT (.t is) (.sh (.tup ds)) ε) Q = Wo (setAll is ds ε) Q := rfl
theorem z_all0 (ε : Env) (Q : Env → Prop) : Wo (setAll [] [] ε) Q = Q ε := z_some _ _
theorem z_allS (i : Nat) (is : List Nat) (d : D) (ds : List D) (ε : Env) (Q : Env → Prop) : Wo (setAll (i :: is) (d :: ds) ε) Q = setW ε i (some (.sh d)) fun ε2 => Wo (setAll is ds ε2) Q := rfl
theorem z_ret (e : Ep) (ε : Env) (Q : O → Prop) : Wo (execD Φ (.ret e) ε) Q = Wo (evalD Φ e ε) (retW Q) := by
  simp only [execD, z_bind]
  congr 1; funext r; cases r <;> simp [retW, z_some, z_none]
theorem z_retV (i : Nat) (ε : Env) (Q : O → Prop) : Wo (execD Φ (.retV i) ε) Q = Wo (getS ε i) (retW Q) := by
  simp only [execD, z_bind]
  congr 1; funext r; cases r <;> simp [retW, z_some, z_none]
theorem z_rtSh (d : D) (Q : O → Prop) : retW Q (.sh d) = Q (.rt (.sh d)) := rfl
theorem z_rtFr (d : D) (Q : O → Prop) : retW Q (.fr d) = Q (.rt (.fr d)) := rfl
theorem z_ifs (c : Ep) (a b : Sms) (ε : Env) (Q : O → Prop) : Wo (execD Φ (.ifs c a b) ε) Q = Wo (testD Φ c ε) fun t => if t = true then Wo (execsD Φ a ε) Q else Wo (execsD Φ b ε) Q := by
  simp only [execD, z_bind]
  congr 1; funext t; cases t <;> rfl
theorem z_frs (t : Tg) (it : Epi) (b : Sms) (ε : Env) (Q : O → Prop) : Wo (execD Φ (.frs t it b) ε) Q = Wo (loopD Φ it ε) fun xs => Wo (forD t (fun ε2 => execsD Φ b ε2) xs ε) Q := by simp only [execD, z_bind]
theorem z_ownL (ε : Env) (i : Nat) (Q : List D → Prop) : Wo (ownL ε i) Q = Wo (getS ε i) fun l => Wo (ownW l) fun d => Wo (asL d) Q := by
  unfold ownL
  cases getS ε i with
  | none => simp [z_none]
  | some l =>
    rw [z_some]
    cases l with
    | sh d => simp [z_none, ownW]
    | bo d => simp [z_none, ownW]
    | fr d => cases d <;> simp [z_none, z_some, ownW, asL]
theorem z_ownW (d : D) (Q : D → Prop) : Wo (ownW (.fr d)) Q = Q d := z_some _ _
theorem z_app (i : Nat) (e : Ep) (ε : Env) (Q : O → Prop) : Wo (execD Φ (.app i e) ε) Q = Wo (evalD Φ e ε) fun r => Wo r.keep fun d => Wo (getS ε i) fun l => Wo (ownW l) fun c => Wo (asL c) fun xs => xs.length < 100000 ∧ setW ε i (some (.fr (.lst (xs ++ [d])))) fun ε2 => Q (.nx ε2) := by
  simp only [execD, z_bind]
  congr 1; funext r; congr 1; funext d
  rw [z_ownL]
  congr 1; funext l; congr 1; funext c; congr 1; funext xs
  exact z_ite _ _
theorem z_setx (i : Nat) (j e : Ep) (ε : Env) (Q : O → Prop) : Wo (execD Φ (.setx i j e) ε) Q = Wo (evalD Φ e ε) fun r => Wo r.keep fun d => Wo (evalD Φ j ε) fun x => Wo (asI x.d) fun k => Wo (getS ε i) fun l => Wo (ownW l) fun c => Wo (asL c) fun xs => Wo (ixN xs.length k) fun n => setW ε i (some (.fr (.lst (xs.set n d)))) fun ε2 => Q (.nx ε2) := by
  simp only [execD, z_bind]
  congr 1; funext r; congr 1; funext d; congr 1; funext x
  generalize x.d = dx
  cases dx <;> simp only [asI, z_some, z_none, z_bind, z_map]
  rw [z_ownL]
  rfl
theorem z_ins (i : Nat) (j e : Ep) (ε : Env) (Q : O → Prop) : Wo (execD Φ (.ins i j e) ε) Q = Wo (evalD Φ j ε) fun x => Wo (evalD Φ e ε) fun r => Wo r.keep fun d => Wo (asI x.d) fun k => Wo (getS ε i) fun l => Wo (ownW l) fun c => Wo (asL c) fun xs => (xs.length < 100000 ∧ 0 ≤ k ∧ k < 2 ^ 62) ∧ setW ε i (some (.fr (.lst (xs.take k.toNat ++ d :: xs.drop k.toNat)))) fun ε2 => Q (.nx ε2) := by
  simp only [execD, z_bind]
  congr 1; funext x; congr 1; funext r; congr 1; funext d
  generalize x.d = dx
  cases dx <;> simp only [asI, z_some, z_none, z_bind, z_map]
  rw [z_ownL]
  congr 1; funext l; congr 1; funext c; congr 1; funext xs
  exact z_ite _ _
theorem z_popT (t : Tg) (i : Nat) (a : Epo) (ε : Env) (Q : O → Prop) : Wo (execD Φ (.popT t i a) ε) Q = Wo (partD Φ a ε) fun k => Wo (getS ε i) fun l => Wo (ownW l) fun c => Wo (asL c) fun xs => Wo (popD xs k) fun p => setW ε i (some (.fr (.lst p.2))) fun ε1 => Wo (bindT t (.sh p.1) ε1) fun ε2 => Q (.nx ε2) := by
  simp only [execD, z_bind, z_map]
  congr 1; funext k
  rw [z_ownL]
  rfl
theorem z_appPop (i j : Nat) (a : Epo) (ε : Env) (Q : O → Prop) (h : i ≠ j) : Wo (execD Φ (.appPop i j a) ε) Q = Wo (partD Φ a ε) fun k => Wo (getS ε j) fun l => Wo (ownW l) fun c => Wo (asL c) fun xs => Wo (popD xs k) fun p => Wo (getS ε i) fun l2 => Wo (ownW l2) fun c2 => Wo (asL c2) fun ys => ys.length < 100000 ∧ setW ε j (some (.fr (.lst p.2))) fun ε1 => setW ε1 i (some (.fr (.lst (ys ++ [p.1])))) fun ε2 => Q (.nx ε2) := by
  simp only [execD, if_neg h, z_bind]
  congr 1; funext k
  rw [z_ownL]
  congr 1; funext l; congr 1; funext c; congr 1; funext xs; congr 1; funext p
  rw [z_ownL]
  congr 1; funext l2; congr 1; funext c2; congr 1; funext ys
  exact z_ite _ _
theorem z_brk (ε : Env) (Q : O → Prop) : Wo (execD Φ .brk ε) Q = Q (.bk ε) := z_some _ _
theorem z_cnt (ε : Env) (Q : O → Prop) : Wo (execD Φ .cnt ε) Q = Q (.ct ε) := z_some _ _
theorem z_pas (ε : Env) (Q : O → Prop) : Wo (execD Φ .pas ε) Q = Q (.nx ε) := z_some _ _
def frzW (ε : Env) (i : Nat) (Q : Env → Prop) : Prop := Q (frz ε i)
theorem z_fz (i : Nat) (ε : Env) (Q : O → Prop) : Wo (execD Φ (.fz i) ε) Q = frzW ε i fun ε2 => Q (.nx ε2) := z_some _ _
theorem z_fz0s (d : D) (l : Env) (Q : Env → Prop) : frzW (some (.sh d) :: l) 0 Q = Q (some (.sh d) :: l) := rfl
theorem z_fz0b (d : D) (l : Env) (Q : Env → Prop) : frzW (some (.bo d) :: l) 0 Q = Q (some (.bo d) :: l) := rfl
theorem z_fz0n (l : Env) (Q : Env → Prop) : frzW (none :: l) 0 Q = Q (none :: l) := rfl
theorem z_fz0f (d : D) (l : Env) (Q : Env → Prop) : frzW (some (.fr d) :: l) 0 Q = Q (some (.sh d) :: l) := rfl
theorem z_fzS (a : Option Vl) (l : Env) (n : Nat) (Q : Env → Prop) : frzW (a :: l) (n + 1) Q = frzW l n fun l' => Q (a :: l') := by
  unfold frzW frz
  rw [show getS (a :: l) (n + 1) = getS l n from rfl]
  cases getS l n with
  | none => rfl
  | some r => cases r <;> rfl
/-! loops -/
theorem zl_v (i : Nat) (ε : Env) (Q : List D → Prop) : Wo (loopD Φ (.over (.v i)) ε) Q = Wo (getS ε i) fun r => Wo (itemV r) Q := by
  simp only [loopD, z_bind]
  congr 1
theorem zl_r1 (a : Ep) (ε : Env) (Q : List D → Prop) : Wo (loopD Φ (.r1 a) ε) Q = Wo (evalD Φ a ε) fun x => Wo (asI x.d) fun n => smallI n = true ∧ Q (rangeD 0 n) := by
  simp only [loopD, iterD, z_bind]
  congr 1; funext x
  generalize x.d = d
  cases d <;> simp only [asI, z_some, z_none, z_ite]
theorem zi_r1 (a : Ep) (ε : Env) (Q : List D → Prop) : Wo (iterD Φ (.r1 a) ε) Q = Wo (evalD Φ a ε) fun x => Wo (asI x.d) fun n => smallI n = true ∧ Q (rangeD 0 n) := by
  simp only [iterD, z_bind]
  congr 1; funext x
  generalize x.d = d
  cases d <;> simp only [asI, z_some, z_none, z_ite]
theorem zi_over (a : Ep) (ε : Env) (Q : List D → Prop) : Wo (iterD Φ (.over a) ε) Q = Wo (evalD Φ a ε) fun x => Wo (itemsD x.d) Q := by simp only [iterD, z_bind]
theorem zl_r2 (a b : Ep) (ε : Env) (Q : List D → Prop) : Wo (loopD Φ (.r2 a b) ε) Q = Wo (evalD Φ a ε) fun x => Wo (evalD Φ b ε) fun y => Wo (asI x.d) fun l => Wo (asI y.d) fun n => (smallI l = true ∧ smallI n = true) ∧ Q (rangeD l n) := by
  simp only [loopD, iterD, z_bind]
  congr 1; funext x; congr 1; funext y
  generalize x.d = d
  generalize y.d = d2
  cases d <;> cases d2 <;> simp only [asI, z_some, z_none, z_ite]
theorem zl_e (e : Ep) (ε : Env) (Q : List D → Prop) (h : ∀ i, e ≠ .v i) : Wo (loopD Φ (.over e) ε) Q = Wo (evalD Φ e ε) fun r => Wo (itemE r) Q := by
  have q : loopD Φ (.over e) ε = (evalD Φ e ε).bind itemE := by
    cases e <;> first | exact absurd rfl (h _) | (simp only [loopD]; congr 1)
  rw [q, z_bind]
theorem z_itL (xs : List D) (Q : List D → Prop) : Wo (itemsD (.lst xs)) Q = Q xs := z_some _ _
theorem z_itT (xs : List D) (Q : List D → Prop) : Wo (itemsD (.tup xs)) Q = Q xs := z_some _ _
theorem z_itVs (d : D) (Q : List D → Prop) : Wo (itemV (.sh d)) Q = Wo (itemsD d) Q := rfl
theorem z_itVb (d : D) (Q : List D → Prop) : Wo (itemV (.bo d)) Q = Wo (itemsD d) Q := rfl
theorem z_itEs (d : D) (Q : List D → Prop) : Wo (itemE (.sh d)) Q = Wo (itemsD d) Q := rfl
theorem z_itEf (d : D) (Q : List D → Prop) : Wo (itemE (.fr d)) Q = Wo (itemsD d) Q := rfl
/-- a for by an invariant: it goes to the end -/
theorem zl_for {t : Tg} {f : Env → Option O} {Q : O → Prop} (P : Nat → Env → Prop) {xs : List D} {ε : Env} (h0 : P 0 ε) (hs : ∀ (i : Nat) (d : D) (ε : Env), xs[i]? = some d → P i ε → Wo (bindT t (.sh d) ε) fun ε2 => Wo (f ε2) fun o => match o with | .nx ε3 => P (i + 1) ε3 | .ct ε3 => P (i + 1) ε3 | .bk ε3 => Q (.nx ε3) | .rt r => Q (.rt r))
    (hd : ∀ ε, P xs.length ε → Q (.nx ε)) : Wo (forD t f xs ε) Q := by
  have key : ∀ (ys : List D) (i : Nat) (ε : Env), xs.drop i = ys → i ≤ xs.length → P i ε → Wo (forD t f ys ε) Q := by
    intro ys
    induction ys with
    | nil =>
      intro i ε e hi hp
      have : xs.length ≤ i := by have := congrArg List.length e; simp at this; omega
      have e2 : i = xs.length := by omega
      subst e2
      exact ⟨_, rfl, hd ε hp⟩
    | cons y ys ih =>
      intro i ε e hi hp
      have hlt : i < xs.length := by
        have := congrArg List.length e
        simp at this; omega
      have hy : xs[i]? = some y := by
        have := congrArg List.head? e
        rw [List.head?_drop] at this
        exact this
      have htl : xs.drop (i + 1) = ys := by
        have := congrArg List.tail e
        rw [List.tail_drop] at this
        exact this
      obtain ⟨ε2, h1, o, h2, h3⟩ := hs i y ε hy hp
      simp only [forD, h1, h2, Option.bind_some]
      cases o with
      | nx ε3 => exact ih (i + 1) ε3 htl (by omega) h3
      | ct ε3 => exact ih (i + 1) ε3 htl (by omega) h3
      | bk ε3 => exact ⟨_, rfl, h3⟩
      | rt r => exact ⟨_, rfl, h3⟩
  exact key xs 0 ε rfl (Nat.zero_le _) h0
/-! comprehensions -/
def lcF (Φ : Fns) (t : Tg) (cs : Eps) (e : Ep) (ε : Env) (x : D) : Option (Option D) := (bindT t (.sh x) ε).bind fun ε2 => (testsD Φ cs ε2).bind fun
        | true => (evalD Φ e ε2).bind fun r => r.keep.map some
        | false => some none
def wipeW (ε : Env) : List Nat → (Env → Prop) → Prop
  | [], Q => Q ε
  | v :: vs, Q => wipeW ε vs fun ε2 => setW ε2 v none Q
theorem wipeW_eq (ε : Env) : ∀ (vs : List Nat) (Q : Env → Prop), wipeW ε vs Q = Q (wipeE ε vs)
  | [], Q => rfl
  | v :: vs, Q => by
    show wipeW ε vs (fun ε2 => setW ε2 v none Q) = _
    rw [wipeW_eq ε vs]; rfl
theorem z_lc (t : Tg) (it : Epi) (cs : Eps) (e : Ep) (own : List Nat) (ε : Env) (Q : Vl → Prop) : Wo (evalD Φ (.lc t it cs e own) ε) Q = Wo (iterD Φ it ε) fun xs => xs.length ≤ 100000 ∧ wipeW ε own fun ε2 => Wo (lcGo (lcF Φ t cs e ε2) xs) fun ys => Q (.fr (.lst ys)) := by
  simp only [evalD, z_bind, wipeW_eq]
  congr 1; funext xs
  by_cases h : xs.length ≤ 100000
  · simp only [h, if_true, true_and, z_map]; rfl
  · simp [h, z_none]
theorem z_wipe0 (ε : Env) (Q : Env → Prop) : wipeW ε [] Q = Q ε := rfl
theorem z_wipeS (ε : Env) (v : Nat) (vs : List Nat) (Q : Env → Prop) : wipeW ε (v :: vs) Q = wipeW ε vs fun ε2 => setW ε2 v none Q := rfl
theorem z_lcF0 (t : Tg) (e : Ep) (ε : Env) (x : D) (Q : Option D → Prop) : Wo (lcF Φ t .nil e ε x) Q = Wo (bindT t (.sh x) ε) fun ε2 => Wo (evalD Φ e ε2) fun r => Wo r.keep fun d => Q (some d) := by
  unfold lcF
  simp only [z_bind, z_map, testsD, z_some]
theorem z_lcF1 (t : Tg) (c e : Ep) (ε : Env) (x : D) (Q : Option D → Prop) : Wo (lcF Φ t (.cons c .nil) e ε x) Q = Wo (bindT t (.sh x) ε) fun ε2 => Wo (testD Φ c ε2) fun b => if b = true then Wo (evalD Φ e ε2) fun r => Wo r.keep fun d => Q (some d) else Q none := by
  unfold lcF
  simp only [z_bind, testsD]
  congr 1; funext ε2; congr 1; funext b
  cases b <;> simp [z_some, z_bind, z_map]
/-- a comprehension that keeps all, by a relation -/
theorem zc_all {F : D → Option (Option D)} {P : Nat → D → D → Prop} : ∀ {xs : List D} (k : Nat), (∀ (i : Nat) (d : D), xs[i]? = some d → Wo (F d) fun o => ∃ y, o = some y ∧ P (k + i) d y) →
    Wo (lcGo F xs) fun ys => ys.length = xs.length ∧ ∀ (i : Nat) (d y : D), xs[i]? = some d → ys[i]? = some y → P (k + i) d y
  | [], k, _ => ⟨[], rfl, rfl, fun i d y h => by simp at h⟩
  | x :: xs, k, h => by
    obtain ⟨o, h1, y, rfl, h2⟩ := h 0 x rfl
    obtain ⟨ys, h3, h4, h5⟩ := zc_all (xs := xs) (k + 1) fun i d hd => by
      have := h (i + 1) d (by simpa using hd)
      rwa [show k + (i + 1) = k + 1 + i by omega] at this
    refine ⟨y :: ys, by simp [lcGo, h1, h3], by simp [h4], fun i d z hd hz => ?_⟩
    cases i with
    | zero => simp at hd hz; subst hd hz; exact h2
    | succ i =>
      have := h5 i d z (by simpa using hd) (by simpa using hz)
      rwa [show k + 1 + i = k + (i + 1) by omega] at this
/-- a comprehension by a function -/
theorem zc_fun {F : D → Option (Option D)} {g : D → Option D} : ∀ {xs : List D}, (∀ d ∈ xs, F d = some (g d)) → lcGo F xs = some (xs.filterMap g)
  | [], _ => rfl
  | x :: xs, h => by
    have h1 := h x List.mem_cons_self
    have h2 := zc_fun (xs := xs) fun d hd => h d (List.mem_cons_of_mem _ hd)
    simp only [lcGo, h1, h2, Option.bind_some, List.filterMap_cons]
    cases g x <;> rfl
theorem z_run (d : Df) (as : List Vl) (Q : Vl → Prop) (h : as.length = d.np) : Wo (runD Φ d as) Q = Wo (execsD Φ d.body (as.map some ++ List.replicate (d.nn - as.length) none)) fun o => match o with | .rt r => Q r | .nx _ => Q (.sh .non) | _ => False := by
  unfold runD
  rw [if_pos h, z_bind]
  congr 1; funext o
  cases o <;> simp [z_some, z_none]
theorem z_useS (d : D) : (Vl.sh d).use = .sh d := rfl
theorem z_useF (d : D) : (Vl.fr d).use = .bo d := rfl
theorem z_useB (d : D) : (Vl.bo d).use = .bo d := rfl
theorem z_dS (d : D) : (Vl.sh d).d = d := rfl
theorem z_dF (d : D) : (Vl.fr d).d = d := rfl
theorem z_dB (d : D) : (Vl.bo d).d = d := rfl
theorem z_adS (d : D) : (Vl.sh d).argd = .sh d := rfl
theorem z_adF (d : D) : (Vl.fr d).argd = .sh d := rfl
theorem z_adB (d : D) : (Vl.bo d).argd = .bo d := rfl
end
end EF
namespace EF
open PySem L2
def drawT2 : Sms := (.cons (.ifs (.cmp .Gt (.v 5) (.c (.int (0)))) (.cons (.ret (.bin .Mod (.bi .int (.cons (.bin .Mod (.bi .int (.cons (.v 5) .nil)) (.c (.int (1000)))) .nil)) (.v 3))) .nil) .nil) (.cons (.asg (.n 7) (.bin .Mod (.bi .int (.cons (.bin .Add (.bin .Add (.bin .Add (.v 4) (.bin .Mult (.c (.int (7919))) (.v 2))) (.bin .Mult (.c (.int (104729))) (.v 1))) (.c (.int (13)))) .nil)) (.c (.int (2147483647))))) (.cons (.asg (.n 7) (.bin .Mod (.bi .int (.cons (.bin .Mult (.v 7) (.bin .Add (.v 7) (.c (.int (48271))))) .nil)) (.c (.int (2147483629))))) (.cons (.asg (.n 7) (.bin .Mod (.bi .int (.cons (.bin .Add (.bin .Mult (.v 7) (.bin .Add (.v 7) (.c (.int (69621))))) (.bin .Mult (.c (.int (31))) (.v 2))) .nil)) (.c (.int (2147483647))))) (.cons (.ret (.bin .Mod (.bi .int (.cons (.bin .FloorDiv (.v 7) (.c (.int (9)))) .nil)) (.v 3))) .nil)))))
def drawT1 : Sms := (.cons (.asg (.n 5) (.bin .Sub (.v 4) (.bin .Pow (.c (.int (10))) (.c (.int (18)))))) (.cons (.frs (.n 6) (.r1 (.v 2)) (.cons (.ifs (.cmp .Gt (.v 5) (.c (.int (0)))) (.cons (.asg (.n 5) (.bin .FloorDiv (.v 5) (.c (.int (1000))))) .nil) .nil) .nil)) drawT2))
def drawT0 : Sms := (.cons (.ifs (.cmp .Lt (.v 4) (.c (.int (0)))) (.cons (.asg (.n 4) (.bin .Sub (.c (.int (0))) (.v 4))) .nil) .nil) drawT1)
def drawBody : Sms := (.cons (.fz 1) (.cons (.asg (.n 4) (.v 1)) (.cons (.ifs (.cmp .Gt (.bi .len (.cons (.v 0) .nil)) (.c (.int (0)))) (.cons (.asg (.n 4) (.bin .Add (.ix (.v 0) (.bin .Mod (.bi .int (.cons (.v 1) .nil)) (.bi .len (.cons (.v 0) .nil)))) (.bin .FloorDiv (.v 1) (.bi .len (.cons (.v 0) .nil))))) .nil) .nil) drawT0)))
theorem z_at0 {α : Type} (a : α) (l : List α) (Q : α → Prop) : Wo (atI (a :: l) 0) Q = Q a := by
  have h : atI (a :: l) 0 = some a := atI_nat (j := 0) rfl
  rw [h, z_some]
theorem z_at1 {α : Type} (a b : α) (l : List α) (Q : α → Prop) : Wo (atI (a :: b :: l) 1) Q = Q b := by
  have h : atI (a :: b :: l) 1 = some b := atI_nat (j := 1) rfl
  rw [h, z_some]
theorem z_at2 {α : Type} (a b c : α) (l : List α) (Q : α → Prop) : Wo (atI (a :: b :: c :: l) 2) Q = Q c := by
  have h : atI (a :: b :: c :: l) 2 = some c := atI_nat (j := 2) rfl
  rw [h, z_some]
theorem z_at3 {α : Type} (a b c d : α) (l : List α) (Q : α → Prop) : Wo (atI (a :: b :: c :: d :: l) 3) Q = Q d := by
  have h : atI (a :: b :: c :: d :: l) 3 = some d := atI_nat (j := 3) rfl
  rw [h, z_some]
theorem z_last {α : Type} (a : α) (l : List α) (Q : α → Prop) : Wo (atI (l ++ [a]) (-1)) Q = Q a := by
  rw [atI_last, z_some]
theorem z_ixP0 (p : Int × Int) (Q : Vl → Prop) : Wo (ixD (pairD p) (.int 0)) Q = Q (.sh (.int p.1)) := by
  unfold pairD; rw [z_ixT, z_at0]
theorem z_ixP1 (p : Int × Int) (Q : Vl → Prop) : Wo (ixD (pairD p) (.int 1)) Q = Q (.sh (.int p.2)) := by
  unfold pairD; rw [z_ixT, z_at1]
theorem z_bindP (i j : Nat) (p : Int × Int) (ε : Env) (Q : Env → Prop) : Wo (bindT (.t [i, j]) (.sh (pairD p)) ε) Q = setW ε i (some (.sh (.int p.1))) fun ε1 => setW ε1 j (some (.sh (.int p.2))) Q := by
  unfold pairD; rw [z_bindT, z_allS]
  simp only [z_allS, z_all0]
theorem z_isB (i j : Bool) (Q : Bool → Prop) : Wo (cmpD .Is (.bl i) (.bl j)) Q = Q (decide (i = j)) := z_some _ _
theorem z_isiB (t : TyN) (i : Bool) (Q : Bool → Prop) : Wo (isiD t (.bl i)) Q = Q (match t with | .int => true | .bool => true | _ => false) := by cases t <;> exact z_some _ _
theorem z_isiI (t : TyN) (i : Int) (Q : Bool → Prop) : Wo (isiD t (.int i)) Q = Q (match t with | .int => true | _ => false) := by cases t <;> exact z_some _ _
theorem z_isiT (t : TyN) (i : List D) (Q : Bool → Prop) : Wo (isiD t (.tup i)) Q = Q (match t with | .tuple => true | _ => false) := by cases t <;> exact z_some _ _
theorem z_isiL (t : TyN) (i : List D) (Q : Bool → Prop) : Wo (isiD t (.lst i)) Q = Q (match t with | .list => true | _ => false) := by cases t <;> exact z_some _ _
theorem z_isiP (t : TyN) (p : Int × Int) (Q : Bool → Prop) : Wo (isiD t (pairD p)) Q = Q (match t with | .tuple => true | _ => false) := by cases t <;> exact z_some _ _
local macro_rules | `(tactic| walk_at "vc") => `(tactic| try simp only [↓z_some, ↓z_set0, ↓z_setS, ↓z_get0, ↓z_getS, ↓z_v, ↓z_c, ↓z_bin, ↓z_neg, ↓z_not, ↓z_and, ↓z_or, ↓z_cmp, ↓z_chn, ↓z_ix, ↓z_sl, ↓z_tup, ↓z_lst, ↓z_call, ↓z_bi, ↓z_isi, ↓z_lrg, ↓z_lc, ↓z_wipe0, ↓z_wipeS, ↓z_lcF0, ↓z_lcF1, ↓z_ife, ↓z_argsN, ↓z_argsC, ↓z_keepsN, ↓z_keepsC, ↓z_pno, ↓z_pso, ↓z_asI, ↓z_asB, ↓z_asL,
  ↓z_addI, ↓z_subI, ↓z_mulI, ↓z_divI, ↓z_modI, ↓z_powI, ↓z_catL, ↓z_eqI, ↓z_neI, ↓z_eqB, ↓z_neB, ↓z_ltI, ↓z_leI, ↓z_gtI, ↓z_geI, ↓z_lenSh, ↓z_lenBo, ↓z_lenWL, ↓z_lenWT, ↓z_lenWS, ↓z_intI, ↓z_maxI, ↓z_minI, ↓z_absI, ↓z_listSh, ↓z_listBo, ↓z_listT, ↓z_tupleSh, ↓z_tupleBo, ↓z_tupleT, ↓z_ixL, ↓z_ixT, ↓z_ixS, ↓z_slL, ↓z_keepSh, ↓z_keepFr,
  ↓zt_not, ↓zt_and, ↓zt_or, ↓zt_v, ↓zt_c, ↓zt_cmp, ↓zt_chn, ↓zt_ix, ↓zt_call, ↓zt_bi, ↓zt_isi, ↓z_truB, ↓z_truL, ↓z_nil, ↓z_seq, ↓z_thenNx, ↓z_thenRt, ↓z_thenBk, ↓z_thenCt, ↓z_asg, ↓z_bindSh, ↓z_bindFr, ↓z_bindT, ↓z_all0, ↓z_allS, ↓z_ret, ↓z_retV, ↓z_rtSh, ↓z_rtFr, ↓z_ifs, ↓z_frs, ↓z_ownW, ↓z_app, ↓z_setx, ↓z_ins, ↓z_popT, ↓z_brk, ↓z_cnt, ↓z_pas, ↓z_fz, ↓z_fz0s, ↓z_fz0b, ↓z_fz0n, ↓z_fz0f, ↓z_fzS,
  ↓zl_v, ↓zl_r1, ↓zl_r2, ↓zi_r1, ↓zi_over, ↓z_itL, ↓z_itT, ↓z_itVs, ↓z_itVb, ↓z_itEs, ↓z_itEf, ↓z_useS, ↓z_useF, ↓z_useB, ↓z_dS, ↓z_dF, ↓z_dB, ↓z_adS, ↓z_adF, ↓z_adB, ↓z_at0, ↓z_at1, ↓z_at2, ↓z_at3, ↓z_last, ↓z_ixP0, ↓z_ixP1, ↓z_bindP, ↓z_isB, ↓z_isiB, ↓z_isiI, ↓z_isiT, ↓z_isiL, ↓z_isiP])
/-! ### small facts -/
theorem mulL {i j : Int} (h1 : -(2 ^ 64) < i) (h2 : i < 2 ^ 64) : mulOk i j = true := by
  unfold mulOk; exact decide_eq_true (.inl ⟨h1, h2⟩)
theorem mulR {i j : Int} (h1 : -(2 ^ 64) < j) (h2 : j < 2 ^ 64) : mulOk i j = true := by
  unfold mulOk; exact decide_eq_true (.inr ⟨h1, h2⟩)
theorem smallI_of {i : Int} (h1 : -(2 ^ 62) ≤ i) (h2 : i < 2 ^ 62) : smallI i = true := by
  unfold smallI; exact decide_eq_true ⟨h1, h2⟩
theorem atI_ge {α : Type} {xs : List α} {i : Int} (h0 : 0 ≤ i) (h1 : i < xs.length) : ∃ v, atI xs i = some v ∧ xs[i.toNat]? = some v := by
  have hl : i.toNat < xs.length := by omega
  refine ⟨xs[i.toNat], ?_, List.getElem?_eq_getElem hl⟩
  unfold atI ixN
  rw [if_pos h0, if_pos h1]
  simp [hl]
theorem rangeD_get {lo hi : Int} {i : Nat} {d : D} (h : (rangeD lo hi)[i]? = some d) : d = .int (lo + i) ∧ lo + (i : Int) < hi := by
  unfold rangeD at h
  rw [List.getElem?_map, Option.map_eq_some_iff] at h
  obtain ⟨j, h1, rfl⟩ := h
  obtain ⟨h2, h3⟩ := List.getElem?_eq_some_iff.mp h1
  simp at h2 h3
  subst h3
  exact ⟨rfl, by omega⟩
theorem if_of {c A B : Prop} [Decidable c] (h1 : c → A) (h2 : ¬ c → B) : if (decide c) = true then A else B := by
  by_cases h : c
  · rw [if_pos (decide_eq_true h)]; exact h1 h
  · rw [if_neg (by simpa using h)]; exact h2 h
theorem if_b {b : Bool} {A B : Prop} (h1 : b = true → A) (h2 : b = false → B) : if b = true then A else B := by
  cases b
  · exact h2 rfl
  · exact h1 rfl
theorem wo_nx {x : Option O} {P : Env → Prop} {Q : O → Prop} (h : Wo x fun o => match o with | .nx e => P e | _ => False) (hq : ∀ e, P e → Q (.nx e)) : Wo x Q :=
  Wo.mono h fun o ho => by
    cases o
    · exact hq _ ho
    all_goals exact ho.elim
theorem z_ff {A B : Prop} : (if false = true then A else B) = B := if_neg (by decide)
theorem z_tt {A B : Prop} : (if true = true then A else B) = A := if_pos rfl
theorem z_ntt {A B : Prop} : (if (!true) = true then A else B) = B := if_neg (by decide)
theorem z_nff {A B : Prop} : (if (!false) = true then A else B) = A := if_pos rfl
abbrev QT : O → Prop := fun o => match o with | .rt r => r = Vl.sh (.bl true) | .nx _ => Vl.sh .non = Vl.sh (.bl true) | _ => False
/-! ### data that can be compared -/
structure Sh (k : Nat) (d : D) : Prop where
  c : (toPy d).canLay0 = true
  e : (toPy d).depth ≤ k
theorem Sh.int {k : Nat} (i : Int) : Sh (k + 1) (.int i) := ⟨rfl, by simp [toPy, PyData.depth]⟩
theorem Sh.bl {k : Nat} (i : Bool) : Sh (k + 1) (.bl i) := ⟨rfl, by simp [toPy, PyData.depth]⟩
theorem Sh.non {k : Nat} : Sh (k + 1) .non := ⟨rfl, by simp [toPy, PyData.depth]⟩
theorem Sh.all {k : Nat} : ∀ {ds : List D}, (∀ d ∈ ds, Sh k d) → PyData.canLayAll0 (toPys ds) = true ∧ PyData.depthAll (toPys ds) ≤ k
  | [], _ => ⟨rfl, by simp [toPys, PyData.depthAll]⟩
  | d :: ds, h => by
    obtain ⟨h1, h2⟩ := h d List.mem_cons_self
    obtain ⟨h3, h4⟩ := Sh.all (ds := ds) fun z hz => h z (List.mem_cons_of_mem _ hz)
    refine ⟨by simp [toPys, PyData.canLayAll0, h1, h3], ?_⟩
    simp only [toPys, PyData.depthAll]
    omega
theorem Sh.lst {k : Nat} {ds : List D} (h : ∀ d ∈ ds, Sh k d) : Sh (k + 1) (.lst ds) := by
  obtain ⟨h1, h2⟩ := Sh.all h
  refine ⟨by simpa [toPy, PyData.canLay0] using h1, ?_⟩
  simp only [toPy, PyData.depth]
  omega
theorem Sh.tup {k : Nat} {ds : List D} (h : ∀ d ∈ ds, Sh k d) : Sh (k + 1) (.tup ds) := by
  obtain ⟨h1, h2⟩ := Sh.all h
  refine ⟨by simpa [toPy, PyData.canLay0] using h1, ?_⟩
  simp only [toPy, PyData.depth]
  omega
theorem Sh.ints {k : Nat} (ns : List Int) : Sh (k + 2) (.lst (ns.map D.int)) := Sh.lst fun d hd => by
  obtain ⟨n, _, rfl⟩ := List.mem_map.mp hd
  exact Sh.int n
theorem Sh.pair {k : Nat} (p : Int × Int) : Sh (k + 2) (pairD p) := Sh.tup fun d hd => by
  simp at hd
  rcases hd with rfl | rfl
  · exact Sh.int _
  · exact Sh.int _
theorem Sh.pairs {k : Nat} (ps : List (Int × Int)) : Sh (k + 3) (.lst (ps.map pairD)) := Sh.lst fun d hd => by
  obtain ⟨n, _, rfl⟩ := List.mem_map.mp hd
  exact Sh.pair n
theorem Sh.shaped {d : D} (h : Sh 64 d) : SeqAt.shaped (toPy d) = true := by
  unfold SeqAt.shaped
  rw [h.c, decide_eq_true h.e]; rfl
theorem eq_lst {xs ys : List D} (h1 : Sh 64 (.lst xs)) (h2 : Sh 64 (.lst ys)) : cmpD .Eq (.lst xs) (.lst ys) = some (PyData.eqv (toPy (.lst xs)) (toPy (.lst ys))) := by
  simp only [cmpD, eqD, h1.shaped, h2.shaped, and_self, if_true]
theorem ne_lst {xs ys : List D} (h1 : Sh 64 (.lst xs)) (h2 : Sh 64 (.lst ys)) : cmpD .NotEq (.lst xs) (.lst ys) = some (!PyData.eqv (toPy (.lst xs)) (toPy (.lst ys))) := by
  simp only [cmpD, eqD, h1.shaped, h2.shaped, and_self, if_true, Option.map_some]
theorem eq_tup {xs ys : List D} (h1 : Sh 64 (.tup xs)) (h2 : Sh 64 (.tup ys)) : cmpD .Eq (.tup xs) (.tup ys) = some (PyData.eqv (toPy (.tup xs)) (toPy (.tup ys))) := by
  simp only [cmpD, eqD, h1.shaped, h2.shaped, and_self, if_true]
theorem ne_self_l {xs : List D} (h1 : Sh 64 (.lst xs)) : cmpD .NotEq (.lst xs) (.lst xs) = some false := by
  rw [ne_lst h1 h1, SeqAt.eqv_refl _ h1.c]; rfl
theorem eq_self_l {xs : List D} (h1 : Sh 64 (.lst xs)) : cmpD .Eq (.lst xs) (.lst xs) = some true := by
  rw [eq_lst h1 h1, SeqAt.eqv_refl _ h1.c]
/-! ### the draw -/
theorem drawT2_ok {Φ : Fns} {n0 : D} {p s z c l : Int} {x6 : Option Vl} (hz : 0 < z) : Wo (execsD Φ drawT2 [some (.sh n0), some (.sh (.int p)), some (.sh (.int s)), some (.sh (.int z)), some (.sh (.int c)), some (.sh (.int l)), x6, none]) fun o => ∃ r, o = .rt (.sh (.int r)) ∧ 0 ≤ r ∧ r < z := by
  unfold drawT2
  walk_at "vc"
  have ez : ∀ a : Int, 0 ≤ a % z ∧ a % z < z := fun a => ⟨Int.emod_nonneg _ (by omega), Int.emod_lt_of_pos _ hz⟩
  refine if_of (fun h => ⟨by decide, hz, _, rfl, ez _⟩) (fun h => ⟨mulL (by decide) (by decide), mulL (by decide) (by decide), by decide, mulL ?_ ?_, by decide, mulL ?_ ?_, mulL (by decide) (by decide), by decide, by decide, hz, _, rfl, ez _⟩)
  all_goals omega
theorem drawT1_ok {Φ : Fns} {n0 : D} {p s z c : Int} (hs : 0 ≤ s) (hs2 : s < 2 ^ 60) (hz : 0 < z) : Wo (execsD Φ drawT1 [some (.sh n0), some (.sh (.int p)), some (.sh (.int s)), some (.sh (.int z)), some (.sh (.int c)), none, none, none]) fun o => ∃ r, o = .rt (.sh (.int r)) ∧ 0 ≤ r ∧ r < z := by
  unfold drawT1
  walk_at "vc"
  refine ⟨⟨by decide, by decide, by decide⟩, smallI_of (by omega) (by omega), zl_for (fun _ ε => ∃ l x6, ε = [some (.sh n0), some (.sh (.int p)), some (.sh (.int s)), some (.sh (.int z)), some (.sh (.int c)), some (.sh (.int l)), x6, none]) ⟨_, _, rfl⟩ ?_ ?_⟩
  · rintro i d ε hd ⟨l, x6, rfl⟩
    obtain ⟨rfl, _⟩ := rangeD_get hd
    walk_at "vc"
    exact if_of (fun h => ⟨by decide, _, _, rfl⟩) (fun h => ⟨_, _, rfl⟩)
  · rintro ε ⟨l, x6, rfl⟩
    exact drawT2_ok hz
theorem draw_ok {Φ : Fns} {ns : List Int} {p s z : Int} (hl : ns.length ≤ 63) (hp : 0 ≤ p) (hs : 0 ≤ s) (hs2 : s < 2 ^ 60) (hz : 0 < z) : Wo (runD Φ ⟨4, 8, drawBody⟩ [.sh (.scr ns), .sh (.int p), .sh (.int s), .sh (.int z)]) fun r => ∃ i, r = .sh (.int i) ∧ 0 ≤ i ∧ i < z := by
  have t0 : ∀ c : Int, Wo (execsD Φ drawT0 [some (.sh (.scr ns)), some (.sh (.int p)), some (.sh (.int s)), some (.sh (.int z)), some (.sh (.int c)), none, none, none]) fun o => ∃ r, o = .rt (.sh (.int r)) ∧ 0 ≤ r ∧ r < z := fun c => by
    unfold drawT0
    walk_at "vc"
    exact if_of (fun _ => drawT1_ok hs hs2 hz) (fun _ => drawT1_ok hs hs2 hz)
  rw [z_run _ _ _ rfl]
  show Wo (execsD Φ drawBody [some (.sh (.scr ns)), some (.sh (.int p)), some (.sh (.int s)), some (.sh (.int z)), none, none, none, none]) _
  refine Wo.mono (Q := fun o => ∃ r, o = .rt (.sh (.int r)) ∧ 0 ≤ r ∧ r < z) ?_ ?_
  · unfold drawBody
    walk_at "vc"
    refine if_of (fun h => ?_) (fun h => t0 _)
    have e1 := Int.emod_nonneg p (b := (ns.length : Int)) (by omega)
    have e2 := Int.emod_lt_of_pos p (b := (ns.length : Int)) h
    obtain ⟨v, hv, _⟩ := atI_ge e1 e2
    exact ⟨h, v, hv, ⟨h, by omega⟩, t0 _⟩
  · rintro o ⟨r, rfl, h1, h2⟩
    exact ⟨r, rfl, h1, h2⟩
end EF
namespace EF
open PySem L2
local macro_rules | `(tactic| walk_at "vc") => `(tactic| try simp only [↓z_some, ↓z_ff, ↓z_tt, ↓z_ntt, ↓z_nff, ↓z_set0, ↓z_setS, ↓z_get0, ↓z_getS, ↓z_v, ↓z_c, ↓z_bin, ↓z_neg, ↓z_not, ↓z_and, ↓z_or, ↓z_cmp, ↓z_chn, ↓z_ix, ↓z_sl, ↓z_tup, ↓z_lst, ↓z_call, ↓z_bi, ↓z_isi, ↓z_lrg, ↓z_lc, ↓z_wipe0, ↓z_wipeS, ↓z_lcF0, ↓z_lcF1, ↓z_ife, ↓z_argsN, ↓z_argsC, ↓z_keepsN, ↓z_keepsC, ↓z_pno, ↓z_pso, ↓z_asI, ↓z_asB, ↓z_asL,
  ↓z_addI, ↓z_subI, ↓z_mulI, ↓z_divI, ↓z_modI, ↓z_powI, ↓z_catL, ↓z_eqI, ↓z_neI, ↓z_eqB, ↓z_neB, ↓z_ltI, ↓z_leI, ↓z_gtI, ↓z_geI, ↓z_lenSh, ↓z_lenBo, ↓z_lenWL, ↓z_lenWT, ↓z_lenWS, ↓z_intI, ↓z_maxI, ↓z_minI, ↓z_absI, ↓z_listSh, ↓z_listBo, ↓z_listT, ↓z_tupleSh, ↓z_tupleBo, ↓z_tupleT, ↓z_ixL, ↓z_ixT, ↓z_ixS, ↓z_slL, ↓z_keepSh, ↓z_keepFr,
  ↓zt_not, ↓zt_and, ↓zt_or, ↓zt_v, ↓zt_c, ↓zt_cmp, ↓zt_chn, ↓zt_ix, ↓zt_call, ↓zt_bi, ↓zt_isi, ↓z_truB, ↓z_truL, ↓z_nil, ↓z_seq, ↓z_thenNx, ↓z_thenRt, ↓z_thenBk, ↓z_thenCt, ↓z_asg, ↓z_bindSh, ↓z_bindFr, ↓z_bindT, ↓z_all0, ↓z_allS, ↓z_ret, ↓z_retV, ↓z_rtSh, ↓z_rtFr, ↓z_ifs, ↓z_frs, ↓z_ownW, ↓z_app, ↓z_setx, ↓z_ins, ↓z_popT, ↓z_brk, ↓z_cnt, ↓z_pas, ↓z_fz, ↓z_fz0s, ↓z_fz0b, ↓z_fz0n, ↓z_fz0f, ↓z_fzS,
  ↓zl_v, ↓zl_r1, ↓zl_r2, ↓zi_r1, ↓zi_over, ↓z_itL, ↓z_itT, ↓z_itVs, ↓z_itVb, ↓z_itEs, ↓z_itEf, ↓z_useS, ↓z_useF, ↓z_useB, ↓z_dS, ↓z_dF, ↓z_dB, ↓z_adS, ↓z_adF, ↓z_adB, ↓z_at0, ↓z_at1, ↓z_at2, ↓z_at3, ↓z_last, ↓z_ixP0, ↓z_ixP1, ↓z_bindP, ↓z_isB, ↓z_isiB, ↓z_isiI, ↓z_isiT, ↓z_isiL, ↓z_isiP])

/-! ### lists of whole numbers -/
abbrev LI (xs : List Int) : D := .lst (xs.map D.int)
abbrev TI (xs : List Int) : D := .tup (xs.map D.int)
theorem LI_get {xs : List Int} {i : Nat} {d : D} (h : (xs.map D.int)[i]? = some d) : ∃ p, xs[i]? = some p ∧ d = .int p := by
  rw [List.getElem?_map, Option.map_eq_some_iff] at h
  obtain ⟨p, h1, rfl⟩ := h
  exact ⟨p, h1, rfl⟩
theorem atI_LI {xs : List Int} {i : Nat} {a : Int} (h : xs[i]? = some a) : atI (xs.map D.int) (i : Int) = some (.int a) := atI_nat (by rw [List.getElem?_map, h]; rfl)
theorem atI_LI' {xs : List Int} {i : Int} {a : Int} (h0 : 0 ≤ i) (h : xs[i.toNat]? = some a) : atI (xs.map D.int) i = some (.int a) := by
  have := atI_LI h
  rwa [Int.toNat_of_nonneg h0] at this
theorem z_maxLI {xs : List Int} {a : Vl} (ha : a = .sh (LI xs) ∨ a = .bo (LI xs)) (h : xs ≠ []) : biD .max [a] = some (.sh (.int (maxL xs))) := by
  have hp : 0 < xs.length := List.length_pos_iff.mpr h
  rcases ha with rfl | rfl <;> simp [biD, Vl.d, intsOf_map, hp]
theorem z_minLI {xs : List Int} {a : Vl} (ha : a = .sh (LI xs) ∨ a = .bo (LI xs)) (h : xs ≠ []) : biD .min [a] = some (.sh (.int (minL xs))) := by
  have hp : 0 < xs.length := List.length_pos_iff.mpr h
  rcases ha with rfl | rfl <;> simp [biD, Vl.d, intsOf_map, hp]
theorem z_sumLI {xs : List Int} {a : Vl} (ha : a = .sh (LI xs) ∨ a = .bo (LI xs)) : biD .sum [a] = some (.sh (.int xs.sum)) := by
  rcases ha with rfl | rfl <;> simp [biD, Vl.d, intsOf_map]
/-- a comprehension with a test, by a relation -/
theorem zc_rel {F : D → Option (Option D)} {R : D → Option D → Prop} : ∀ {xs : List D}, (∀ d ∈ xs, Wo (F d) (R d)) → Wo (lcGo F xs) fun ys => ∃ os : List (Option D), os.length = xs.length ∧ (∀ (i : Nat) (d : D) (o : Option D), xs[i]? = some d → os[i]? = some o → R d o) ∧ ys = os.filterMap id
  | [], _ => ⟨[], rfl, [], rfl, fun i d o h => by simp at h, rfl⟩
  | x :: xs, h => by
    obtain ⟨o, h1, h2⟩ := h x List.mem_cons_self
    obtain ⟨ys, h3, os, h4, h5, rfl⟩ := zc_rel (xs := xs) fun d hd => h d (List.mem_cons_of_mem _ hd)
    refine ⟨_, by simp [lcGo, h1, h3]; rfl, o :: os, by simp [h4], fun i d z hd hz => ?_, ?_⟩
    · cases i with
      | zero => simp at hd hz; subst hd hz; exact h2
      | succ i => exact h5 i d z (by simpa using hd) (by simpa using hz)
    · cases o <;> simp
/-- all of a made list are of a shape -/
theorem ints_of {R : Int → Prop} : ∀ {ys : List D}, (∀ y ∈ ys, ∃ p, y = .int p ∧ R p) → ∃ gs : List Int, ys = gs.map D.int ∧ ∀ g ∈ gs, R g
  | [], _ => ⟨[], rfl, by simp⟩
  | y :: ys, h => by
    obtain ⟨p, rfl, hp⟩ := h y List.mem_cons_self
    obtain ⟨gs, rfl, hg⟩ := ints_of (ys := ys) fun z hz => h z (List.mem_cons_of_mem _ hz)
    exact ⟨p :: gs, rfl, by simpa using ⟨hp, hg⟩⟩
theorem ixN_nat {n k : Nat} (h : k < n) : ixN n (k : Int) = some k := by
  unfold ixN
  rw [if_pos (by omega), if_pos (by omega)]; rfl
/-! ### the great draw -/
def big1 : Sms := (.cons (.ret (.bin .Mod (.bi .int (.cons (.v 4) .nil)) (.v 3))) .nil)
def bigL (k : Nat) : Sms := (.cons (.asg (.n 4) (.bin .Add (.bin .Mult (.v 4) (.c (.int (1000)))) (.call k (.cons (.v 0) (.cons (.v 1) (.cons (.bin .Add (.v 2) (.v 5)) (.cons (.c (.int (1000))) .nil))))))) .nil)
def bigB (k : Nat) : Sms := (.cons (.asg (.n 4) (.c (.int (0)))) (.cons (.frs (.n 5) (.r1 (.c (.int (7)))) (bigL k)) big1))
theorem big_ok {Φ : Fns} {k : Nat} {ns : List Int} {p s z : Int} (hs : 0 ≤ s) (hs2 : s < 2 ^ 50) (hz : 0 < z)
    (hd : ∀ s : Int, 0 ≤ s → s < 2 ^ 60 → Wo (Φ k [.sh (.scr ns), .sh (.int p), .sh (.int s), .sh (.int 1000)]) fun r => ∃ i, r = .sh (.int i) ∧ 0 ≤ i ∧ i < 1000) :
    Wo (runD Φ ⟨4, 6, bigB k⟩ [.sh (.scr ns), .sh (.int p), .sh (.int s), .sh (.int z)]) fun r => ∃ i, r = .sh (.int i) ∧ 0 ≤ i ∧ i < z := by
  rw [z_run _ _ _ rfl]
  show Wo (execsD Φ (bigB k) [some (.sh (.scr ns)), some (.sh (.int p)), some (.sh (.int s)), some (.sh (.int z)), none, none]) _
  unfold bigB
  walk_at "vc"
  refine ⟨by decide, zl_for (fun i ε => ∃ (t : Int) (y5 : Option Vl), ε = [some (.sh (.scr ns)), some (.sh (.int p)), some (.sh (.int s)), some (.sh (.int z)), some (.sh (.int t)), y5]) ⟨0, _, rfl⟩ ?_ ?_⟩
  · rintro i d ε hdd ⟨t, y5, rfl⟩
    obtain ⟨rfl, hi⟩ := rangeD_get hdd
    unfold bigL
    walk_at "vc"
    refine ⟨mulR (by decide) (by decide), Wo.mono (hd _ (by omega) (by omega)) ?_⟩
    rintro r ⟨j, rfl, _, _⟩
    walk_at "vc"
    exact ⟨_, _, rfl⟩
  · rintro ε ⟨t, y5, rfl⟩
    unfold big1
    walk_at "vc"
    exact ⟨hz, _, rfl, Int.emod_nonneg _ (by omega), Int.emod_lt_of_pos _ hz⟩
end EF
namespace K18
open PySem L2 EF
def topS (i : Nat) : Stmt := PySem.Challenge.pw_everyfuture_k18_merges.main.body.getD i (.Pass ⟨0, 0, 0, 0⟩)
def mo : Mo := ⟨["sum_merge", "least_merge", "_law_draw", "_law_big", "_law_profile", "_law_due", "_law_merge", "_law_fits", "_law_holds", "law"], ["len", "int", "list", "tuple", "max", "min", "isinstance", "range", "bool"]⟩
def N_sum_merge : List Str := ["first", "second", "i", "k"]
def ps_sum_merge : List Str := ["first", "second"]
def N_least_merge : List Str := ["first", "second", "i", "k"]
def ps_least_merge : List Str := ["first", "second"]
def N_q_draw : List Str := ["_law_script", "_law_place", "_law_step", "_law_size", "_law_cell", "_law_left", "_law_turn", "_law_mixed"]
def ps_q_draw : List Str := ["_law_script", "_law_place", "_law_step", "_law_size"]
def N_q_big : List Str := ["_law_script", "_law_place", "_law_step", "_law_size", "_law_number", "_law_turn"]
def ps_q_big : List Str := ["_law_script", "_law_place", "_law_step", "_law_size"]
def N_q_profile : List Str := ["_law_script", "_law_place", "_law_shape", "_law_size", "_law_entry", "_law_row", "_law_k", "_law_more"]
def ps_q_profile : List Str := ["_law_script", "_law_place"]
def N_q_due : List Str := ["_law_deed", "_law_first", "_law_second", "_law_due_here", "_law_k", "_law_i", "_law_j", "_law_value"]
def ps_q_due : List Str := ["_law_deed", "_law_first", "_law_second"]
def N_q_merge : List Str := ["_law_deed", "_law_first", "_law_second"]
def ps_q_merge : List Str := ["_law_deed", "_law_first", "_law_second"]
def N_q_fits : List Str := ["_law_told", "_law_due_here", "_law_k"]
def ps_q_fits : List Str := ["_law_told", "_law_due_here"]
def N_q_holds : List Str := ["_law_deed", "_law_first", "_law_second", "_law_shape", "_law_due_here", "_law_one", "_law_two", "_law_told"]
def ps_q_holds : List Str := ["_law_deed", "_law_first", "_law_second", "_law_shape"]
def N_law : List Str := ["_law_script", "_law_first", "_law_second", "_law_shape", "_law_deed"]
def ps_law : List Str := ["_law_script"]
def b_sum_merge : Sms := (.cons (.ret (.lc (.n 3) (.r1 (.bin .Sub (.bin .Add (.bi .len (.cons (.v 0) .nil)) (.bi .len (.cons (.v 1) .nil))) (.c (.int (1))))) .nil (.bi .max (.cons (.lc (.n 2) (.r1 (.bi .len (.cons (.v 0) .nil))) (.cons (.chn .LtE .Lt (.c (.int (0))) (.bin .Sub (.v 3) (.v 2)) (.bi .len (.cons (.v 1) .nil))) .nil) (.bin .Add (.ix (.v 0) (.v 2)) (.ix (.v 1) (.bin .Sub (.v 3) (.v 2)))) [2]) .nil)) [3])) .nil)
def e_sum_merge : Ent := ⟨"sum_merge", topS 1, N_sum_merge, ps_sum_merge, b_sum_merge⟩
theorem c_sum_merge : EntOk mo e_sum_merge := ⟨scopeB_ok (by decide +kernel), 60, by kernel_rfl⟩
def b_least_merge : Sms := (.cons (.ret (.lc (.n 3) (.r1 (.bin .Sub (.bin .Add (.bi .len (.cons (.v 0) .nil)) (.bi .len (.cons (.v 1) .nil))) (.c (.int (1))))) .nil (.bi .max (.cons (.lc (.n 2) (.r1 (.bi .len (.cons (.v 0) .nil))) (.cons (.chn .LtE .Lt (.c (.int (0))) (.bin .Sub (.v 3) (.v 2)) (.bi .len (.cons (.v 1) .nil))) .nil) (.bi .min (.cons (.ix (.v 0) (.v 2)) (.cons (.ix (.v 1) (.bin .Sub (.v 3) (.v 2))) .nil))) [2]) .nil)) [3])) .nil)
def e_least_merge : Ent := ⟨"least_merge", topS 2, N_least_merge, ps_least_merge, b_least_merge⟩
theorem c_least_merge : EntOk mo e_least_merge := ⟨scopeB_ok (by decide +kernel), 60, by kernel_rfl⟩
def b_q_draw_1 : Sms := (.cons (.asg (.n 7) (.bin .Mod (.bi .int (.cons (.bin .Add (.bin .Add (.bin .Add (.v 4) (.bin .Mult (.c (.int (7919))) (.v 2))) (.bin .Mult (.c (.int (104729))) (.v 1))) (.c (.int (13)))) .nil)) (.c (.int (2147483647))))) (.cons (.asg (.n 7) (.bin .Mod (.bi .int (.cons (.bin .Mult (.v 7) (.bin .Add (.v 7) (.c (.int (48271))))) .nil)) (.c (.int (2147483629))))) (.cons (.asg (.n 7) (.bin .Mod (.bi .int (.cons (.bin .Add (.bin .Mult (.v 7) (.bin .Add (.v 7) (.c (.int (69621))))) (.bin .Mult (.c (.int (31))) (.v 2))) .nil)) (.c (.int (2147483647))))) (.cons (.ret (.bin .Mod (.bi .int (.cons (.bin .FloorDiv (.v 7) (.c (.int (9)))) .nil)) (.v 3))) .nil))))
def b_q_draw_2 : Sms := (.cons (.ifs (.cmp .Gt (.v 5) (.c (.int (0)))) (.cons (.ret (.bin .Mod (.bi .int (.cons (.bin .Mod (.bi .int (.cons (.v 5) .nil)) (.c (.int (1000)))) .nil)) (.v 3))) .nil) .nil) b_q_draw_1)
def b_q_draw_L3 : Sms := (.cons (.ifs (.cmp .Gt (.v 5) (.c (.int (0)))) (.cons (.asg (.n 5) (.bin .FloorDiv (.v 5) (.c (.int (1000))))) .nil) .nil) .nil)
def b_q_draw_4 : Sms := (.cons (.asg (.n 5) (.bin .Sub (.v 4) (.bin .Pow (.c (.int (10))) (.c (.int (18)))))) (.cons (.frs (.n 6) (.r1 (.v 2)) b_q_draw_L3) b_q_draw_2))
def b_q_draw_5 : Sms := (.cons (.ifs (.cmp .Lt (.v 4) (.c (.int (0)))) (.cons (.asg (.n 4) (.bin .Sub (.c (.int (0))) (.v 4))) .nil) .nil) b_q_draw_4)
def b_q_draw : Sms := (.cons (.fz 1) (.cons (.asg (.n 4) (.v 1)) (.cons (.ifs (.cmp .Gt (.bi .len (.cons (.v 0) .nil)) (.c (.int (0)))) (.cons (.asg (.n 4) (.bin .Add (.ix (.v 0) (.bin .Mod (.bi .int (.cons (.v 1) .nil)) (.bi .len (.cons (.v 0) .nil)))) (.bin .FloorDiv (.v 1) (.bi .len (.cons (.v 0) .nil))))) .nil) .nil) b_q_draw_5)))
def e_q_draw : Ent := ⟨"_law_draw", topS 4, N_q_draw, ps_q_draw, b_q_draw⟩
theorem c_q_draw : EntOk mo e_q_draw := ⟨scopeB_ok (by decide +kernel), 60, by kernel_rfl⟩
def b_q_big_1 : Sms := (.cons (.ret (.bin .Mod (.bi .int (.cons (.v 4) .nil)) (.v 3))) .nil)
def b_q_big_L2 : Sms := (.cons (.asg (.n 4) (.bin .Add (.bin .Mult (.v 4) (.c (.int (1000)))) (.call 2 (.cons (.v 0) (.cons (.v 1) (.cons (.bin .Add (.v 2) (.v 5)) (.cons (.c (.int (1000))) .nil))))))) .nil)
def b_q_big : Sms := (.cons (.asg (.n 4) (.c (.int (0)))) (.cons (.frs (.n 5) (.r1 (.c (.int (7)))) b_q_big_L2) b_q_big_1))
def e_q_big : Ent := ⟨"_law_big", topS 5, N_q_big, ps_q_big, b_q_big⟩
theorem c_q_big : EntOk mo e_q_big := ⟨scopeB_ok (by decide +kernel), 60, by kernel_rfl⟩
def b_q_profile_1 : Sms := (.cons (.retV 5) .nil)
def b_q_profile_2 : Sms := (.cons (.app 5 (.bin .Add (.ix (.v 5) (.neg (.c (.int (1))))) (.v 7))) .nil)
def b_q_profile_L3 : Sms := (.cons (.asg (.n 7) (.ix (.lst (.cons (.c (.int (0))) (.cons (.c (.int (0))) (.cons (.c (.int (0))) (.cons (.c (.int (1))) (.cons (.c (.int (1))) (.cons (.c (.int (2))) (.cons (.c (.int (3))) (.cons (.c (.int (4))) .nil))))))))) (.call 2 (.cons (.v 0) (.cons (.v 1) (.cons (.bin .Add (.c (.int (10))) (.v 6)) (.cons (.c (.int (8))) .nil))))))) (.cons (.ifs (.cmp .Eq (.v 2) (.c (.int (3)))) (.cons (.asg (.n 7) (.bin .Mult (.v 7) (.bin .Pow (.c (.int (10))) (.c (.int (18)))))) .nil) .nil) b_q_profile_2))
def b_q_profile_4 : Sms := (.cons (.fz 4) (.cons (.asg (.n 5) (.lst (.cons (.v 4) .nil))) (.cons (.frs (.n 6) (.r1 (.bin .Sub (.v 3) (.c (.int (1))))) b_q_profile_L3) b_q_profile_1)))
def b_q_profile_5 : Sms := (.cons (.asg (.n 4) (.bin .Sub (.call 2 (.cons (.v 0) (.cons (.v 1) (.cons (.c (.int (2))) (.cons (.c (.int (15))) .nil))))) (.c (.int (5))))) (.cons (.ifs (.cmp .Eq (.v 2) (.c (.int (2)))) (.cons (.asg (.n 4) (.bin .Sub (.call 3 (.cons (.v 0) (.cons (.v 1) (.cons (.c (.int (3))) (.cons (.bin .Add (.bin .Mult (.c (.int (2))) (.bin .Pow (.c (.int (10))) (.c (.int (18))))) (.c (.int (1)))) .nil))))) (.bin .Pow (.c (.int (10))) (.c (.int (18)))))) .nil) .nil) b_q_profile_4))
def b_q_profile_6 : Sms := (.cons (.asg (.n 3) (.bin .Add (.c (.int (1))) (.call 2 (.cons (.v 0) (.cons (.v 1) (.cons (.c (.int (1))) (.cons (.c (.int (6))) .nil))))))) (.cons (.ifs (.cmp .Eq (.v 2) (.c (.int (1)))) (.cons (.asg (.n 3) (.bin .Add (.c (.int (1))) (.call 2 (.cons (.v 0) (.cons (.v 1) (.cons (.c (.int (1))) (.cons (.c (.int (25))) .nil))))))) .nil) .nil) b_q_profile_5))
def b_q_profile : Sms := (.cons (.asg (.n 2) (.call 2 (.cons (.v 0) (.cons (.v 1) (.cons (.c (.int (0))) (.cons (.c (.int (8))) .nil)))))) (.cons (.ifs (.cmp .Eq (.v 2) (.c (.int (0)))) (.cons (.ret (.lst (.cons (.c (.int (0))) .nil))) .nil) .nil) b_q_profile_6))
def e_q_profile : Ent := ⟨"_law_profile", topS 6, N_q_profile, ps_q_profile, b_q_profile⟩
theorem c_q_profile : EntOk mo e_q_profile := ⟨scopeB_ok (by decide +kernel), 60, by kernel_rfl⟩
def b_q_due_1 : Sms := (.cons (.retV 3) .nil)
def b_q_due_2 : Sms := (.cons (.ifs (.or (.cmp .Is (.ix (.v 3) (.bin .Add (.v 5) (.v 6))) (.c .non)) (.cmp .Gt (.v 7) (.ix (.v 3) (.bin .Add (.v 5) (.v 6))))) (.cons (.fz 7) (.cons (.setx 3 (.bin .Add (.v 5) (.v 6)) (.v 7)) .nil)) .nil) .nil)
def b_q_due_L3 : Sms := (.cons (.asg (.n 7) (.bin .Add (.ix (.v 1) (.v 5)) (.ix (.v 2) (.v 6)))) (.cons (.ifs (.cmp .Eq (.v 0) (.c (.int (1)))) (.cons (.asg (.n 7) (.bi .min (.cons (.ix (.v 1) (.v 5)) (.cons (.ix (.v 2) (.v 6)) .nil)))) .nil) .nil) b_q_due_2))
def b_q_due_L4 : Sms := (.cons (.frs (.n 6) (.r1 (.bi .len (.cons (.v 2) .nil))) b_q_due_L3) .nil)
def b_q_due : Sms := (.cons (.asg (.n 3) (.lc (.n 4) (.r1 (.bin .Sub (.bin .Add (.bi .len (.cons (.v 1) .nil)) (.bi .len (.cons (.v 2) .nil))) (.c (.int (1))))) .nil (.c .non) [4])) (.cons (.frs (.n 5) (.r1 (.bi .len (.cons (.v 1) .nil))) b_q_due_L4) b_q_due_1))
def e_q_due : Ent := ⟨"_law_due", topS 7, N_q_due, ps_q_due, b_q_due⟩
theorem c_q_due : EntOk mo e_q_due := ⟨scopeB_ok (by decide +kernel), 60, by kernel_rfl⟩
def b_q_merge_1 : Sms := (.cons (.ret (.call 1 (.cons (.v 1) (.cons (.v 2) .nil)))) .nil)
def b_q_merge : Sms := (.cons (.ifs (.cmp .Eq (.v 0) (.c (.int (0)))) (.cons (.ret (.call 0 (.cons (.v 1) (.cons (.v 2) .nil)))) .nil) .nil) b_q_merge_1)
def e_q_merge : Ent := ⟨"_law_merge", topS 8, N_q_merge, ps_q_merge, b_q_merge⟩
theorem c_q_merge : EntOk mo e_q_merge := ⟨scopeB_ok (by decide +kernel), 60, by kernel_rfl⟩
def b_q_fits_1 : Sms := (.cons (.ret (.c (.bl true))) .nil)
def b_q_fits_L2 : Sms := (.cons (.ifs (.or (.not (.isi .int (.ix (.v 0) (.v 2)))) (.or (.isi .bool (.ix (.v 0) (.v 2))) (.cmp .NotEq (.ix (.v 0) (.v 2)) (.ix (.v 1) (.v 2))))) (.cons (.ret (.c (.bl false))) .nil) .nil) .nil)
def b_q_fits_3 : Sms := (.cons (.frs (.n 2) (.r1 (.bi .len (.cons (.v 1) .nil))) b_q_fits_L2) b_q_fits_1)
def b_q_fits : Sms := (.cons (.ifs (.or (.not (.isi .list (.v 0))) (.cmp .NotEq (.bi .len (.cons (.v 0) .nil)) (.bi .len (.cons (.v 1) .nil)))) (.cons (.ret (.c (.bl false))) .nil) .nil) b_q_fits_3)
def e_q_fits : Ent := ⟨"_law_fits", topS 9, N_q_fits, ps_q_fits, b_q_fits⟩
theorem c_q_fits : EntOk mo e_q_fits := ⟨scopeB_ok (by decide +kernel), 60, by kernel_rfl⟩
def b_q_holds_1 : Sms := (.cons (.ret (.call 7 (.cons (.call 6 (.cons (.v 0) (.cons (.bi .list (.cons (.v 1) .nil)) (.cons (.bi .tuple (.cons (.v 2) .nil)) .nil)))) (.cons (.v 4) .nil)))) .nil)
def b_q_holds_2 : Sms := (.cons (.app 7 (.c (.int (0)))) (.cons (.setx 7 (.c (.int (0))) (.bin .Add (.ix (.v 7) (.c (.int (0)))) (.c (.int (1))))) (.cons (.ifs (.not (.call 7 (.cons (.call 6 (.cons (.v 0) (.cons (.v 5) (.cons (.v 6) .nil)))) (.cons (.call 5 (.cons (.v 0) (.cons (.bi .list (.cons (.v 5) .nil)) (.cons (.bi .list (.cons (.v 6) .nil)) .nil)))) .nil)))) (.cons (.ret (.c (.bl false))) .nil) .nil) b_q_holds_1)))
def b_q_holds_3 : Sms := (.cons (.ifs (.not (.call 7 (.cons (.v 7) (.cons (.v 4) .nil)))) (.cons (.ret (.c (.bl false))) .nil) .nil) b_q_holds_2)
def b_q_holds_4 : Sms := (.cons (.ifs (.isi .list (.v 6)) (.cons (.ins 6 (.c (.int (0))) (.bin .Sub (.ix (.v 6) (.c (.int (0)))) (.c (.int (3))))) .nil) .nil) b_q_holds_3)
def b_q_holds_5 : Sms := (.cons (.ifs (.isi .list (.v 5)) (.cons (.app 5 (.bin .Add (.ix (.v 5) (.neg (.c (.int (1))))) (.c (.int (5))))) .nil) .nil) b_q_holds_4)
def b_q_holds_6 : Sms := (.cons (.asg (.n 7) (.call 6 (.cons (.v 0) (.cons (.v 5) (.cons (.v 6) .nil))))) (.cons (.ifs (.or (.not (.call 7 (.cons (.v 7) (.cons (.v 4) .nil)))) (.or (.not (.call 7 (.cons (.bi .list (.cons (.v 5) .nil)) (.cons (.v 1) .nil)))) (.not (.call 7 (.cons (.bi .list (.cons (.v 6) .nil)) (.cons (.v 2) .nil)))))) (.cons (.ret (.c (.bl false))) .nil) .nil) b_q_holds_5))
def b_q_holds_7 : Sms := (.cons (.ifs (.or (.cmp .Eq (.v 3) (.c (.int (2)))) (.cmp .Eq (.v 3) (.c (.int (3))))) (.cons (.asg (.n 6) (.bi .tuple (.cons (.v 6) .nil))) .nil) .nil) b_q_holds_6)
def b_q_holds : Sms := (.cons (.asg (.n 4) (.call 5 (.cons (.v 0) (.cons (.v 1) (.cons (.v 2) .nil))))) (.cons (.asg (.n 5) (.bi .list (.cons (.v 1) .nil))) (.cons (.asg (.n 6) (.bi .list (.cons (.v 2) .nil))) (.cons (.ifs (.or (.cmp .Eq (.v 3) (.c (.int (1)))) (.cmp .Eq (.v 3) (.c (.int (3))))) (.cons (.asg (.n 5) (.bi .tuple (.cons (.v 5) .nil))) .nil) .nil) b_q_holds_7))))
def e_q_holds : Ent := ⟨"_law_holds", topS 10, N_q_holds, ps_q_holds, b_q_holds⟩
theorem c_q_holds : EntOk mo e_q_holds := ⟨scopeB_ok (by decide +kernel), 60, by kernel_rfl⟩
def b_law_1 : Sms := (.cons (.ret (.c (.bl true))) .nil)
def b_law_2 : Sms := (.cons (.ifs (.not (.call 7 (.cons (.call 6 (.cons (.v 4) (.cons (.bi .list (.cons (.v 2) .nil)) (.cons (.bi .list (.cons (.v 1) .nil)) .nil)))) (.cons (.call 5 (.cons (.v 4) (.cons (.v 1) (.cons (.v 2) .nil)))) .nil)))) (.cons (.ret (.c (.bl false))) .nil) .nil) .nil)
def b_law_L3 : Sms := (.cons (.ifs (.not (.call 8 (.cons (.v 4) (.cons (.v 1) (.cons (.v 2) (.cons (.v 3) .nil)))))) (.cons (.ret (.c (.bl false))) .nil) .nil) b_law_2)
def b_law : Sms := (.cons (.asg (.n 1) (.call 4 (.cons (.v 0) (.cons (.c (.int (0))) .nil)))) (.cons (.asg (.n 2) (.call 4 (.cons (.v 0) (.cons (.c (.int (1))) .nil)))) (.cons (.asg (.n 3) (.call 2 (.cons (.v 0) (.cons (.c (.int (2))) (.cons (.c (.int (0))) (.cons (.c (.int (4))) .nil)))))) (.cons (.frs (.n 4) (.r1 (.c (.int (2)))) b_law_L3) b_law_1))))
def e_law : Ent := ⟨"law", topS 11, N_law, ps_law, b_law⟩
theorem c_law : EntOk mo e_law := ⟨scopeB_ok (by decide +kernel), 60, by kernel_rfl⟩
def tab : List Ent := [e_sum_merge, e_least_merge, e_q_draw, e_q_big, e_q_profile, e_q_due, e_q_merge, e_q_fits, e_q_holds, e_law]
abbrev T : List Df := tab.map Ent.df
theorem r_sum_merge (n : Nat) (as : List Vl) : callD T (n + 1) 0 as = runD (callD T n) ⟨2, 4, b_sum_merge⟩ as := rfl
theorem r_least_merge (n : Nat) (as : List Vl) : callD T (n + 1) 1 as = runD (callD T n) ⟨2, 4, b_least_merge⟩ as := rfl
theorem r_q_draw (n : Nat) (as : List Vl) : callD T (n + 1) 2 as = runD (callD T n) ⟨4, 8, b_q_draw⟩ as := rfl
theorem r_q_big (n : Nat) (as : List Vl) : callD T (n + 1) 3 as = runD (callD T n) ⟨4, 6, b_q_big⟩ as := rfl
theorem r_q_profile (n : Nat) (as : List Vl) : callD T (n + 1) 4 as = runD (callD T n) ⟨2, 8, b_q_profile⟩ as := rfl
theorem r_q_due (n : Nat) (as : List Vl) : callD T (n + 1) 5 as = runD (callD T n) ⟨3, 8, b_q_due⟩ as := rfl
theorem r_q_merge (n : Nat) (as : List Vl) : callD T (n + 1) 6 as = runD (callD T n) ⟨3, 3, b_q_merge⟩ as := rfl
theorem r_q_fits (n : Nat) (as : List Vl) : callD T (n + 1) 7 as = runD (callD T n) ⟨2, 3, b_q_fits⟩ as := rfl
theorem r_q_holds (n : Nat) (as : List Vl) : callD T (n + 1) 8 as = runD (callD T n) ⟨4, 8, b_q_holds⟩ as := rfl
theorem r_law (n : Nat) (as : List Vl) : callD T (n + 1) 9 as = runD (callD T n) ⟨1, 5, b_law⟩ as := rfl
end K18
namespace K18
open PySem L2 EF
/-! the plain law: entry k is the greatest -/
def fOf (deed : Int) (a b : Int) : Int := if deed = 1 then min a b else a + b
theorem fOf_comm (deed a b : Int) : fOf deed a b = fOf deed b a := by unfold fOf; split <;> omega
structure IsMx (deed : Int) (xs ys : List Int) (P : Nat → Nat → Prop) (k : Nat) (v : Int) : Prop where
  at' : ∃ i j a b, xs[i]? = some a ∧ ys[j]? = some b ∧ i + j = k ∧ P i j ∧ v = fOf deed a b
  le : ∀ i j a b, xs[i]? = some a → ys[j]? = some b → i + j = k → P i j → fOf deed a b ≤ v
def All : Nat → Nat → Prop := fun _ _ => True
theorem IsMx.uniq {deed : Int} {xs ys : List Int} {P : Nat → Nat → Prop} {k : Nat} {v w : Int} (h1 : IsMx deed xs ys P k v) (h2 : IsMx deed xs ys P k w) : v = w := by
  obtain ⟨i, j, a, b, e1, e2, e3, e4, rfl⟩ := h1.at'
  obtain ⟨i', j', a', b', f1, f2, f3, f4, rfl⟩ := h2.at'
  have := h1.le i' j' a' b' f1 f2 f3 f4
  have := h2.le i j a b e1 e2 e3 e4
  omega
theorem IsMx.swap {deed : Int} {xs ys : List Int} {k : Nat} {v : Int} (h : IsMx deed xs ys All k v) : IsMx deed ys xs All k v := by
  obtain ⟨i, j, a, b, e1, e2, e3, _, rfl⟩ := h.at'
  refine ⟨⟨j, i, b, a, e2, e1, by omega, trivial, fOf_comm _ _ _⟩, fun i' j' a' b' f1 f2 f3 _ => ?_⟩
  rw [fOf_comm]
  exact h.le j' i' b' a' f2 f1 (by omega) trivial
/-- the merged list -/
def Mg (deed : Int) (xs ys vs : List Int) : Prop := vs.length = xs.length + ys.length - 1 ∧ ∀ k v, vs[k]? = some v → IsMx deed xs ys All k v
theorem Mg.uniq {deed : Int} {xs ys vs ws : List Int} (h1 : Mg deed xs ys vs) (h2 : Mg deed xs ys ws) : vs = ws := by
  refine List.ext_getElem? fun k => ?_
  by_cases hk : k < vs.length
  · have hk2 : k < ws.length := by rw [h2.1, ← h1.1]; exact hk
    rw [List.getElem?_eq_getElem hk, List.getElem?_eq_getElem hk2]
    exact congrArg some ((h1.2 k _ (List.getElem?_eq_getElem hk)).uniq (h2.2 k _ (List.getElem?_eq_getElem hk2)))
  · rw [List.getElem?_eq_none (by omega), List.getElem?_eq_none (by rw [h2.1, ← h1.1]; omega)]
theorem Mg.swap {deed : Int} {xs ys vs : List Int} (h : Mg deed xs ys vs) : Mg deed ys xs vs := ⟨by rw [h.1]; omega, fun k v hv => (h.2 k v hv).swap⟩
/-- what has been found so far -/
def Part (deed : Int) (xs ys : List Int) (P : Nat → Nat → Prop) (k : Nat) : Option Int → Prop
  | none => ∀ i j a b, xs[i]? = some a → ys[j]? = some b → i + j = k → ¬ P i j
  | some v => IsMx deed xs ys P k v
theorem Part.congr {deed : Int} {xs ys : List Int} {P P' : Nat → Nat → Prop} {k : Nat} {o : Option Int} (h : Part deed xs ys P k o) (e : ∀ i j a b, xs[i]? = some a → ys[j]? = some b → i + j = k → (P i j ↔ P' i j)) : Part deed xs ys P' k o := by
  cases o with
  | none => exact fun i j a b e1 e2 e3 hp => h i j a b e1 e2 e3 ((e i j a b e1 e2 e3).mpr hp)
  | some v =>
    obtain ⟨i, j, a, b, e1, e2, e3, e4, rfl⟩ := h.at'
    exact ⟨⟨i, j, a, b, e1, e2, e3, (e _ _ _ _ e1 e2 e3).mp e4, rfl⟩, fun i j a b e1 e2 e3 hp => h.le i j a b e1 e2 e3 ((e i j a b e1 e2 e3).mpr hp)⟩
theorem Part.new {deed : Int} {xs ys : List Int} {P : Nat → Nat → Prop} {i j : Nat} {a b : Int} {o : Option Int} (h : Part deed xs ys P (i + j) o) (ha : xs[i]? = some a) (hb : ys[j]? = some b)
    (hn : ∀ v, o = some v → v < fOf deed a b) : Part deed xs ys (fun i' j' => P i' j' ∨ (i' = i ∧ j' = j)) (i + j) (some (fOf deed a b)) := by
  refine ⟨⟨i, j, a, b, ha, hb, rfl, .inr ⟨rfl, rfl⟩, rfl⟩, fun i' j' a' b' e1 e2 e3 hp => ?_⟩
  rcases hp with hp | ⟨rfl, rfl⟩
  · cases o with
    | none => exact absurd hp (h i' j' a' b' e1 e2 e3)
    | some v =>
      have := h.le i' j' a' b' e1 e2 e3 hp
      have := hn v rfl
      omega
  · rw [ha] at e1; rw [hb] at e2
    cases e1; cases e2
    exact Int.le_refl _
theorem Part.old {deed : Int} {xs ys : List Int} {P : Nat → Nat → Prop} {i j : Nat} {a b v : Int} (h : Part deed xs ys P (i + j) (some v)) (ha : xs[i]? = some a) (hb : ys[j]? = some b)
    (hn : fOf deed a b ≤ v) : Part deed xs ys (fun i' j' => P i' j' ∨ (i' = i ∧ j' = j)) (i + j) (some v) := by
  obtain ⟨i0, j0, a0, b0, e1, e2, e3, e4, hv⟩ := h.at'
  refine ⟨⟨i0, j0, a0, b0, e1, e2, e3, .inl e4, hv⟩, fun i' j' a' b' e1 e2 e3 hp => ?_⟩
  rcases hp with hp | ⟨rfl, rfl⟩
  · exact h.le i' j' a' b' e1 e2 e3 hp
  · rw [ha] at e1; rw [hb] at e2
    cases e1; cases e2
    exact hn
theorem Part.other {deed : Int} {xs ys : List Int} {P : Nat → Nat → Prop} {i j k : Nat} {o : Option Int} (h : Part deed xs ys P k o) (hk : k ≠ i + j) : Part deed xs ys (fun i' j' => P i' j' ∨ (i' = i ∧ j' = j)) k o :=
  h.congr fun i' j' a b _ _ e3 => ⟨.inl, fun hp => by
    rcases hp with hp | ⟨rfl, rfl⟩
    · exact hp
    · exact absurd e3.symm hk⟩
/-- all are found: every place has one -/
theorem parts_all {deed : Int} {xs ys : List Int} (hx : xs ≠ []) (hy : ys ≠ []) {os : List (Option Int)} (hl : os.length = xs.length + ys.length - 1) (h : ∀ k o, os[k]? = some o → Part deed xs ys All k o) :
    ∃ vs : List Int, os = vs.map some ∧ Mg deed xs ys vs := by
  have hx' : 0 < xs.length := List.length_pos_iff.mpr hx
  have hy' : 0 < ys.length := List.length_pos_iff.mpr hy
  have pair : ∀ k, k < xs.length + ys.length - 1 → ∃ i j a b, xs[i]? = some a ∧ ys[j]? = some b ∧ i + j = k := fun k hk => by
    by_cases hk2 : k < xs.length
    · exact ⟨k, 0, xs[k], ys[0], List.getElem?_eq_getElem hk2, List.getElem?_eq_getElem hy', rfl⟩
    · exact ⟨xs.length - 1, k - (xs.length - 1), xs[xs.length - 1], ys[k - (xs.length - 1)]'(by omega), List.getElem?_eq_getElem (by omega), List.getElem?_eq_getElem (by omega), by omega⟩
  have some' : ∀ k o, os[k]? = some o → ∃ v, o = some v := fun k o ho => by
    cases o with
    | some v => exact ⟨v, rfl⟩
    | none =>
      obtain ⟨i, j, a, b, e1, e2, e3⟩ := pair k (by rw [← hl]; exact (List.getElem?_eq_some_iff.mp ho).1)
      exact absurd trivial (h k none ho i j a b e1 e2 e3)
  have key : ∀ os : List (Option Int), (∀ o ∈ os, ∃ v, o = some v) → ∃ vs : List Int, os = vs.map some := fun os => by
    induction os with
    | nil => exact fun _ => ⟨[], rfl⟩
    | cons o os ih =>
      intro h
      obtain ⟨v, rfl⟩ := h o List.mem_cons_self
      obtain ⟨vs, rfl⟩ := ih fun z hz => h z (List.mem_cons_of_mem _ hz)
      exact ⟨v :: vs, rfl⟩
  obtain ⟨vs, rfl⟩ := key os fun o ho => by
    obtain ⟨k, hk, rfl⟩ := List.getElem_of_mem ho
    exact some' k _ (List.getElem?_eq_getElem hk)
  refine ⟨vs, rfl, by simpa using hl, fun k v hv => h k (some v) (by rw [List.getElem?_map, hv]; rfl)⟩
/-- the greatest of the entries that fit -/
theorem max_mg {deed : Int} {xs ys : List Int} {k : Nat} {cs : List Int} (hx : xs ≠ []) (hy : ys ≠ []) (hk : k < xs.length + ys.length - 1)
    (h1 : ∀ c ∈ cs, ∃ i j a b, xs[i]? = some a ∧ ys[j]? = some b ∧ i + j = k ∧ c = fOf deed a b) (h2 : ∀ i j a b, xs[i]? = some a → ys[j]? = some b → i + j = k → fOf deed a b ∈ cs) : cs ≠ [] ∧ IsMx deed xs ys All k (maxL cs) := by
  have hx' : 0 < xs.length := List.length_pos_iff.mpr hx
  have hy' : 0 < ys.length := List.length_pos_iff.mpr hy
  have hne : cs ≠ [] := by
    by_cases hk2 : k < xs.length
    · exact List.ne_nil_of_mem (h2 k 0 xs[k] ys[0] (List.getElem?_eq_getElem hk2) (List.getElem?_eq_getElem hy') rfl)
    · exact List.ne_nil_of_mem (h2 (xs.length - 1) (k - (xs.length - 1)) xs[xs.length - 1] (ys[k - (xs.length - 1)]'(by omega)) (List.getElem?_eq_getElem (by omega)) (List.getElem?_eq_getElem (by omega)) (by omega))
  obtain ⟨m1, m2⟩ := maxL_spec cs hne
  obtain ⟨i, j, a, b, e1, e2, e3, e4⟩ := h1 _ m1
  exact ⟨hne, ⟨i, j, a, b, e1, e2, e3, trivial, e4⟩, fun i j a b e1 e2 e3 _ => m2 _ (h2 i j a b e1 e2 e3)⟩
end K18
open EF
local macro_rules | `(tactic| walk_at "vc") => `(tactic| try simp only [↓z_some, ↓z_ff, ↓z_tt, ↓z_ntt, ↓z_nff, ↓z_set0, ↓z_setS, ↓z_get0, ↓z_getS, ↓z_v, ↓z_c, ↓z_bin, ↓z_neg, ↓z_not, ↓z_and, ↓z_or, ↓z_cmp, ↓z_chn, ↓z_ix, ↓z_sl, ↓z_tup, ↓z_lst, ↓z_call, ↓z_bi, ↓z_isi, ↓z_lrg, ↓z_lc, ↓z_wipe0, ↓z_wipeS, ↓z_lcF0, ↓z_lcF1, ↓z_ife, ↓z_argsN, ↓z_argsC, ↓z_keepsN, ↓z_keepsC, ↓z_pno, ↓z_pso, ↓z_asI, ↓z_asB, ↓z_asL,
  ↓z_addI, ↓z_subI, ↓z_mulI, ↓z_divI, ↓z_modI, ↓z_powI, ↓z_catL, ↓z_eqI, ↓z_neI, ↓z_eqB, ↓z_neB, ↓z_ltI, ↓z_leI, ↓z_gtI, ↓z_geI, ↓z_lenSh, ↓z_lenBo, ↓z_lenWL, ↓z_lenWT, ↓z_lenWS, ↓z_intI, ↓z_maxI, ↓z_minI, ↓z_absI, ↓z_listSh, ↓z_listBo, ↓z_listT, ↓z_tupleSh, ↓z_tupleBo, ↓z_tupleT, ↓z_ixL, ↓z_ixT, ↓z_ixS, ↓z_slL, ↓z_keepSh, ↓z_keepFr,
  ↓zt_not, ↓zt_and, ↓zt_or, ↓zt_v, ↓zt_c, ↓zt_cmp, ↓zt_chn, ↓zt_ix, ↓zt_call, ↓zt_bi, ↓zt_isi, ↓z_truB, ↓z_truL, ↓z_nil, ↓z_seq, ↓z_thenNx, ↓z_thenRt, ↓z_thenBk, ↓z_thenCt, ↓z_asg, ↓z_bindSh, ↓z_bindFr, ↓z_bindT, ↓z_all0, ↓z_allS, ↓z_ret, ↓z_retV, ↓z_rtSh, ↓z_rtFr, ↓z_ifs, ↓z_frs, ↓z_ownW, ↓z_app, ↓z_setx, ↓z_ins, ↓z_popT, ↓z_brk, ↓z_cnt, ↓z_pas, ↓z_fz, ↓z_fz0s, ↓z_fz0b, ↓z_fz0n, ↓z_fz0f, ↓z_fzS,
  ↓zl_v, ↓zl_r1, ↓zl_r2, ↓zi_r1, ↓zi_over, ↓z_itL, ↓z_itT, ↓z_itVs, ↓z_itVb, ↓z_itEs, ↓z_itEf, ↓z_useS, ↓z_useF, ↓z_useB, ↓z_dS, ↓z_dF, ↓z_dB, ↓z_adS, ↓z_adF, ↓z_adB, ↓z_at0, ↓z_at1, ↓z_at2, ↓z_at3, ↓z_last, ↓z_ixP0, ↓z_ixP1, ↓z_bindP, ↓z_isB, ↓z_isiB, ↓z_isiI, ↓z_isiT, ↓z_isiL, ↓z_isiP])
namespace K18
open PySem L2 EF
theorem draw_c (n : Nat) {ns : List Int} {p s z : Int} (hl : ns.length ≤ 63) (hp : 0 ≤ p) (hs : 0 ≤ s) (hs2 : s < 2 ^ 60) (hz : 0 < z) : Wo (callD T (n + 1) 2 [.sh (.scr ns), .sh (.int p), .sh (.int s), .sh (.int z)]) fun r => ∃ i, r = .sh (.int i) ∧ 0 ≤ i ∧ i < z := by
  rw [r_q_draw]
  exact draw_ok hl hp hs hs2 hz
theorem big_c (n : Nat) {ns : List Int} {p s z : Int} (hl : ns.length ≤ 63) (hp : 0 ≤ p) (hs : 0 ≤ s) (hs2 : s < 2 ^ 50) (hz : 0 < z) : Wo (callD T (n + 2) 3 [.sh (.scr ns), .sh (.int p), .sh (.int s), .sh (.int z)]) fun r => ∃ i, r = .sh (.int i) ∧ 0 ≤ i ∧ i < z := by
  rw [r_q_big]
  exact big_ok (k := 2) hs hs2 hz fun s h1 h2 => draw_c n hl hp h1 h2 (by decide)
abbrev SQ (a : Vl) (xs : List Int) : Prop := a = .sh (LI xs) ∨ a = .bo (LI xs) ∨ a = .sh (TI xs)
abbrev SL (a : Vl) (xs : List Int) : Prop := a = .sh (LI xs) ∨ a = .bo (LI xs)
def mgB (E : Ep) : Sms := (.cons (.ret (.lc (.n 3) (.r1 (.bin .Sub (.bin .Add (.bi .len (.cons (.v 0) .nil)) (.bi .len (.cons (.v 1) .nil))) (.c (.int (1))))) .nil (.bi .max (.cons (.lc (.n 2) (.r1 (.bi .len (.cons (.v 0) .nil))) (.cons (.chn .LtE .Lt (.c (.int (0))) (.bin .Sub (.v 3) (.v 2)) (.bi .len (.cons (.v 1) .nil))) .nil) E [2]) .nil)) [3])) .nil)
theorem len_sq {a : Vl} {xs : List Int} (h : SQ a xs) : biD .len [a] = some (.sh (.int xs.length)) := by
  rcases h with rfl | rfl | rfl <;> simp [biD, Vl.d]
theorem argd_use {a : Vl} {xs : List Int} (h : SQ a xs) : a.use.argd = a := by rcases h with rfl | rfl | rfl <;> rfl
theorem use_sq {a : Vl} {xs : List Int} (h : SQ a xs) : a.use = a := by rcases h with rfl | rfl | rfl <;> rfl
theorem ix_sq {a : Vl} {xs : List Int} (h : SQ a xs) {i : Nat} {x : Int} (hx : xs[i]? = some x) {j : Int} (hj : j = i) : ixD a.d (.int j) = some (.sh (.int x)) := by
  subst hj
  have := atI_LI hx
  rcases h with rfl | rfl | rfl <;> simp [ixD, Vl.d, this]
theorem merge_run {Φ : Fns} {deed : Int} {E : Ep} {a b : Vl} {xs ys : List Int} (ha : SQ a xs) (hb : SQ b ys) (hx : xs ≠ []) (hy : ys ≠ []) (hlx : xs.length ≤ 1000) (hly : ys.length ≤ 1000)
    (hE : ∀ (i k : Int) (x y : Int), 0 ≤ i → 0 ≤ k - i → xs[i.toNat]? = some x → ys[(k - i).toNat]? = some y → evalD Φ E [some a, some b, some (.sh (.int i)), some (.sh (.int k))] = some (.sh (.int (fOf deed x y)))) :
    Wo (runD Φ ⟨2, 4, mgB E⟩ [a, b]) fun r => ∃ vs, r = .fr (LI vs) ∧ Mg deed xs ys vs := by
  rw [z_run _ _ _ rfl]
  show Wo (execsD Φ (mgB E) [some a, some b, none, none]) _
  unfold mgB
  walk_at "vc"
  simp only [use_sq ha, use_sq hb]
  have ea : a.argd = a := by rcases ha with rfl | rfl | rfl <;> rfl
  have eb : b.argd = b := by rcases hb with rfl | rfl | rfl <;> rfl
  simp only [ea, eb]
  refine ⟨_, len_sq ha, _, len_sq hb, ?_⟩
  have hx' : 0 < xs.length := List.length_pos_iff.mpr hx
  have hy' : 0 < ys.length := List.length_pos_iff.mpr hy
  walk_at "vc"
  refine ⟨smallI_of (by omega) (by omega), by rw [rangeD_length]; omega, ?_⟩
  refine Wo.mono (zc_all (P := fun k _ y => ∃ v, y = .int v ∧ IsMx deed xs ys All k v) 0 ?_) ?_
  · intro k d hd
    obtain ⟨rfl, hk⟩ := rangeD_get hd
    walk_at "vc"
    simp only [use_sq ha, ea]
    refine ⟨_, len_sq ha, ?_⟩
    walk_at "vc"
    refine ⟨smallI_of (by omega) (by omega), by rw [rangeD_length]; omega, ?_⟩
    refine Wo.mono (zc_rel (R := fun d o => ∃ i : Nat, d = .int (0 + (i : Int)) ∧ (if i ≤ k ∧ k - i < ys.length then ∃ x y, xs[i]? = some x ∧ ys[k - i]? = some y ∧ o = some (.int (fOf deed x y)) else o = none)) ?_) ?_
    · intro d hd
      obtain ⟨i, hi0, hi1⟩ := List.getElem_of_mem hd
      have hi2 : (rangeD 0 (xs.length : Int))[i]? = some d := by rw [← hi1]; exact List.getElem?_eq_getElem hi0
      obtain ⟨rfl, hi⟩ := rangeD_get hi2
      clear hi1 hi0
      walk_at "vc"
      refine if_of (fun h1 => ?_) fun h1 => ⟨i, rfl, by rw [if_neg (by omega)]; trivial⟩
      simp only [use_sq hb, eb]
      refine ⟨_, len_sq hb, ?_⟩
      walk_at "vc"
      refine if_of (fun h2 => ?_) fun h2 => ⟨i, rfl, by rw [if_neg (by omega)]; trivial⟩
      have hi2 : i < xs.length := by omega
      have hj2 : k - i < ys.length := by omega
      have e1 : xs[(0 + (i : Int)).toNat]? = some xs[i] := by
        rw [show (0 + (i : Int)).toNat = i by omega]; exact List.getElem?_eq_getElem hi2
      have e2 : ys[(0 + (k : Int) - (0 + (i : Int))).toNat]? = some ys[k - i] := by
        rw [show (0 + (k : Int) - (0 + (i : Int))).toNat = k - i by omega]; exact List.getElem?_eq_getElem hj2
      refine ⟨_, hE _ _ _ _ (by omega) h1 e1 e2, ?_⟩
      walk_at "vc"
      exact ⟨i, rfl, by rw [if_pos (by omega)]; exact ⟨_, _, List.getElem?_eq_getElem hi2, List.getElem?_eq_getElem hj2, rfl⟩⟩
    · rintro ws ⟨os, o1, o2, rfl⟩
      rw [rangeD_length] at o1
      have hR : ∀ i o, os[i]? = some o → if i ≤ k ∧ k - i < ys.length then ∃ x y, xs[i]? = some x ∧ ys[k - i]? = some y ∧ o = some (.int (fOf deed x y)) else o = none := fun i o ho => by
        have hil := (List.getElem?_eq_some_iff.mp ho).1
        have hr : (rangeD 0 (xs.length : Int))[i]? = some (.int (0 + (i : Int))) := by
          unfold rangeD
          rw [List.getElem?_map, List.getElem?_range (by omega)]; rfl
        obtain ⟨j, hj, hj2⟩ := o2 i _ o hr ho
        have : i = j := by
          have := D.int.inj hj
          omega
        subst this
        exact hj2
      obtain ⟨cs, hcs, h1⟩ := ints_of (R := fun c => ∃ i j a b, xs[i]? = some a ∧ ys[j]? = some b ∧ i + j = k ∧ c = fOf deed a b) (ys := os.filterMap id) fun y hy => by
        obtain ⟨o, ho, e0⟩ := List.mem_filterMap.mp hy
        obtain ⟨i, hi, hio⟩ := List.getElem_of_mem ho
        have hh := hR i o (by rw [← hio]; exact List.getElem?_eq_getElem hi)
        split at hh
        · rename_i hc
          obtain ⟨x, y', e1, e2, e3⟩ := hh
          subst e3
          cases e0
          exact ⟨_, rfl, i, k - i, x, y', e1, e2, by omega, rfl⟩
        · subst hh
          cases e0
      have h2 : ∀ i j a b, xs[i]? = some a → ys[j]? = some b → i + j = k → fOf deed a b ∈ cs := fun i j x y e1 e2 e3 => by
        have l1 := (List.getElem?_eq_some_iff.mp e1).1
        have l2 := (List.getElem?_eq_some_iff.mp e2).1
        have hi : i < os.length := by omega
        have hh := hR i _ (List.getElem?_eq_getElem hi)
        rw [if_pos (by omega)] at hh
        obtain ⟨x', y', f1, f2, f3⟩ := hh
        rw [e1] at f1; cases f1
        rw [show k - i = j by omega, e2] at f2; cases f2
        have : D.int (fOf deed x y) ∈ os.filterMap id := List.mem_filterMap.mpr ⟨_, List.getElem_mem hi, by rw [f3]; rfl⟩
        rw [hcs] at this
        obtain ⟨c, hc, hce⟩ := List.mem_map.mp this
        cases hce
        exact hc
      obtain ⟨m1, m2⟩ := max_mg hx hy (k := k) (by omega) h1 h2
      rw [hcs]
      walk_at "vc"
      refine ⟨_, z_maxLI (.inl rfl) m1, ?_⟩
      walk_at "vc"
      exact ⟨_, rfl, _, rfl, by rw [Nat.zero_add]; exact m2⟩
  · rintro zs ⟨h1, h2⟩
    rw [rangeD_length] at h1
    have h3 : ∀ i y, zs[i]? = some y → ∃ v, y = .int v ∧ IsMx deed xs ys All i v := fun i y hy => by
      have hil := (List.getElem?_eq_some_iff.mp hy).1
      have hr : (rangeD 0 ((xs.length : Int) + (ys.length : Int) - 1))[i]? = some (.int (0 + (i : Int))) := by
        unfold rangeD
        rw [List.getElem?_map, List.getElem?_range (by omega)]; rfl
      have := h2 i _ y hr hy
      rwa [Nat.zero_add] at this
    obtain ⟨vs, rfl, _⟩ := ints_of (R := fun _ => True) (ys := zs) fun y hy => by
      obtain ⟨i, hi, rfl⟩ := List.getElem_of_mem hy
      obtain ⟨v, hv, _⟩ := h3 i _ (List.getElem?_eq_getElem hi)
      exact ⟨v, hv, trivial⟩
    walk_at "vc"
    refine ⟨vs, rfl, by simp at h1; omega, fun k v hv => ?_⟩
    obtain ⟨w, hw, hm⟩ := h3 k (.int v) (by rw [List.getElem?_map, hv]; rfl)
    cases hw
    exact hm
theorem sum_c (n : Nat) {a b : Vl} {xs ys : List Int} (ha : SQ a xs) (hb : SQ b ys) (hx : xs ≠ []) (hy : ys ≠ []) (hlx : xs.length ≤ 1000) (hly : ys.length ≤ 1000) :
    Wo (callD T (n + 1) 0 [a, b]) fun r => ∃ vs, r = .fr (LI vs) ∧ Mg 0 xs ys vs := by
  rw [r_sum_merge]
  refine merge_run (E := (.bin .Add (.ix (.v 0) (.v 2)) (.ix (.v 1) (.bin .Sub (.v 3) (.v 2))))) ha hb hx hy hlx hly fun i k x y h1 h2 e1 e2 => Wo.eq ?_
  walk_at "vc"
  simp only [use_sq ha, use_sq hb]
  refine ⟨_, ix_sq ha e1 (by omega), _, ix_sq hb e2 (by omega), ?_⟩
  walk_at "vc"
  rfl
theorem least_c (n : Nat) {a b : Vl} {xs ys : List Int} (ha : SQ a xs) (hb : SQ b ys) (hx : xs ≠ []) (hy : ys ≠ []) (hlx : xs.length ≤ 1000) (hly : ys.length ≤ 1000) :
    Wo (callD T (n + 1) 1 [a, b]) fun r => ∃ vs, r = .fr (LI vs) ∧ Mg 1 xs ys vs := by
  rw [r_least_merge]
  refine merge_run (E := (.bi .min (.cons (.ix (.v 0) (.v 2)) (.cons (.ix (.v 1) (.bin .Sub (.v 3) (.v 2))) .nil)))) ha hb hx hy hlx hly fun i k x y h1 h2 e1 e2 => Wo.eq ?_
  walk_at "vc"
  simp only [use_sq ha, use_sq hb]
  refine ⟨_, ix_sq ha e1 (by omega), _, ix_sq hb e2 (by omega), ?_⟩
  walk_at "vc"
  rfl
theorem merge_c (n : Nat) {deed : Int} {a b : Vl} {xs ys : List Int} (hd : deed = 0 ∨ deed = 1) (ha : SQ a xs) (hb : SQ b ys) (hx : xs ≠ []) (hy : ys ≠ []) (hlx : xs.length ≤ 1000) (hly : ys.length ≤ 1000) :
    Wo (callD T (n + 2) 6 [.sh (.int deed), a, b]) fun r => ∃ vs, r = .fr (LI vs) ∧ Mg deed xs ys vs := by
  rw [r_q_merge, z_run _ _ _ rfl]
  show Wo (execsD (callD T (n + 1)) b_q_merge [some (.sh (.int deed)), some a, some b]) _
  have ea : a.use.argd = a := argd_use ha
  have eb : b.use.argd = b := argd_use hb
  unfold b_q_merge
  walk_at "vc"
  refine if_of (fun h => ?_) fun h => ?_
  · simp only [ea, eb]
    refine Wo.mono (sum_c n ha hb hx hy hlx hly) ?_
    rintro r ⟨vs, rfl, h1⟩
    subst h
    exact ⟨vs, rfl, h1⟩
  · unfold b_q_merge_1
    walk_at "vc"
    simp only [ea, eb]
    refine Wo.mono (least_c n ha hb hx hy hlx hly) ?_
    rintro r ⟨vs, rfl, h1⟩
    have : deed = 1 := by omega
    subst this
    exact ⟨vs, rfl, h1⟩

/-! the profile -/
theorem more_at {d : Int} (h0 : 0 ≤ d) (h1 : d < 8) : ∃ m : Int, atI [D.int 0, .int 0, .int 0, .int 1, .int 1, .int 2, .int 3, .int 4] d = some (.int m) ∧ 0 ≤ m ∧ m ≤ 4 := by
  obtain ⟨k, rfl⟩ := Int.eq_ofNat_of_zero_le h0
  have : k < 8 := by omega
  rcases k with _ | _ | _ | _ | _ | _ | _ | _ | k
  · exact ⟨0, rfl, by decide, by decide⟩
  · exact ⟨0, rfl, by decide, by decide⟩
  · exact ⟨0, rfl, by decide, by decide⟩
  · exact ⟨1, rfl, by decide, by decide⟩
  · exact ⟨1, rfl, by decide, by decide⟩
  · exact ⟨2, rfl, by decide, by decide⟩
  · exact ⟨3, rfl, by decide, by decide⟩
  · exact ⟨4, rfl, by decide, by decide⟩
  · omega
abbrev QP : O → Prop := fun o => match o with | .rt r => ∃ xs : List Int, r = .fr (LI xs) ∧ xs ≠ [] ∧ xs.length ≤ 25 | .nx _ => ∃ xs : List Int, Vl.sh .non = .fr (LI xs) ∧ xs ≠ [] ∧ xs.length ≤ 25 | _ => False
theorem prof_4 (n : Nat) {ns : List Int} {p sh sz e : Int} (hl : ns.length ≤ 63) (hp : 0 ≤ p) (h1 : 1 ≤ sz) (h2 : sz ≤ 25) :
    Wo (execsD (callD T (n + 1)) b_q_profile_4 [some (.sh (.scr ns)), some (.sh (.int p)), some (.sh (.int sh)), some (.sh (.int sz)), some (.sh (.int e)), none, none, none]) QP := by
  unfold b_q_profile_4
  walk_at "vc"
  refine ⟨by simp, smallI_of (by omega) (by omega), zl_for (fun i ε => ∃ (xs : List Int) (y6 y7 : Option Vl), ε = [some (.sh (.scr ns)), some (.sh (.int p)), some (.sh (.int sh)), some (.sh (.int sz)), some (.sh (.int e)), some (.fr (LI xs)), y6, y7] ∧ xs.length = i + 1) ⟨[e], _, _, rfl, rfl⟩ ?_ ?_⟩
  · rintro i d ε hd ⟨xs, y6, y7, rfl, hx⟩
    obtain ⟨rfl, hi⟩ := rangeD_get hd
    unfold b_q_profile_L3
    walk_at "vc"
    refine ⟨by simp, Wo.mono (draw_c n (ns := ns) (p := p) (s := 10 + (0 + (i : Int))) (z := 8) hl hp (by omega) (by omega) (by decide)) ?_⟩
    rintro r ⟨k, rfl, k0, k1⟩
    walk_at "vc"
    obtain ⟨m, hm, m0, m1⟩ := more_at k0 k1
    refine ⟨_, hm, ?_⟩
    walk_at "vc"
    have last : ∃ z, atI (xs.map D.int) (-1) = some (.int z) := by
      have hne : xs ≠ [] := by intro z; subst z; simp at hx
      have : xs.map D.int = (xs.dropLast).map D.int ++ [.int (xs.getLast hne)] := by
        conv => lhs; rw [← List.dropLast_concat_getLast hne]
        simp
      rw [this]
      exact ⟨_, L2.atI_last _ _⟩
    obtain ⟨z, hz⟩ := last
    have fin : ∀ (w : Int) (y : Option Vl), ∃ (xs_1 : List Int) (y6 y7 : Option Vl), [some (Vl.sh (.scr ns)), some (.sh (.int p)), some (.sh (.int sh)), some (.sh (.int sz)), some (.sh (.int e)), some (.fr (.lst (xs.map D.int ++ [.int w]))), some (.sh (.int (0 + (i : Int)))), y] = [some (.sh (.scr ns)), some (.sh (.int p)), some (.sh (.int sh)), some (.sh (.int sz)), some (.sh (.int e)), some (.fr (LI xs_1)), y6, y7] ∧ xs_1.length = i + 1 + 1 := fun w y => ⟨xs ++ [w], _, _, by simp [LI]; exact ⟨rfl, rfl⟩, by simp [hx]⟩
    unfold b_q_profile_2
    refine if_of (fun _ => ?_) fun _ => ?_
    · refine ⟨⟨by decide, by decide, by decide⟩, mulL (by omega) (by omega), ?_⟩
      walk_at "vc"
      refine ⟨_, hz, ?_⟩
      walk_at "vc"
      exact ⟨by simp; omega, fin _ _⟩
    · walk_at "vc"
      refine ⟨_, hz, ?_⟩
      walk_at "vc"
      exact ⟨by simp; omega, fin _ _⟩
  · rintro ε ⟨xs, y6, y7, rfl, hx⟩
    rw [rangeD_length] at hx
    unfold b_q_profile_1
    walk_at "vc"
    exact ⟨xs, rfl, by intro z; subst z; simp at hx, by omega⟩
theorem prof_5 (n : Nat) {ns : List Int} {p sh sz : Int} (hl : ns.length ≤ 63) (hp : 0 ≤ p) (h1 : 1 ≤ sz) (h2 : sz ≤ 25) :
    Wo (execsD (callD T (n + 2)) b_q_profile_5 [some (.sh (.scr ns)), some (.sh (.int p)), some (.sh (.int sh)), some (.sh (.int sz)), none, none, none, none]) QP := by
  unfold b_q_profile_5
  walk_at "vc"
  refine Wo.mono (draw_c (n + 1) (ns := ns) (p := p) (s := 2) (z := 15) hl hp (by decide) (by decide) (by decide)) ?_
  rintro r ⟨k, rfl, k0, k1⟩
  walk_at "vc"
  refine if_of (fun _ => ?_) fun _ => prof_4 (n + 1) hl hp h1 h2
  refine ⟨⟨by decide, by decide, by decide⟩, mulL (by decide) (by decide), ?_⟩
  refine Wo.mono (big_c n (ns := ns) (p := p) (s := 3) hl hp (by decide) (by decide) (by decide)) ?_
  rintro r ⟨k2, rfl, _, _⟩
  walk_at "vc"
  exact ⟨⟨by decide, by decide, by decide⟩, prof_4 (n + 1) hl hp h1 h2⟩
theorem prof_c (n : Nat) {ns : List Int} {p : Int} (hl : ns.length ≤ 63) (hp : 0 ≤ p) : Wo (callD T (n + 3) 4 [.sh (.scr ns), .sh (.int p)]) fun r => ∃ xs : List Int, r = .fr (LI xs) ∧ xs ≠ [] ∧ xs.length ≤ 25 := by
  rw [r_q_profile, z_run _ _ _ rfl]
  show Wo (execsD (callD T (n + 2)) b_q_profile [some (.sh (.scr ns)), some (.sh (.int p)), none, none, none, none, none, none]) QP
  unfold b_q_profile
  walk_at "vc"
  refine Wo.mono (draw_c (n + 1) (ns := ns) (p := p) (s := 0) (z := 8) hl hp (by decide) (by decide) (by decide)) ?_
  rintro r ⟨k, rfl, k0, k1⟩
  walk_at "vc"
  refine if_of (fun _ => ⟨by simp, [0], rfl, by simp, by simp⟩) fun _ => ?_
  unfold b_q_profile_6
  walk_at "vc"
  refine Wo.mono (draw_c (n + 1) (ns := ns) (p := p) (s := 1) (z := 6) hl hp (by decide) (by decide) (by decide)) ?_
  rintro r ⟨k, rfl, k0, k1⟩
  walk_at "vc"
  refine if_of (fun _ => ?_) fun _ => prof_5 n hl hp (by omega) (by omega)
  refine Wo.mono (draw_c (n + 1) (ns := ns) (p := p) (s := 1) (z := 25) hl hp (by decide) (by decide) (by decide)) ?_
  rintro r ⟨k, rfl, k0, k1⟩
  walk_at "vc"
  exact prof_5 n hl hp (by omega) (by omega)
/-! what is due -/
def oD : Option Int → D
  | none => .non
  | some v => .int v
theorem oD_map (vs : List Int) : (vs.map some).map oD = vs.map D.int := by simp [oD]
theorem set_map (os : List (Option Int)) (k : Nat) (v : Int) : (os.map oD).set k (.int v) = (os.set k (some v)).map oD := by rw [List.map_set]; rfl
theorem due_step {deed : Int} {xs ys : List Int} {P : Nat → Nat → Prop} {os : List (Option Int)} {i j : Nat} {a b : Int} (h : ∀ k o, os[k]? = some o → Part deed xs ys P k o) (ha : xs[i]? = some a) (hb : ys[j]? = some b)
    (hn : ∀ v, os[i + j]? = some (some v) → v < fOf deed a b) : ∀ k o, (os.set (i + j) (some (fOf deed a b)))[k]? = some o → Part deed xs ys (fun i' j' => P i' j' ∨ (i' = i ∧ j' = j)) k o := fun k o ho => by
  by_cases hk : i + j = k
  · subst hk
    have hl : i + j < os.length := by
      have := (List.getElem?_eq_some_iff.mp ho).1
      simpa using this
    rw [List.getElem?_set_self hl] at ho
    cases ho
    exact (h _ _ (List.getElem?_eq_getElem hl)).new ha hb fun v hv => hn v (by rw [List.getElem?_eq_getElem hl, hv])
  · rw [List.getElem?_set_ne hk] at ho
    exact (h k o ho).other fun z => hk z.symm
theorem due_keep {deed : Int} {xs ys : List Int} {P : Nat → Nat → Prop} {os : List (Option Int)} {i j : Nat} {a b v : Int} (h : ∀ k o, os[k]? = some o → Part deed xs ys P k o) (ha : xs[i]? = some a) (hb : ys[j]? = some b)
    (hv : os[i + j]? = some (some v)) (hn : fOf deed a b ≤ v) : ∀ k o, os[k]? = some o → Part deed xs ys (fun i' j' => P i' j' ∨ (i' = i ∧ j' = j)) k o := fun k o ho => by
  by_cases hk : i + j = k
  · subst hk
    rw [hv] at ho
    cases ho
    exact (h _ _ hv).old ha hb hn
  · exact (h k o ho).other fun z => hk z.symm
abbrev QD (deed : Int) (xs ys : List Int) : O → Prop := fun o => match o with | .rt r => ∃ vs : List Int, r = .fr (LI vs) ∧ Mg deed xs ys vs | .nx _ => ∃ vs : List Int, Vl.sh .non = .fr (LI vs) ∧ Mg deed xs ys vs | _ => False
theorem fm_const : ∀ l : List D, l.filterMap (fun _ => some D.non) = List.replicate l.length D.non
  | [] => rfl
  | _ :: l => by simp [fm_const l, List.replicate_succ]
theorem due_c (n : Nat) {deed : Int} {a b : Vl} {xs ys : List Int} (hd : deed = 0 ∨ deed = 1) (ha : SL a xs) (hb : SL b ys) (hx : xs ≠ []) (hy : ys ≠ []) (hlx : xs.length ≤ 1000) (hly : ys.length ≤ 1000) :
    Wo (callD T (n + 1) 5 [.sh (.int deed), a, b]) fun r => ∃ vs, r = .fr (LI vs) ∧ Mg deed xs ys vs := by
  have sa : SQ a xs := ha.elim .inl fun h => .inr (.inl h)
  have sb : SQ b ys := hb.elim .inl fun h => .inr (.inl h)
  have hx' : 0 < xs.length := List.length_pos_iff.mpr hx
  have hy' : 0 < ys.length := List.length_pos_iff.mpr hy
  rw [r_q_due, z_run _ _ _ rfl]
  show Wo (execsD (callD T n) b_q_due [some (.sh (.int deed)), some a, some b, none, none, none, none, none]) (QD deed xs ys)
  have ea : a.use.argd = a := argd_use sa
  have eb : b.use.argd = b := argd_use sb
  unfold b_q_due
  walk_at "vc"
  simp only [ea, eb]
  refine ⟨_, len_sq sa, _, len_sq sb, ?_⟩
  walk_at "vc"
  refine ⟨smallI_of (by omega) (by omega), by rw [rangeD_length]; omega, ?_⟩
  refine ⟨_, zc_fun (g := fun _ => some .non) fun d hd => Wo.eq (by walk_at "vc"), ?_⟩
  have e0 : List.filterMap (fun _ => some D.non) (rangeD 0 ((xs.length : Int) + (ys.length : Int) - 1)) = (List.replicate (xs.length + ys.length - 1) (none : Option Int)).map oD := by
    rw [fm_const, rangeD_length, List.map_replicate, show ((xs.length : Int) + (ys.length : Int) - 1 - 0).toNat = xs.length + ys.length - 1 by omega]; rfl
  rw [e0]
  walk_at "vc"
  refine ⟨_, len_sq sa, ?_⟩
  walk_at "vc"
  refine ⟨smallI_of (by omega) (by omega), zl_for (fun i ε => ∃ (os : List (Option Int)) (y5 y6 y7 : Option Vl), ε = [some (.sh (.int deed)), some a, some b, some (.fr (.lst (os.map oD))), none, y5, y6, y7] ∧ os.length = xs.length + ys.length - 1 ∧ ∀ k o, os[k]? = some o → Part deed xs ys (fun i' _ => i' < i) k o) ⟨List.replicate (xs.length + ys.length - 1) none, _, _, _, rfl, by simp, fun k o ho => ?_⟩ ?_ ?_⟩
  · have := List.getElem?_eq_some_iff.mp ho
    obtain ⟨h1, h2⟩ := this
    rw [List.getElem_replicate] at h2
    subst h2
    exact fun i j a b _ _ _ h => absurd h (by omega)
  · rintro i d ε hd ⟨os, y5, y6, y7, rfl, h1, h2⟩
    obtain ⟨rfl, hi⟩ := rangeD_get hd
    have hi' : i < xs.length := by omega
    obtain ⟨x, hxi⟩ : ∃ x, xs[i]? = some x := ⟨_, List.getElem?_eq_getElem hi'⟩
    unfold b_q_due_L4
    walk_at "vc"
    simp only [eb]
    refine ⟨_, len_sq sb, ?_⟩
    walk_at "vc"
    refine ⟨smallI_of (by omega) (by omega), zl_for (fun j ε => ∃ (os : List (Option Int)) (y6 y7 : Option Vl), ε = [some (.sh (.int deed)), some a, some b, some (.fr (.lst (os.map oD))), none, some (.sh (.int (0 + (i : Int)))), y6, y7] ∧ os.length = xs.length + ys.length - 1 ∧ ∀ k o, os[k]? = some o → Part deed xs ys (fun i' j' => i' < i ∨ (i' = i ∧ j' < j)) k o) ⟨os, _, _, rfl, h1, fun k o ho => (h2 k o ho).congr fun i' j' a b _ _ _ => by omega⟩ ?_ ?_⟩
    · rintro j d ε hd ⟨os, y6, y7, rfl, h1, h2⟩
      obtain ⟨rfl, hj⟩ := rangeD_get hd
      have hj' : j < ys.length := by omega
      obtain ⟨y, hyj⟩ : ∃ y, ys[j]? = some y := ⟨_, List.getElem?_eq_getElem hj'⟩
      have tail : ∀ v : Int, v = fOf deed x y → Wo (execsD (callD T n) b_q_due_2 [some (.sh (.int deed)), some a, some b, some (.fr (.lst (os.map oD))), none, some (.sh (.int (0 + (i : Int)))), some (.sh (.int (0 + (j : Int)))), some (.sh (.int v))])
          fun o => match o with | .nx ε3 => ∃ (os : List (Option Int)) (y6 y7 : Option Vl), ε3 = [some (.sh (.int deed)), some a, some b, some (.fr (.lst (os.map oD))), none, some (.sh (.int (0 + (i : Int)))), y6, y7] ∧ os.length = xs.length + ys.length - 1 ∧ ∀ k o, os[k]? = some o → Part deed xs ys (fun i' j' => i' < i ∨ (i' = i ∧ j' < j + 1)) k o | _ => False := fun v hv => by
        have hk : i + j < os.length := by omega
        obtain ⟨o, ho⟩ : ∃ o, os[i + j]? = some o := ⟨_, List.getElem?_eq_getElem hk⟩
        have hat : atI (os.map oD) (0 + (i : Int) + (0 + (j : Int))) = some (oD o) := by
          rw [show 0 + (i : Int) + (0 + (j : Int)) = ((i + j : Nat) : Int) by omega]
          exact atI_nat (by rw [List.getElem?_map, ho]; rfl)
        have hix : ixN (os.map oD).length (0 + (i : Int) + (0 + (j : Int))) = some (i + j) := by
          rw [show 0 + (i : Int) + (0 + (j : Int)) = ((i + j : Nat) : Int) by omega]
          exact ixN_nat (by simpa using hk)
        have setIt : (∀ v, os[i + j]? = some (some v) → v < fOf deed x y) → ∃ (os_1 : List (Option Int)) (y6 y7 : Option Vl), [some (Vl.sh (.int deed)), some a, some b, some (.fr (.lst ((os.map oD).set (i + j) (.int v)))), none, some (.sh (.int (0 + (i : Int)))), some (.sh (.int (0 + (j : Int)))), some (.sh (.int v))] = [some (.sh (.int deed)), some a, some b, some (.fr (.lst (os_1.map oD))), none, some (.sh (.int (0 + (i : Int)))), y6, y7] ∧ os_1.length = xs.length + ys.length - 1 ∧ ∀ k o, os_1[k]? = some o → Part deed xs ys (fun i' j' => i' < i ∨ (i' = i ∧ j' < j + 1)) k o := fun hn => by
          refine ⟨os.set (i + j) (some v), _, _, by rw [set_map], by simpa using h1, fun k o ho => ?_⟩
          subst hv
          exact (due_step h2 hxi hyj hn k o ho).congr fun i' j' _ _ _ _ _ => by omega
        unfold b_q_due_2
        walk_at "vc"
        refine ⟨_, hat, ?_⟩
        cases o with
        | none =>
          simp only [oD]
          walk_at "vc"
          refine ⟨_, rfl, ?_⟩
          walk_at "vc"
          exact ⟨_, hix, setIt fun v hv => by rw [ho] at hv; cases hv⟩
        | some w =>
          simp only [oD]
          refine ⟨false, rfl, ?_⟩
          walk_at "vc"
          refine ⟨_, hat, ?_⟩
          simp only [oD]
          walk_at "vc"
          refine if_of (fun hlt => ⟨_, hix, setIt fun v' hv' => ?_⟩) fun hlt => ?_
          · rw [ho] at hv'; cases hv'; omega
          · exact ⟨os, _, _, rfl, h1, fun k o hko => (due_keep h2 hxi hyj ho (by omega) k o hko).congr fun i' j' _ _ _ _ _ => by omega⟩
      unfold b_q_due_L3
      walk_at "vc"
      simp only [use_sq sa, use_sq sb]
      refine ⟨_, ix_sq sa hxi (by omega), _, ix_sq sb hyj (by omega), ?_⟩
      walk_at "vc"
      refine if_of (fun h => ?_) fun h => ?_
      · simp only [use_sq sa, use_sq sb]
        refine ⟨_, ix_sq sa hxi (by omega), _, ix_sq sb hyj (by omega), ?_⟩
        walk_at "vc"
        exact wo_nx (tail _ (by unfold fOf; rw [if_pos h])) fun e he => he
      · exact wo_nx (tail _ (by unfold fOf; rw [if_neg h])) fun e he => he
    · rintro ε ⟨os, y6, y7, rfl, h1, h2⟩
      rw [rangeD_length] at h2
      walk_at "vc"
      refine ⟨os, _, _, _, rfl, h1, fun k o ho => (h2 k o ho).congr fun i' j' a b e1 e2 _ => ?_⟩
      have := (List.getElem?_eq_some_iff.mp e2).1
      omega
  · rintro ε ⟨os, y5, y6, y7, rfl, h1, h2⟩
    rw [rangeD_length] at h2
    unfold b_q_due_1
    walk_at "vc"
    obtain ⟨vs, rfl, hm⟩ := parts_all hx hy h1 fun k o ho => (h2 k o ho).congr (P' := All) fun i' j' a b e1 e2 _ => by
      have := (List.getElem?_eq_some_iff.mp e1).1
      exact ⟨fun _ => trivial, fun _ => by omega⟩
    exact ⟨vs, by rw [oD_map], hm⟩

theorem fits_c (n : Nat) {a b : Vl} {xs : List Int} (ha : SL a xs) (hb : SL b xs) (hl : xs.length ≤ 2000) : callD T (n + 1) 7 [a, b] = some (.sh (.bl true)) := by
  refine Wo.eq ?_
  have sb : SQ b xs := hb.elim .inl fun h => .inr (.inl h)
  have sa : SQ a xs := ha.elim .inl fun h => .inr (.inl h)
  rw [r_q_fits, z_run _ _ _ rfl]
  show Wo (execsD (callD T n) b_q_fits [some a, some b, none]) QT
  have ea : a.use.argd = a := argd_use sa
  have eb : b.use.argd = b := argd_use sb
  have key : Wo (execsD (callD T n) b_q_fits_3 [some a, some b, none]) QT := by
    unfold b_q_fits_3
    walk_at "vc"
    simp only [eb]
    refine ⟨_, len_sq sb, ?_⟩
    walk_at "vc"
    refine ⟨smallI_of (by omega) (by omega), zl_for (fun i ε => ∃ (y2 : Option Vl), ε = [some a, some b, y2]) ⟨_, rfl⟩ ?_ ?_⟩
    · rintro i d ε hd ⟨y2, rfl⟩
      obtain ⟨rfl, hi⟩ := rangeD_get hd
      have hi' : i < xs.length := by omega
      obtain ⟨x, hxi⟩ : ∃ x, xs[i]? = some x := ⟨_, List.getElem?_eq_getElem hi'⟩
      unfold b_q_fits_L2
      walk_at "vc"
      simp only [use_sq sa, use_sq sb]
      refine ⟨_, ix_sq sa hxi (by omega), ?_⟩
      walk_at "vc"
      refine ⟨_, ix_sq sa hxi (by omega), ?_⟩
      walk_at "vc"
      refine ⟨_, ix_sq sa hxi (by omega), _, ix_sq sb hxi (by omega), ?_⟩
      walk_at "vc"
      rw [if_neg (by simp)]
      exact ⟨_, rfl⟩
    · rintro ε ⟨y2, rfl⟩
      unfold b_q_fits_1
      walk_at "vc"
  unfold b_q_fits
  rcases ha with rfl | rfl
  all_goals
    walk_at "vc"
    simp only [eb]
    refine ⟨_, len_sq sb, ?_⟩
    walk_at "vc"
    rw [if_neg (by simp)]
    exact key
/-! one deed -/
abbrev FQ (a : Vl) (xs : List Int) : Prop := a = .fr (LI xs) ∨ a = .sh (TI xs)
theorem fq_use {a : Vl} {xs : List Int} (h : FQ a xs) : SQ a.use.argd xs := by
  rcases h with rfl | rfl
  · exact .inr (.inl rfl)
  · exact .inr (.inr rfl)
theorem list_fq {a : Vl} {xs : List Int} (h : FQ a xs) : biD .list [a.use.argd] = some (.fr (LI xs)) := by
  rcases h with rfl | rfl <;> rfl
theorem mg_ne {deed : Int} {xs ys vs : List Int} (h : Mg deed xs ys vs) (hx : xs ≠ []) (hy : ys ≠ []) : vs ≠ [] := by
  have hx' : 0 < xs.length := List.length_pos_iff.mpr hx
  have hy' : 0 < ys.length := List.length_pos_iff.mpr hy
  intro z
  have := h.1
  rw [z] at this
  simp at this
  omega
theorem holds_2 (n : Nat) {deed : Int} {a b c d : Vl} {xs ys zs ws vs : List Int} {x3 : Option Vl} (hd : deed = 0 ∨ deed = 1) (ha : SL a xs) (hb : SL b ys) (hc : FQ c zs) (hw : FQ d ws) (hx : xs ≠ []) (hy : ys ≠ []) (hz : zs ≠ []) (hws : ws ≠ [])
    (hlx : xs.length ≤ 50) (hly : ys.length ≤ 50) (hlz : zs.length ≤ 51) (hlw : ws.length ≤ 51) (hv : Mg deed xs ys vs) :
    Wo (execsD (callD T (n + 2)) b_q_holds_3 [some (.sh (.int deed)), some a, some b, x3, some (.fr (LI vs)), some c, some d, some (.fr (LI vs))]) QT := by
  have hvl := hv.1
  have hvn := mg_ne hv hx hy
  obtain ⟨v0, vr, hve⟩ : ∃ v0 vr, vs = v0 :: vr := by
    cases vs with
    | nil => exact absurd rfl hvn
    | cons v0 vr => exact ⟨v0, vr, rfl⟩
  unfold b_q_holds_3
  walk_at "vc"
  refine ⟨_, fits_c (n + 1) (xs := vs) (.inr rfl) (.inr rfl) (by omega), ?_⟩
  walk_at "vc"
  unfold b_q_holds_2
  walk_at "vc"
  refine ⟨by simp; omega, ?_⟩
  have at0 : atI (vs.map D.int ++ [.int 0]) 0 = some (.int v0) := by subst hve; exact atI_nat (j := 0) rfl
  refine ⟨_, at0, ?_⟩
  walk_at "vc"
  refine ⟨0, ixN_nat (by simp), ?_⟩
  walk_at "vc"
  refine Wo.mono (merge_c n hd (fq_use hc) (fq_use hw) hz hws (by omega) (by omega)) ?_
  rintro r ⟨us, rfl, hu⟩
  walk_at "vc"
  refine ⟨_, list_fq hc, ?_⟩
  refine ⟨_, list_fq hw, ?_⟩
  walk_at "vc"
  refine Wo.mono (due_c (n + 1) hd (.inl rfl) (.inl rfl) hz hws (by omega) (by omega)) ?_
  rintro r ⟨us2, rfl, hu2⟩
  have := hu.uniq hu2
  subst this
  have hul := hu.1
  walk_at "vc"
  refine ⟨_, fits_c (n + 1) (xs := us) (.inl rfl) (.inl rfl) (by omega), ?_⟩
  walk_at "vc"
  have sa : SQ a xs := ha.elim .inl fun h => .inr (.inl h)
  have sb : SQ b ys := hb.elim .inl fun h => .inr (.inl h)
  unfold b_q_holds_1
  walk_at "vc"
  have la : biD .list [a.use.argd] = some (.fr (LI xs)) := by rcases ha with rfl | rfl <;> rfl
  have tb : biD .tuple [b.use.argd] = some (.sh (TI ys)) := by rcases hb with rfl | rfl <;> rfl
  refine ⟨_, la, _, tb, ?_⟩
  walk_at "vc"
  refine Wo.mono (merge_c n hd (.inl rfl) (.inr (.inr rfl)) hx hy (by omega) (by omega)) ?_
  rintro r ⟨us3, rfl, hu3⟩
  have := hu3.uniq hv
  subst this
  walk_at "vc"
  refine ⟨_, fits_c (n + 1) (xs := us3) (.inl rfl) (.inr rfl) (by omega), ?_⟩
  walk_at "vc"
theorem holds_6 (n : Nat) {deed : Int} {a b c d : Vl} {xs ys vs : List Int} {x3 x7 : Option Vl} (hd : deed = 0 ∨ deed = 1) (ha : SL a xs) (hb : SL b ys) (hc : FQ c xs) (hw : FQ d ys) (hx : xs ≠ []) (hy : ys ≠ [])
    (hlx : xs.length ≤ 50) (hly : ys.length ≤ 50) (hv : Mg deed xs ys vs) :
    Wo (execsD (callD T (n + 2)) b_q_holds_6 [some (.sh (.int deed)), some a, some b, x3, some (.fr (LI vs)), some c, some d, x7]) QT := by
  have hvl := hv.1
  have sa : SQ a xs := ha.elim .inl fun h => .inr (.inl h)
  have sb : SQ b ys := hb.elim .inl fun h => .inr (.inl h)
  have ea : SL a.use.argd xs := by rw [argd_use sa]; exact ha
  have eb : SL b.use.argd ys := by rw [argd_use sb]; exact hb
  unfold b_q_holds_6
  walk_at "vc"
  refine Wo.mono (merge_c n hd (fq_use hc) (fq_use hw) hx hy (by omega) (by omega)) ?_
  rintro r ⟨us, rfl, hu⟩
  have := hu.uniq hv
  subst this
  walk_at "vc"
  refine ⟨_, fits_c (n + 1) (xs := us) (.inr rfl) (.inr rfl) (by omega), ?_⟩
  walk_at "vc"
  refine ⟨_, list_fq hc, ?_⟩
  walk_at "vc"
  refine ⟨_, fits_c (n + 1) (xs := xs) (.inl rfl) ea (by omega), ?_⟩
  walk_at "vc"
  refine ⟨_, list_fq hw, ?_⟩
  walk_at "vc"
  refine ⟨_, fits_c (n + 1) (xs := ys) (.inl rfl) eb (by omega), ?_⟩
  walk_at "vc"
  obtain ⟨z, hz⟩ : ∃ z, atI (xs.map D.int) (-1) = some (.int z) := by
    have : xs.map D.int = (xs.dropLast).map D.int ++ [.int (xs.getLast hx)] := by
      conv => lhs; rw [← List.dropLast_concat_getLast hx]
      simp
    rw [this]
    exact ⟨_, L2.atI_last _ _⟩
  obtain ⟨w, hw0⟩ : ∃ w, atI (ys.map D.int) 0 = some (.int w) := by
    cases ys with
    | nil => exact absurd rfl hy
    | cons y ys => exact ⟨y, atI_nat (j := 0) rfl⟩
  have t4 : ∀ (c : Vl) (zs : List Int), FQ c zs → zs ≠ [] → zs.length ≤ 51 → Wo (execsD (callD T (n + 2)) b_q_holds_4 [some (.sh (.int deed)), some a, some b, x3, some (.fr (LI us)), some c, some d, some (.fr (LI us))]) QT := fun c zs hc hz hzl => by
    unfold b_q_holds_4
    rcases hw with rfl | rfl
    · walk_at "vc"
      refine ⟨_, hw0, ?_⟩
      walk_at "vc"
      refine ⟨⟨by simp; omega, by decide, by decide⟩, ?_⟩
      have e : List.take (Int.toNat 0) (ys.map D.int) ++ D.int (w - 3) :: List.drop (Int.toNat 0) (ys.map D.int) = ((w - 3) :: ys).map D.int := by simp
      rw [e]
      exact holds_2 n hd ha hb hc (.inl rfl) hx hy hz (by simp) hlx hly hzl (by simp; omega) hv
    · walk_at "vc"
      exact holds_2 n hd ha hb hc (.inr rfl) hx hy hz hy hlx hly hzl (by omega) hv
  unfold b_q_holds_5
  rcases hc with rfl | rfl
  · walk_at "vc"
    refine ⟨_, hz, ?_⟩
    walk_at "vc"
    refine ⟨by simp; omega, ?_⟩
    have e : xs.map D.int ++ [D.int (z + 5)] = (xs ++ [z + 5]).map D.int := by simp
    rw [e]
    exact t4 _ _ (.inl rfl) (by simp) (by simp; omega)
  · walk_at "vc"
    exact t4 _ _ (.inr rfl) hx (by omega)
theorem holds_c (n : Nat) {deed sh : Int} {a b : Vl} {xs ys : List Int} (hd : deed = 0 ∨ deed = 1) (ha : SL a xs) (hb : SL b ys) (hx : xs ≠ []) (hy : ys ≠ []) (hlx : xs.length ≤ 50) (hly : ys.length ≤ 50) :
    callD T (n + 3) 8 [.sh (.int deed), a, b, .sh (.int sh)] = some (.sh (.bl true)) := by
  refine Wo.eq ?_
  have sa : SQ a xs := ha.elim .inl fun h => .inr (.inl h)
  have sb : SQ b ys := hb.elim .inl fun h => .inr (.inl h)
  have ea : SL a.use.argd xs := by rw [argd_use sa]; exact ha
  have eb : SL b.use.argd ys := by rw [argd_use sb]; exact hb
  have la : biD .list [a.use.argd] = some (.fr (LI xs)) := by rcases ha with rfl | rfl <;> rfl
  have lb : biD .list [b.use.argd] = some (.fr (LI ys)) := by rcases hb with rfl | rfl <;> rfl
  rw [r_q_holds, z_run _ _ _ rfl]
  show Wo (execsD (callD T (n + 2)) b_q_holds [some (.sh (.int deed)), some a, some b, some (.sh (.int sh)), none, none, none, none]) QT
  unfold b_q_holds
  walk_at "vc"
  refine Wo.mono (due_c (n + 1) hd ea eb hx hy (by omega) (by omega)) ?_
  rintro r ⟨vs, rfl, hv⟩
  walk_at "vc"
  refine ⟨_, la, ?_⟩
  walk_at "vc"
  refine ⟨_, lb, ?_⟩
  walk_at "vc"
  have t7 : ∀ c : Vl, FQ c xs → Wo (execsD (callD T (n + 2)) b_q_holds_7 [some (.sh (.int deed)), some a, some b, some (.sh (.int sh)), some (.fr (LI vs)), some c, some (.fr (LI ys)), none]) QT := fun c hc => by
    unfold b_q_holds_7
    walk_at "vc"
    refine if_of (fun _ => holds_6 n hd ha hb hc (.inr rfl) hx hy hlx hly hv) fun _ => ?_
    exact if_of (fun _ => holds_6 n hd ha hb hc (.inr rfl) hx hy hlx hly hv) fun _ => holds_6 n hd ha hb hc (.inl rfl) hx hy hlx hly hv
  refine if_of (fun _ => t7 _ (.inr rfl)) fun _ => ?_
  exact if_of (fun _ => t7 _ (.inr rfl)) fun _ => t7 _ (.inl rfl)
theorem main (ns : List Int) (hn : ns.length ≤ 63) : callD T 8 9 [.sh (.scr ns)] = some (.sh (.bl true)) := by
  refine Wo.eq ?_
  rw [r_law, z_run _ _ _ rfl]
  show Wo (execsD (callD T 7) b_law [some (.sh (.scr ns)), none, none, none, none]) QT
  unfold b_law
  walk_at "vc"
  refine Wo.mono (prof_c 4 (ns := ns) (p := 0) hn (by decide)) ?_
  rintro r ⟨xs, rfl, x1, x2⟩
  walk_at "vc"
  refine Wo.mono (prof_c 4 (ns := ns) (p := 1) hn (by decide)) ?_
  rintro r ⟨ys, rfl, y1, y2⟩
  walk_at "vc"
  refine Wo.mono (draw_c 6 (ns := ns) (p := 2) (s := 0) (z := 4) hn (by decide) (by decide) (by decide) (by decide)) ?_
  rintro r ⟨k, rfl, k0, k1⟩
  walk_at "vc"
  refine ⟨by decide, zl_for (fun i ε => ∃ (y4 : Option Vl), ε = [some (.sh (.scr ns)), some (.fr (LI xs)), some (.fr (LI ys)), some (.sh (.int k)), y4]) ⟨_, rfl⟩ ?_ ?_⟩
  · rintro i d ε hd ⟨y4, rfl⟩
    obtain ⟨rfl, hi⟩ := rangeD_get hd
    have hdd : (0 + (i : Int)) = 0 ∨ (0 + (i : Int)) = 1 := by omega
    generalize (0 + (i : Int)) = deed at *
    unfold b_law_L3
    walk_at "vc"
    refine ⟨_, holds_c 4 hdd (.inr rfl) (.inr rfl) x1 y1 (by omega) (by omega), ?_⟩
    walk_at "vc"
    unfold b_law_2
    walk_at "vc"
    refine Wo.mono (merge_c 5 hdd (.inl rfl) (.inl rfl) y1 x1 (by omega) (by omega)) ?_
    rintro r ⟨us, rfl, hu⟩
    walk_at "vc"
    refine Wo.mono (due_c 6 hdd (.inr rfl) (.inr rfl) x1 y1 (by omega) (by omega)) ?_
    rintro r ⟨us2, rfl, hu2⟩
    have := hu.swap.uniq hu2
    subst this
    have hul := hu.1
    walk_at "vc"
    refine ⟨_, fits_c 6 (xs := us) (.inl rfl) (.inl rfl) (by omega), ?_⟩
    walk_at "vc"
    exact ⟨_, rfl⟩
  · rintro ε ⟨y4, rfl⟩
    unfold b_law_1
    walk_at "vc"
end K18
namespace K18
open PySem L2 EF
theorem all_mk {l : PySem.W.OpenLaw} {w : World} {K : PySem.W.Frag} {h : Heap} {mg : Str → Option Value} {fa : Addr} (X : K.In h) (G : h.Ns mainGlobals mg) (hfa : mg "law" = some (.ref fa))
    {f0 : Addr} {od0 an0 : Option Addr} {sl0 : Array (Option Value)} {oc0 kV0 dc0 pm0 cd0 ct0 : Value} (a0 : PySem.W.nsIn K mainGlobals "sum_merge" = some (some (.ref f0))) (l0 : K.lookup f0 = some ⟨oc0, od0, .func (PySem.W.fnOf "sum_merge" "sum_merge" (defArgs (topS 1)) (defBody (topS 1)) (defScope (topS 1)) .none kV0 dc0 pm0 an0 cd0 ct0), sl0⟩) (c0 : PySem.W.codeIn K cd0 "sum_merge" = true) (k0 : PySem.W.keepIn K (.ref f0) = true)
    {f1 : Addr} {od1 an1 : Option Addr} {sl1 : Array (Option Value)} {oc1 kV1 dc1 pm1 cd1 ct1 : Value} (a1 : PySem.W.nsIn K mainGlobals "least_merge" = some (some (.ref f1))) (l1 : K.lookup f1 = some ⟨oc1, od1, .func (PySem.W.fnOf "least_merge" "least_merge" (defArgs (topS 2)) (defBody (topS 2)) (defScope (topS 2)) .none kV1 dc1 pm1 an1 cd1 ct1), sl1⟩) (c1 : PySem.W.codeIn K cd1 "least_merge" = true) (k1 : PySem.W.keepIn K (.ref f1) = true)
    {f2 : Addr} {od2 an2 : Option Addr} {sl2 : Array (Option Value)} {oc2 kV2 dc2 pm2 cd2 ct2 : Value} (a2 : PySem.W.nsIn K mainGlobals "_law_draw" = some (some (.ref f2))) (l2 : K.lookup f2 = some ⟨oc2, od2, .func (PySem.W.fnOf "_law_draw" "_law_draw" (defArgs (topS 4)) (defBody (topS 4)) (defScope (topS 4)) .none kV2 dc2 pm2 an2 cd2 ct2), sl2⟩) (c2 : PySem.W.codeIn K cd2 "_law_draw" = true) (k2 : PySem.W.keepIn K (.ref f2) = true)
    {f3 : Addr} {od3 an3 : Option Addr} {sl3 : Array (Option Value)} {oc3 kV3 dc3 pm3 cd3 ct3 : Value} (a3 : PySem.W.nsIn K mainGlobals "_law_big" = some (some (.ref f3))) (l3 : K.lookup f3 = some ⟨oc3, od3, .func (PySem.W.fnOf "_law_big" "_law_big" (defArgs (topS 5)) (defBody (topS 5)) (defScope (topS 5)) .none kV3 dc3 pm3 an3 cd3 ct3), sl3⟩) (c3 : PySem.W.codeIn K cd3 "_law_big" = true) (k3 : PySem.W.keepIn K (.ref f3) = true)
    {f4 : Addr} {od4 an4 : Option Addr} {sl4 : Array (Option Value)} {oc4 kV4 dc4 pm4 cd4 ct4 : Value} (a4 : PySem.W.nsIn K mainGlobals "_law_profile" = some (some (.ref f4))) (l4 : K.lookup f4 = some ⟨oc4, od4, .func (PySem.W.fnOf "_law_profile" "_law_profile" (defArgs (topS 6)) (defBody (topS 6)) (defScope (topS 6)) .none kV4 dc4 pm4 an4 cd4 ct4), sl4⟩) (c4 : PySem.W.codeIn K cd4 "_law_profile" = true) (k4 : PySem.W.keepIn K (.ref f4) = true)
    {f5 : Addr} {od5 an5 : Option Addr} {sl5 : Array (Option Value)} {oc5 kV5 dc5 pm5 cd5 ct5 : Value} (a5 : PySem.W.nsIn K mainGlobals "_law_due" = some (some (.ref f5))) (l5 : K.lookup f5 = some ⟨oc5, od5, .func (PySem.W.fnOf "_law_due" "_law_due" (defArgs (topS 7)) (defBody (topS 7)) (defScope (topS 7)) .none kV5 dc5 pm5 an5 cd5 ct5), sl5⟩) (c5 : PySem.W.codeIn K cd5 "_law_due" = true) (k5 : PySem.W.keepIn K (.ref f5) = true)
    {f6 : Addr} {od6 an6 : Option Addr} {sl6 : Array (Option Value)} {oc6 kV6 dc6 pm6 cd6 ct6 : Value} (a6 : PySem.W.nsIn K mainGlobals "_law_merge" = some (some (.ref f6))) (l6 : K.lookup f6 = some ⟨oc6, od6, .func (PySem.W.fnOf "_law_merge" "_law_merge" (defArgs (topS 8)) (defBody (topS 8)) (defScope (topS 8)) .none kV6 dc6 pm6 an6 cd6 ct6), sl6⟩) (c6 : PySem.W.codeIn K cd6 "_law_merge" = true) (k6 : PySem.W.keepIn K (.ref f6) = true)
    {f7 : Addr} {od7 an7 : Option Addr} {sl7 : Array (Option Value)} {oc7 kV7 dc7 pm7 cd7 ct7 : Value} (a7 : PySem.W.nsIn K mainGlobals "_law_fits" = some (some (.ref f7))) (l7 : K.lookup f7 = some ⟨oc7, od7, .func (PySem.W.fnOf "_law_fits" "_law_fits" (defArgs (topS 9)) (defBody (topS 9)) (defScope (topS 9)) .none kV7 dc7 pm7 an7 cd7 ct7), sl7⟩) (c7 : PySem.W.codeIn K cd7 "_law_fits" = true) (k7 : PySem.W.keepIn K (.ref f7) = true)
    {f8 : Addr} {od8 an8 : Option Addr} {sl8 : Array (Option Value)} {oc8 kV8 dc8 pm8 cd8 ct8 : Value} (a8 : PySem.W.nsIn K mainGlobals "_law_holds" = some (some (.ref f8))) (l8 : K.lookup f8 = some ⟨oc8, od8, .func (PySem.W.fnOf "_law_holds" "_law_holds" (defArgs (topS 10)) (defBody (topS 10)) (defScope (topS 10)) .none kV8 dc8 pm8 an8 cd8 ct8), sl8⟩) (c8 : PySem.W.codeIn K cd8 "_law_holds" = true) (k8 : PySem.W.keepIn K (.ref f8) = true)
    {f9 : Addr} {od9 an9 : Option Addr} {sl9 : Array (Option Value)} {oc9 kV9 dc9 pm9 cd9 ct9 : Value} (a9 : PySem.W.nsIn K mainGlobals "law" = some (some (.ref f9))) (l9 : K.lookup f9 = some ⟨oc9, od9, .func (PySem.W.fnOf "law" "law" (defArgs (topS 11)) (defBody (topS 11)) (defScope (topS 11)) .none kV9 dc9 pm9 an9 cd9 ct9), sl9⟩) (c9 : PySem.W.codeIn K cd9 "law" = true) (k9 : PySem.W.keepIn K (.ref f9) = true)
    (z0 : PySem.W.nsIn K mainGlobals "len" = some none)
    (z1 : PySem.W.nsIn K mainGlobals "int" = some none)
    (z2 : PySem.W.nsIn K mainGlobals "list" = some none)
    (z3 : PySem.W.nsIn K mainGlobals "tuple" = some none)
    (z4 : PySem.W.nsIn K mainGlobals "max" = some none)
    (z5 : PySem.W.nsIn K mainGlobals "min" = some none)
    (z6 : PySem.W.nsIn K mainGlobals "isinstance" = some none)
    (z7 : PySem.W.nsIn K mainGlobals "range" = some none)
    (z8 : PySem.W.nsIn K mainGlobals "bool" = some none)
    : ∃ fd : FuncData, (∀ (s : Shared) (v : Value), BindsTo s fd ⟨[v], []⟩ [("_law_script", v)]) ∧ ∀ base : Heap, K.In base → base.Ns mainGlobals mg → FnOk l.prog w K mg base CX0 8 fa fd ["_law_script"] (spD K (callD (tab.map Ent.df) 8 9) 1) := by
  have e := hfa.symm.trans (PySem.W.mg_of X G a9)
  cases e
  have F0 := fun_mk (st := topS 1) l0 c0 k0
  have b0 := F0.binds (ps := ps_sum_merge) fun _ _ _ _ _ _ us hl => match us, hl with | [_, _], _ => rfl
  have A0 : EntAt K mg e_sum_merge := ⟨⟨_, _, PySem.W.mg_of X G a0, F0, b0⟩⟩
  have F1 := fun_mk (st := topS 2) l1 c1 k1
  have b1 := F1.binds (ps := ps_least_merge) fun _ _ _ _ _ _ us hl => match us, hl with | [_, _], _ => rfl
  have A1 : EntAt K mg e_least_merge := ⟨⟨_, _, PySem.W.mg_of X G a1, F1, b1⟩⟩
  have F2 := fun_mk (st := topS 4) l2 c2 k2
  have b2 := F2.binds (ps := ps_q_draw) fun _ _ _ _ _ _ us hl => match us, hl with | [_, _, _, _], _ => rfl
  have A2 : EntAt K mg e_q_draw := ⟨⟨_, _, PySem.W.mg_of X G a2, F2, b2⟩⟩
  have F3 := fun_mk (st := topS 5) l3 c3 k3
  have b3 := F3.binds (ps := ps_q_big) fun _ _ _ _ _ _ us hl => match us, hl with | [_, _, _, _], _ => rfl
  have A3 : EntAt K mg e_q_big := ⟨⟨_, _, PySem.W.mg_of X G a3, F3, b3⟩⟩
  have F4 := fun_mk (st := topS 6) l4 c4 k4
  have b4 := F4.binds (ps := ps_q_profile) fun _ _ _ _ _ _ us hl => match us, hl with | [_, _], _ => rfl
  have A4 : EntAt K mg e_q_profile := ⟨⟨_, _, PySem.W.mg_of X G a4, F4, b4⟩⟩
  have F5 := fun_mk (st := topS 7) l5 c5 k5
  have b5 := F5.binds (ps := ps_q_due) fun _ _ _ _ _ _ us hl => match us, hl with | [_, _, _], _ => rfl
  have A5 : EntAt K mg e_q_due := ⟨⟨_, _, PySem.W.mg_of X G a5, F5, b5⟩⟩
  have F6 := fun_mk (st := topS 8) l6 c6 k6
  have b6 := F6.binds (ps := ps_q_merge) fun _ _ _ _ _ _ us hl => match us, hl with | [_, _, _], _ => rfl
  have A6 : EntAt K mg e_q_merge := ⟨⟨_, _, PySem.W.mg_of X G a6, F6, b6⟩⟩
  have F7 := fun_mk (st := topS 9) l7 c7 k7
  have b7 := F7.binds (ps := ps_q_fits) fun _ _ _ _ _ _ us hl => match us, hl with | [_, _], _ => rfl
  have A7 : EntAt K mg e_q_fits := ⟨⟨_, _, PySem.W.mg_of X G a7, F7, b7⟩⟩
  have F8 := fun_mk (st := topS 10) l8 c8 k8
  have b8 := F8.binds (ps := ps_q_holds) fun _ _ _ _ _ _ us hl => match us, hl with | [_, _, _, _], _ => rfl
  have A8 : EntAt K mg e_q_holds := ⟨⟨_, _, PySem.W.mg_of X G a8, F8, b8⟩⟩
  have F9 := fun_mk (st := topS 11) l9 c9 k9
  have b9 := F9.binds (ps := ps_law) fun _ _ _ _ _ _ us hl => match us, hl with | [_], _ => rfl
  have A9 : EntAt K mg e_law := ⟨⟨_, _, PySem.W.mg_of X G a9, F9, b9⟩⟩
  have hat : ∀ e ∈ tab, EntAt K mg e := by
    intro e he
    simp only [tab, List.mem_cons, List.not_mem_nil, or_false] at he
    rcases he with rfl | rfl | rfl | rfl | rfl | rfl | rfl | rfl | rfl | rfl
    · exact A0
    · exact A1
    · exact A2
    · exact A3
    · exact A4
    · exact A5
    · exact A6
    · exact A7
    · exact A8
    · exact A9
  have hok : ∀ e ∈ tab, EntOk mo e := by
    intro e he
    simp only [tab, List.mem_cons, List.not_mem_nil, or_false] at he
    rcases he with rfl | rfl | rfl | rfl | rfl | rfl | rfl | rfl | rfl | rfl
    · exact c_sum_merge
    · exact c_least_merge
    · exact c_q_draw
    · exact c_q_big
    · exact c_q_profile
    · exact c_q_due
    · exact c_q_merge
    · exact c_q_fits
    · exact c_q_holds
    · exact c_law
  have hb : ∀ x : Str, mo.bn.contains x = true → mg x = none := by
    intro x hx
    have hx : x ∈ mo.bn := by simpa using hx
    simp only [mo, List.mem_cons, List.not_mem_nil, or_false] at hx
    rcases hx with rfl | rfl | rfl | rfl | rfl | rfl | rfl | rfl | rfl
    · exact PySem.W.mg_none_of X G z0
    · exact PySem.W.mg_none_of X G z1
    · exact PySem.W.mg_none_of X G z2
    · exact PySem.W.mg_none_of X G z3
    · exact PySem.W.mg_none_of X G z4
    · exact PySem.W.mg_none_of X G z5
    · exact PySem.W.mg_none_of X G z6
    · exact PySem.W.mg_none_of X G z7
    · exact PySem.W.mg_none_of X G z8
  refine ⟨PySem.W.fnOf "law" "law" (defArgs (topS 11)) (defBody (topS 11)) (defScope (topS 11)) .none kV9 dc9 pm9 an9 cd9 ct9, fun s v => .of_eq rfl, fun base _ _ => ?_⟩
  exact tab_at (P := l.prog) (w := w) (base := base) (M := mo) (tab := tab) rfl hok hat hb 7 9 e_law rfl F9
end K18
open PySem PySem.W PyProof.Rows
set_option maxHeartbeats 0 in
theorem PySem.Challenge.cw_everyfuture_k18_merges_holds : PySem.Challenge.rw_everyfuture_k18_merges.Holds := by
  w_on; o_law; k_head; (case hw => w_witness2)
  k_fill
  refine L2.walk_ofK (l := PySem.Challenge.rw_everyfuture_k18_merges) (n := 63) (k := 8) (x := "_law_script") (CX := L2.CX0) (sp := fun K => EF.spD K (EF.callD (K18.tab.map EF.Ent.df) 8 9) 1) rfl (by decide) rfl ⟨rfl, by decide, by decide⟩ (fun w h Y => PySem.W.kIn_of Y) ?F (fun K H a ns hl _ hS => EF.law_sp K18.main K H a ns hl hS) (fun _ _ _ _ h => h)
  case F =>
    intro w mg fa h KX G hmg
    refine' K18.all_mk KX G hmg ?a0 ?l0 ?c0 ?k0 ?a1 ?l1 ?c1 ?k1 ?a2 ?l2 ?c2 ?k2 ?a3 ?l3 ?c3 ?k3 ?a4 ?l4 ?c4 ?k4 ?a5 ?l5 ?c5 ?k5 ?a6 ?l6 ?c6 ?k6 ?a7 ?l7 ?c7 ?k7 ?a8 ?l8 ?c8 ?k8 ?a9 ?l9 ?c9 ?k9 ?z0 ?z1 ?z2 ?z3 ?z4 ?z5 ?z6 ?z7 ?z8
    (case a0 => k_is); (case l0 => k_is); (case c0 => k_is); (case k0 => k_is); (case a1 => k_is); (case l1 => k_is); (case c1 => k_is); (case k1 => k_is); (case a2 => k_is); (case l2 => k_is); (case c2 => k_is); (case k2 => k_is); (case a3 => k_is); (case l3 => k_is); (case c3 => k_is); (case k3 => k_is); (case a4 => k_is); (case l4 => k_is); (case c4 => k_is); (case k4 => k_is); (case a5 => k_is); (case l5 => k_is); (case c5 => k_is); (case k5 => k_is); (case a6 => k_is); (case l6 => k_is); (case c6 => k_is); (case k6 => k_is); (case a7 => k_is); (case l7 => k_is); (case c7 => k_is); (case k7 => k_is); (case a8 => k_is); (case l8 => k_is); (case c8 => k_is); (case k8 => k_is); (case a9 => k_is); (case l9 => k_is); (case c9 => k_is); (case k9 => k_is); (case z0 => k_is); (case z1 => k_is); (case z2 => k_is); (case z3 => k_is); (case z4 => k_is); (case z5 => k_is); (case z6 => k_is); (case z7 => k_is); (case z8 => k_is)
