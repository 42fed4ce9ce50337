import PyProof.Rows.All
import Wide.All
import OpenK.AllK
import Wide.FinOn
import HandS.ForMost
import HandS.ForExc
import HandS.Evl
import HandS.IsInst
import HandS.Wide
import HandS.SortRule
import HandS.Style
import HandS.More
import HandS.Conv
import HandS.TupAny
import HandS.DictEq
import HandS.Dict
import HandS.Deep
import HandS.Codes
import HandS.SortInts
import HandS.Gcd
import HandS.RaiseMore
import HandS.WordsDict
import KE.GoesMore
import KE.GoesEnum
import HandS.SetBool
import HandS.Strs
import HandS.HotCalls
import KE.KCallOwn
import HandS.Iter
import HandS.OwnIter
import HandS.IterVal
import PyProof.WalksMore
import PyProof.TupleIter
import HandS.ListItems
import HandS.DictComp
import HandS.Text
import HandS.ExcInit
import HandS.Nested
import KE.KExcSuper
import HandS.ExcField
import HandS.ExcIs
import KE.KExcIs
import PySem.Challenge.RW_everyfuture_k03_gauges_and_readings
set_option Elab.async false
set_option linter.all false
set_option maxRecDepth 100000
set_option maxHeartbeats 4000000
namespace EG
open PySem PySem.Spec PyProof.Rows L2
abbrev Ex := Evl.Ex

/-! ### data, and how the heap bears it -/
/-- a dict's keys: numbers and texts, or tuples of them -/
inductive Ky where
  | k (ks : List Key) | t (ks : List (List Key))
def Ky.length : Ky → Nat
  | .k ks => ks.length
  | .t ks => ks.length
def Ky.ho : Ky → List V → HO
  | .k ks, vs => .dK (ks.zip vs)
  | .t ks, vs => .dT (ks.zip vs)
inductive D where
  | non | bl (b : Bool) | int (i : Int) | str (x : Str)
  | lst (xs : List D) | tup (xs : List D) | scr (ns : List Int)
  | obj (c : Nat) (ns : List Str) (xs : List D) | dct (ks : Ky) (xs : List D)
/-- the written part, and where the classes stand -/
structure Gt where
  K : PySem.W.Frag
  cl : Nat → Addr
mutual
def Rep (G : Gt) (H : Hp) : D → V → Prop
  | .non, v => v = .non
  | .bl b, v => v = .bl b
  | .int i, v => v = .int i
  | .str x, v => v = .str x
  | .lst xs, v => ∃ a vs, v = .ref a ∧ H a = some (.lst vs) ∧ RepL G H xs vs
  | .tup xs, v => ∃ a vs, v = .ref a ∧ H a = some (.tup vs) ∧ RepL G H xs vs
  | .scr ns, v => ∃ a, v = .ref a ∧ SqL G.K H a (ns.map V.int)
  | .obj c ns xs, v => ∃ a dx vs, v = .ref a ∧ H a = some (.ins (G.cl c) dx (ns.zip vs)) ∧ ns.length = xs.length ∧ RepL G H xs vs
  | .dct ks xs, v => ∃ a vs, v = .ref a ∧ H a = some (ks.ho vs) ∧ ks.length = xs.length ∧ RepL G H xs vs
def RepL (G : Gt) (H : Hp) : List D → List V → Prop
  | [], vs => vs = []
  | d :: ds, vs => ∃ v vs', vs = v :: vs' ∧ Rep G H d v ∧ RepL G H ds vs'
end
/-! no list or dict within -/
mutual
def flatD : D → Bool
  | .lst _ => false
  | .dct _ _ => false
  | .obj _ _ _ => false
  | .scr _ => false
  | .tup xs => flatL xs
  | _ => true
def flatL : List D → Bool
  | [] => true
  | d :: ds => flatD d && flatL ds
end
/-! data whose cells down to depth n stand in H, the others in Hi -/
mutual
def Bor (G : Gt) (Hi H : Hp) : Nat → D → V → Prop
  | 0, d, v => Rep G Hi d v
  | n + 1, .lst xs, v => ∃ a vs, v = .ref a ∧ H a = some (.lst vs) ∧ Bors G Hi H n xs vs
  | n + 1, .tup xs, v => if flatL xs = true then Rep G Hi (.tup xs) v else ∃ a vs, v = .ref a ∧ H a = some (.tup vs) ∧ Bors G Hi H n xs vs
  | n + 1, .obj c ns xs, v => ∃ a dx vs, v = .ref a ∧ H a = some (.ins (G.cl c) dx (ns.zip vs)) ∧ ns.length = xs.length ∧ Bors G Hi H n xs vs
  | n + 1, .dct ks xs, v => ∃ a vs, v = .ref a ∧ H a = some (ks.ho vs) ∧ ks.length = xs.length ∧ Bors G Hi H n xs vs
  | _ + 1, .non, v => v = .non
  | _ + 1, .bl b, v => v = .bl b
  | _ + 1, .int i, v => v = .int i
  | _ + 1, .str x, v => v = .str x
  | _ + 1, .scr ns, v => ∃ a, v = .ref a ∧ SqL G.K H a (ns.map V.int)
def Bors (G : Gt) (Hi H : Hp) : Nat → List D → List V → Prop
  | _, [], vs => vs = []
  | n, d :: ds, vs => ∃ v vs', vs = v :: vs' ∧ Bor G Hi H n d v ∧ Bors G Hi H n ds vs'
end
/-! data whose cells down to depth n are one's own: fp are their addresses -/
mutual
def Own (G : Gt) (Hi H : Hp) : Nat → D → V → List Addr → Prop
  | 0, d, v, fp => fp = [] ∧ Rep G Hi d v
  | n + 1, .lst xs, v, fp => ∃ p vs fps, v = .ref p ∧ H p = some (.lst vs) ∧ fp = p :: fps ∧ Owns G Hi H n xs vs fps
  | n + 1, .dct ks xs, v, fp => ∃ p vs fps, v = .ref p ∧ H p = some (ks.ho vs) ∧ ks.length = xs.length ∧ fp = p :: fps ∧ Owns G Hi H n xs vs fps
  | n + 1, .tup xs, v, fp => if flatL xs = true then fp = [] ∧ Rep G Hi (.tup xs) v else ∃ p vs fps, v = .ref p ∧ H p = some (.tup vs) ∧ fp = p :: fps ∧ Owns G Hi H n xs vs fps
  | _ + 1, .obj c ns xs, v, fp => fp = [] ∧ Rep G Hi (.obj c ns xs) v
  | _ + 1, .non, v, fp => fp = [] ∧ v = .non
  | _ + 1, .bl b, v, fp => fp = [] ∧ v = .bl b
  | _ + 1, .int i, v, fp => fp = [] ∧ v = .int i
  | _ + 1, .str x, v, fp => fp = [] ∧ v = .str x
  | _ + 1, .scr ns, v, fp => fp = [] ∧ Rep G Hi (.scr ns) v
def Owns (G : Gt) (Hi H : Hp) : Nat → List D → List V → List Addr → Prop
  | _, [], vs, fp => vs = [] ∧ fp = []
  | n, d :: ds, vs, fp => ∃ v vs' f1 f2, vs = v :: vs' ∧ fp = f1 ++ f2 ∧ Own G Hi H n d v f1 ∧ Owns G Hi H n ds vs' f2
end

mutual
theorem Rep.mono {G : Gt} {H H' : Hp} (e : Ex H H') : ∀ (d : D) (v : V), Rep G H d v → Rep G H' d v
  | .non, v, h => h
  | .bl b, v, h => h
  | .int i, v, h => h
  | .str x, v, h => h
  | .lst xs, v, h => by
    obtain ⟨a, vs, h1, h2, h3⟩ := h
    exact ⟨a, vs, h1, e _ _ h2, RepL.mono e xs vs h3⟩
  | .tup xs, v, h => by
    obtain ⟨a, vs, h1, h2, h3⟩ := h
    exact ⟨a, vs, h1, e _ _ h2, RepL.mono e xs vs h3⟩
  | .scr ns, v, h => by
    obtain ⟨a, h1, h2⟩ := h
    exact ⟨a, h1, Evl.ex_l e h2⟩
  | .obj c ns xs, v, h => by
    obtain ⟨a, dx, vs, h1, h2, hl, h3⟩ := h
    exact ⟨a, dx, vs, h1, e _ _ h2, hl, RepL.mono e xs vs h3⟩
  | .dct ks xs, v, h => by
    obtain ⟨a, vs, h1, h2, hl, h3⟩ := h
    exact ⟨a, vs, h1, e _ _ h2, hl, RepL.mono e xs vs h3⟩
theorem RepL.mono {G : Gt} {H H' : Hp} (e : Ex H H') : ∀ (ds : List D) (vs : List V), RepL G H ds vs → RepL G H' ds vs
  | [], vs, h => h
  | d :: ds, vs, h => by
    obtain ⟨v, vs', h1, h2, h3⟩ := h
    exact ⟨v, vs', h1, Rep.mono e d v h2, RepL.mono e ds vs' h3⟩
end
mutual
theorem Bor.mono {G : Gt} {Hi Hi' H H' : Hp} (ei : Ex Hi Hi') (e : Ex H H') : ∀ (n : Nat) (d : D) (v : V), Bor G Hi H n d v → Bor G Hi' H' n d v
  | 0, d, v, h => by
    unfold Bor at h ⊢
    exact Rep.mono ei d v h
  | n + 1, .lst xs, v, h => by
    obtain ⟨a, vs, h1, h2, h3⟩ := h
    exact ⟨a, vs, h1, e _ _ h2, Bors.mono ei e n xs vs h3⟩
  | n + 1, .tup xs, v, h => by
    unfold Bor at h ⊢
    split at h
    · rename_i hf
      rw [if_pos hf]
      exact Rep.mono ei _ v h
    · rename_i hf
      rw [if_neg hf]
      obtain ⟨a, vs, h1, h2, h3⟩ := h
      exact ⟨a, vs, h1, e _ _ h2, Bors.mono ei e n xs vs h3⟩
  | n + 1, .obj c ns xs, v, h => by
    obtain ⟨a, dx, vs, h1, h2, hl, h3⟩ := h
    exact ⟨a, dx, vs, h1, e _ _ h2, hl, Bors.mono ei e n xs vs h3⟩
  | n + 1, .dct ks xs, v, h => by
    obtain ⟨a, vs, h1, h2, hl, h3⟩ := h
    exact ⟨a, vs, h1, e _ _ h2, hl, Bors.mono ei e n xs vs h3⟩
  | n + 1, .non, v, h => h
  | n + 1, .bl b, v, h => h
  | n + 1, .int i, v, h => h
  | n + 1, .str x, v, h => h
  | n + 1, .scr ns, v, h => by
    obtain ⟨a, h1, h2⟩ := h
    exact ⟨a, h1, Evl.ex_l e h2⟩
theorem Bors.mono {G : Gt} {Hi Hi' H H' : Hp} (ei : Ex Hi Hi') (e : Ex H H') : ∀ (n : Nat) (ds : List D) (vs : List V), Bors G Hi H n ds vs → Bors G Hi' H' n ds vs
  | n, [], vs, h => h
  | n, d :: ds, vs, h => by
    obtain ⟨v, vs', h1, h2, h3⟩ := h
    exact ⟨v, vs', h1, Bor.mono ei e n d v h2, Bors.mono ei e n ds vs' h3⟩
end
mutual
theorem Bor.rep {G : Gt} {Hi H : Hp} (e : Ex Hi H) : ∀ (n : Nat) (d : D) (v : V), Bor G Hi H n d v → Rep G H d v
  | 0, d, v, h => by
    unfold Bor at h
    exact Rep.mono e d v h
  | n + 1, .lst xs, v, h => by
    obtain ⟨a, vs, h1, h2, h3⟩ := h
    exact ⟨a, vs, h1, h2, Bors.rep e n xs vs h3⟩
  | n + 1, .tup xs, v, h => by
    unfold Bor at h
    split at h
    · exact Rep.mono e _ v h
    · obtain ⟨a, vs, h1, h2, h3⟩ := h
      exact ⟨a, vs, h1, h2, Bors.rep e n xs vs h3⟩
  | n + 1, .obj c ns xs, v, h => by
    obtain ⟨a, dx, vs, h1, h2, hl, h3⟩ := h
    exact ⟨a, dx, vs, h1, h2, hl, Bors.rep e n xs vs h3⟩
  | n + 1, .dct ks xs, v, h => by
    obtain ⟨a, vs, h1, h2, hl, h3⟩ := h
    exact ⟨a, vs, h1, h2, hl, Bors.rep e n xs vs h3⟩
  | n + 1, .non, v, h => h
  | n + 1, .bl b, v, h => h
  | n + 1, .int i, v, h => h
  | n + 1, .str x, v, h => h
  | n + 1, .scr ns, v, h => h
theorem Bors.rep {G : Gt} {Hi H : Hp} (e : Ex Hi H) : ∀ (n : Nat) (ds : List D) (vs : List V), Bors G Hi H n ds vs → RepL G H ds vs
  | n, [], vs, h => h
  | n, d :: ds, vs, h => by
    obtain ⟨v, vs', h1, h2, h3⟩ := h
    exact ⟨v, vs', h1, Bor.rep e n d v h2, Bors.rep e n ds vs' h3⟩
end
mutual
/-- shared data are borrowed data -/
theorem Bor.of {G : Gt} {Hi H : Hp} (e : Ex Hi H) : ∀ (n : Nat) (d : D) (v : V), Rep G Hi d v → Bor G Hi H n d v
  | 0, d, v, h => by unfold Bor; exact h
  | n + 1, .lst xs, v, h => by
    obtain ⟨a, vs, h1, h2, h3⟩ := h
    exact ⟨a, vs, h1, e _ _ h2, Bors.of e n xs vs h3⟩
  | n + 1, .tup xs, v, h => by
    unfold Bor
    split
    · exact h
    · obtain ⟨a, vs, h1, h2, h3⟩ := h
      exact ⟨a, vs, h1, e _ _ h2, Bors.of e n xs vs h3⟩
  | n + 1, .obj c ns xs, v, h => by
    obtain ⟨a, dx, vs, h1, h2, hl, h3⟩ := h
    exact ⟨a, dx, vs, h1, e _ _ h2, hl, Bors.of e n xs vs h3⟩
  | n + 1, .dct ks xs, v, h => by
    obtain ⟨a, vs, h1, h2, hl, h3⟩ := h
    exact ⟨a, vs, h1, e _ _ h2, hl, Bors.of e n xs vs h3⟩
  | n + 1, .non, v, h => h
  | n + 1, .bl b, v, h => h
  | n + 1, .int i, v, h => h
  | n + 1, .str x, v, h => h
  | n + 1, .scr ns, v, h => by
    obtain ⟨a, h1, h2⟩ := h
    exact ⟨a, h1, Evl.ex_l e h2⟩
theorem Bors.of {G : Gt} {Hi H : Hp} (e : Ex Hi H) : ∀ (n : Nat) (ds : List D) (vs : List V), RepL G Hi ds vs → Bors G Hi H n ds vs
  | n, [], vs, h => h
  | n, d :: ds, vs, h => by
    obtain ⟨v, vs', h1, h2, h3⟩ := h
    exact ⟨v, vs', h1, Bor.of e n d v h2, Bors.of e n ds vs' h3⟩
end
mutual
theorem Own.bor {G : Gt} {Hi H : Hp} (e : Ex Hi H) : ∀ (n : Nat) (d : D) (v : V) (fp : List Addr), Own G Hi H n d v fp → Bor G Hi H n d v
  | 0, d, v, fp, h => by unfold Own at h; unfold Bor; exact h.2
  | n + 1, .lst xs, v, fp, h => by
    obtain ⟨p, vs, fps, h1, h2, _, h3⟩ := h
    exact ⟨p, vs, h1, h2, Owns.bor e n xs vs fps h3⟩
  | n + 1, .tup xs, v, fp, h => by
    unfold Own at h
    unfold Bor
    split at h
    · rename_i hf
      rw [if_pos hf]; exact h.2
    · rename_i hf
      rw [if_neg hf]
      obtain ⟨p, vs, fps, h1, h2, _, h3⟩ := h
      exact ⟨p, vs, h1, h2, Owns.bor e n xs vs fps h3⟩
  | n + 1, .obj c ns xs, v, fp, h => Bor.of e (n + 1) _ v h.2
  | n + 1, .dct ks xs, v, fp, h => by
    obtain ⟨p, vs, fps, h1, h2, hl, _, h3⟩ := h
    exact ⟨p, vs, h1, h2, hl, Owns.bor e n xs vs fps h3⟩
  | n + 1, .non, v, fp, h => h.2
  | n + 1, .bl b, v, fp, h => h.2
  | n + 1, .int i, v, fp, h => h.2
  | n + 1, .str x, v, fp, h => h.2
  | n + 1, .scr ns, v, fp, h => Bor.of e (n + 1) _ v h.2
theorem Owns.bor {G : Gt} {Hi H : Hp} (e : Ex Hi H) : ∀ (n : Nat) (ds : List D) (vs : List V) (fp : List Addr), Owns G Hi H n ds vs fp → Bors G Hi H n ds vs
  | n, [], vs, fp, h => h.1
  | n, d :: ds, vs, fp, h => by
    obtain ⟨v, vs', f1, f2, h1, _, h2, h3⟩ := h
    exact ⟨v, vs', h1, Own.bor e n d v f1 h2, Owns.bor e n ds vs' f2 h3⟩
end
mutual
/-- what is one's own stays, where its cells stay -/
theorem Own.keep {G : Gt} {Hi Hi' H H' : Hp} (ei : Ex Hi Hi') : ∀ (n : Nat) (d : D) (v : V) (fp : List Addr), (∀ p ∈ fp, H' p = H p) → Own G Hi H n d v fp → Own G Hi' H' n d v fp
  | 0, d, v, fp, e, h => by unfold Own at h ⊢; exact ⟨h.1, Rep.mono ei d v h.2⟩
  | n + 1, .lst xs, v, fp, e, h => by
    obtain ⟨p, vs, fps, h1, h2, rfl, h3⟩ := h
    exact ⟨p, vs, fps, h1, by rw [e p List.mem_cons_self]; exact h2, rfl, Owns.keep ei n xs vs fps (fun q hq => e q (List.mem_cons_of_mem _ hq)) h3⟩
  | n + 1, .tup xs, v, fp, e, h => by
    unfold Own at h ⊢
    split at h
    · rename_i hf
      rw [if_pos hf]; exact ⟨h.1, Rep.mono ei _ v h.2⟩
    · rename_i hf
      rw [if_neg hf]
      obtain ⟨p, vs, fps, h1, h2, rfl, h3⟩ := h
      exact ⟨p, vs, fps, h1, by rw [e p List.mem_cons_self]; exact h2, rfl, Owns.keep ei n xs vs fps (fun q hq => e q (List.mem_cons_of_mem _ hq)) h3⟩
  | n + 1, .obj c ns xs, v, fp, e, h => ⟨h.1, Rep.mono ei _ v h.2⟩
  | n + 1, .dct ks xs, v, fp, e, h => by
    obtain ⟨p, vs, fps, h1, h2, hl, rfl, h3⟩ := h
    exact ⟨p, vs, fps, h1, by rw [e p List.mem_cons_self]; exact h2, hl, rfl, Owns.keep ei n xs vs fps (fun q hq => e q (List.mem_cons_of_mem _ hq)) h3⟩
  | n + 1, .non, v, fp, e, h => h
  | n + 1, .bl b, v, fp, e, h => h
  | n + 1, .int i, v, fp, e, h => h
  | n + 1, .str x, v, fp, e, h => h
  | n + 1, .scr ns, v, fp, e, h => ⟨h.1, Rep.mono ei _ v h.2⟩
theorem Owns.keep {G : Gt} {Hi Hi' H H' : Hp} (ei : Ex Hi Hi') : ∀ (n : Nat) (ds : List D) (vs : List V) (fp : List Addr), (∀ p ∈ fp, H' p = H p) → Owns G Hi H n ds vs fp → Owns G Hi' H' n ds vs fp
  | n, [], vs, fp, e, h => h
  | n, d :: ds, vs, fp, e, h => by
    obtain ⟨v, vs', f1, f2, h1, rfl, h2, h3⟩ := h
    exact ⟨v, vs', f1, f2, h1, rfl, Own.keep ei n d v f1 (fun q hq => e q (List.mem_append_left _ hq)) h2, Owns.keep ei n ds vs' f2 (fun q hq => e q (List.mem_append_right _ hq)) h3⟩
end
mutual
/-- each own cell stands in the heap -/
theorem Own.mem {G : Gt} {Hi H : Hp} : ∀ (n : Nat) (d : D) (v : V) (fp : List Addr), Own G Hi H n d v fp → ∀ p ∈ fp, H p ≠ none
  | 0, d, v, fp, h, p, hp => by unfold Own at h; rw [h.1] at hp; cases hp
  | n + 1, .lst xs, v, fp, h, p, hp => by
    obtain ⟨q, vs, fps, h1, h2, rfl, h3⟩ := h
    rcases List.mem_cons.mp hp with rfl | hp
    · rw [h2]; exact fun z => nomatch z
    · exact Owns.mem n xs vs fps h3 p hp
  | n + 1, .tup xs, v, fp, h, p, hp => by
    unfold Own at h
    split at h
    · rw [h.1] at hp; cases hp
    · obtain ⟨q, vs, fps, h1, h2, rfl, h3⟩ := h
      rcases List.mem_cons.mp hp with rfl | hp
      · rw [h2]; exact fun z => nomatch z
      · exact Owns.mem n xs vs fps h3 p hp
  | n + 1, .obj c ns xs, v, fp, h, p, hp => by rw [h.1] at hp; cases hp
  | n + 1, .dct ks xs, v, fp, h, p, hp => by
    obtain ⟨q, vs, fps, h1, h2, hl, rfl, h3⟩ := h
    rcases List.mem_cons.mp hp with rfl | hp
    · rw [h2]; exact fun z => nomatch z
    · exact Owns.mem n xs vs fps h3 p hp
  | n + 1, .non, v, fp, h, p, hp => by rw [h.1] at hp; cases hp
  | n + 1, .bl b, v, fp, h, p, hp => by rw [h.1] at hp; cases hp
  | n + 1, .int i, v, fp, h, p, hp => by rw [h.1] at hp; cases hp
  | n + 1, .str x, v, fp, h, p, hp => by rw [h.1] at hp; cases hp
  | n + 1, .scr ns, v, fp, h, p, hp => by rw [h.1] at hp; cases hp
theorem Owns.mem {G : Gt} {Hi H : Hp} : ∀ (n : Nat) (ds : List D) (vs : List V) (fp : List Addr), Owns G Hi H n ds vs fp → ∀ p ∈ fp, H p ≠ none
  | n, [], vs, fp, h, p, hp => by rw [h.2] at hp; cases hp
  | n, d :: ds, vs, fp, h, p, hp => by
    obtain ⟨v, vs', f1, f2, h1, rfl, h2, h3⟩ := h
    rcases List.mem_append.mp hp with hp | hp
    · exact Own.mem n d v f1 h2 p hp
    · exact Owns.mem n ds vs' f2 h3 p hp
end
/-- Hi with the cells fp of H -/
noncomputable def shareH (Hi H : Hp) (fp : List Addr) : Hp := fun a => open Classical in if a ∈ fp then H a else Hi a
theorem shareH_in {Hi H : Hp} {fp : List Addr} {p : Addr} (h : p ∈ fp) : shareH Hi H fp p = H p := by unfold shareH; rw [if_pos h]
theorem shareH_out {Hi H : Hp} {fp : List Addr} {p : Addr} (h : p ∉ fp) : shareH Hi H fp p = Hi p := by unfold shareH; rw [if_neg h]
theorem shareH_ex {Hi H : Hp} {fp : List Addr} (h : ∀ p ∈ fp, Hi p = none) : Ex Hi (shareH Hi H fp) := fun a o e => by
  by_cases z : a ∈ fp
  · rw [h a z] at e; cases e
  · rw [shareH_out z]; exact e
mutual
/-- what was one's own is shared -/
theorem Own.share {G : Gt} {Hi H Hs : Hp} (ei : Ex Hi Hs) : ∀ (n : Nat) (d : D) (v : V) (fp : List Addr), (∀ p ∈ fp, Hs p = H p) → Own G Hi H n d v fp → Rep G Hs d v
  | 0, d, v, fp, e, h => by unfold Own at h; exact Rep.mono ei d v h.2
  | n + 1, .lst xs, v, fp, e, h => by
    obtain ⟨p, vs, fps, h1, h2, rfl, h3⟩ := h
    exact ⟨p, vs, h1, by rw [e p List.mem_cons_self]; exact h2, Owns.share ei n xs vs fps (fun q hq => e q (List.mem_cons_of_mem _ hq)) h3⟩
  | n + 1, .tup xs, v, fp, e, h => by
    unfold Own at h
    split at h
    · exact Rep.mono ei _ v h.2
    · obtain ⟨p, vs, fps, h1, h2, rfl, h3⟩ := h
      exact ⟨p, vs, h1, by rw [e p List.mem_cons_self]; exact h2, Owns.share ei n xs vs fps (fun q hq => e q (List.mem_cons_of_mem _ hq)) h3⟩
  | n + 1, .obj c ns xs, v, fp, e, h => Rep.mono ei _ v h.2
  | n + 1, .dct ks xs, v, fp, e, h => by
    obtain ⟨p, vs, fps, h1, h2, hl, rfl, h3⟩ := h
    exact ⟨p, vs, h1, by rw [e p List.mem_cons_self]; exact h2, hl, Owns.share ei n xs vs fps (fun q hq => e q (List.mem_cons_of_mem _ hq)) h3⟩
  | n + 1, .non, v, fp, e, h => h.2
  | n + 1, .bl b, v, fp, e, h => h.2
  | n + 1, .int i, v, fp, e, h => h.2
  | n + 1, .str x, v, fp, e, h => h.2
  | n + 1, .scr ns, v, fp, e, h => Rep.mono ei _ v h.2
theorem Owns.share {G : Gt} {Hi H Hs : Hp} (ei : Ex Hi Hs) : ∀ (n : Nat) (ds : List D) (vs : List V) (fp : List Addr), (∀ p ∈ fp, Hs p = H p) → Owns G Hi H n ds vs fp → RepL G Hs ds vs
  | n, [], vs, fp, e, h => h.1
  | n, d :: ds, vs, fp, e, h => by
    obtain ⟨v, vs', f1, f2, h1, rfl, h2, h3⟩ := h
    exact ⟨v, vs', h1, Own.share ei n d v f1 (fun q hq => e q (List.mem_append_left _ hq)) h2, Owns.share ei n ds vs' f2 (fun q hq => e q (List.mem_append_right _ hq)) h3⟩
end
/-- what is flat is shared -/
theorem Bor.flat {G : Gt} {Hi H : Hp} {n : Nat} {d : D} {v : V} (hf : flatD d = true) (h : Bor G Hi H n d v) : Rep G Hi d v := by
  cases n with
  | zero => unfold Bor at h; exact h
  | succ n =>
    cases d with
    | tup xs =>
      unfold Bor at h
      rw [if_pos (by simpa [flatD] using hf)] at h
      exact h
    | lst xs => simp [flatD] at hf
    | obj c ns xs => simp [flatD] at hf
    | dct ks xs => simp [flatD] at hf
    | scr ns => simp [flatD] at hf
    | _ => exact h
/-- shared flat data are one's own, without a cell -/
theorem Own.flat {G : Gt} {Hi H : Hp} {d : D} {v : V} (n : Nat) (hf : flatD d = true) (h : Rep G Hi d v) : Own G Hi H n d v [] := by
  cases n with
  | zero => unfold Own; exact ⟨rfl, h⟩
  | succ n =>
    cases d with
    | tup xs =>
      unfold Own
      rw [if_pos (by simpa [flatD] using hf)]
      exact ⟨rfl, h⟩
    | lst xs => simp [flatD] at hf
    | obj c ns xs => simp [flatD] at hf
    | dct ks xs => simp [flatD] at hf
    | scr ns => simp [flatD] at hf
    | _ => exact ⟨rfl, h⟩
mutual
/-- borrowed to a depth, borrowed to a greater one -/
theorem Bor.up {G : Gt} {Hi H : Hp} (e : Ex Hi H) : ∀ (n : Nat) (d : D) (v : V), Bor G Hi H n d v → Bor G Hi H (n + 1) d v
  | 0, d, v, h => by unfold Bor at h; exact Bor.of e 1 d v h
  | n + 1, .lst xs, v, h => by
    obtain ⟨a, vs, h1, h2, h3⟩ := h
    exact ⟨a, vs, h1, h2, Bors.up e n xs vs h3⟩
  | n + 1, .tup xs, v, h => by
    unfold Bor at h ⊢
    split at h
    · rename_i hf
      rw [if_pos hf]; exact h
    · rename_i hf
      rw [if_neg hf]
      obtain ⟨a, vs, h1, h2, h3⟩ := h
      exact ⟨a, vs, h1, h2, Bors.up e n xs vs h3⟩
  | n + 1, .obj c ns xs, v, h => by
    obtain ⟨a, dx, vs, h1, h2, hl, h3⟩ := h
    exact ⟨a, dx, vs, h1, h2, hl, Bors.up e n xs vs h3⟩
  | n + 1, .dct ks xs, v, h => by
    obtain ⟨a, vs, h1, h2, hl, h3⟩ := h
    exact ⟨a, vs, h1, h2, hl, Bors.up e n xs vs h3⟩
  | n + 1, .non, v, h => h
  | n + 1, .bl b, v, h => h
  | n + 1, .int i, v, h => h
  | n + 1, .str x, v, h => h
  | n + 1, .scr ns, v, h => h
theorem Bors.up {G : Gt} {Hi H : Hp} (e : Ex Hi H) : ∀ (n : Nat) (ds : List D) (vs : List V), Bors G Hi H n ds vs → Bors G Hi H (n + 1) ds vs
  | n, [], vs, h => h
  | n, d :: ds, vs, h => by
    obtain ⟨v, vs', h1, h2, h3⟩ := h
    exact ⟨v, vs', h1, Bor.up e n d v h2, Bors.up e n ds vs' h3⟩
end
theorem Bors.ups {G : Gt} {Hi H : Hp} (e : Ex Hi H) {n : Nat} {ds : List D} {vs : List V} (h : Bors G Hi H n ds vs) : ∀ m, n ≤ m → Bors G Hi H m ds vs
  | 0, hm => by obtain rfl : n = 0 := by omega
                exact h
  | m + 1, hm => by
    by_cases z : n = m + 1
    · subst z; exact h
    · exact Bors.up e m ds vs (Bors.ups e h m (by omega))
theorem Bors.append {G : Gt} {Hi H : Hp} {n : Nat} : ∀ {ds es : List D} {vs ws : List V}, Bors G Hi H n ds vs → Bors G Hi H n es ws → Bors G Hi H n (ds ++ es) (vs ++ ws)
  | [], _, _, _, h, h' => by cases h; exact h'
  | d :: ds, _, _, _, h, h' => by
    obtain ⟨v, vs', rfl, h2, h3⟩ := h
    exact ⟨v, vs' ++ _, rfl, h2, Bors.append h3 h'⟩
theorem Owns.append {G : Gt} {Hi H : Hp} {n : Nat} : ∀ {ds es : List D} {vs ws : List V} {f g : List Addr}, Owns G Hi H n ds vs f → Owns G Hi H n es ws g → Owns G Hi H n (ds ++ es) (vs ++ ws) (f ++ g)
  | [], _, _, _, _, _, h, h' => by obtain ⟨rfl, rfl⟩ := h; exact h'
  | d :: ds, _, _, _, _, _, h, h' => by
    obtain ⟨v, vs', f1, f2, rfl, rfl, h2, h3⟩ := h
    exact ⟨v, vs' ++ _, f1, f2 ++ _, rfl, by rw [List.append_assoc], h2, Owns.append h3 h'⟩
/-! data whose parts below depth n are flat -/
mutual
def flatAt : Nat → D → Bool
  | 0, d => flatD d
  | n + 1, .lst xs => flatAtL n xs
  | _ + 1, .tup xs => flatL xs
  | _ + 1, .dct _ _ => false
  | _ + 1, .obj _ _ _ => false
  | _ + 1, .scr _ => false
  | _ + 1, .non => true
  | _ + 1, .bl _ => true
  | _ + 1, .int _ => true
  | _ + 1, .str _ => true
def flatAtL : Nat → List D → Bool
  | _, [] => true
  | n, d :: ds => flatAt n d && flatAtL n ds
end
mutual
/-- one's own to a depth below which all is flat: one's own to a greater one -/
theorem Own.up {G : Gt} {Hi H : Hp} : ∀ (n : Nat) (d : D) (v : V) (fp : List Addr), flatAt n d = true → Own G Hi H n d v fp → Own G Hi H (n + 1) d v fp
  | 0, d, v, fp, f, h => by
    unfold Own at h
    obtain ⟨rfl, h⟩ := h
    unfold flatAt at f
    exact Own.flat 1 f h
  | n + 1, .lst xs, v, fp, f, h => by
    unfold flatAt at f
    obtain ⟨p, vs, fps, h1, h2, h3, h4⟩ := h
    exact ⟨p, vs, fps, h1, h2, h3, Owns.up n xs vs fps f h4⟩
  | n + 1, .tup xs, v, fp, f, h => by
    unfold flatAt at f
    unfold Own at h ⊢
    rw [if_pos f] at h ⊢
    exact h
  | n + 1, .non, v, fp, f, h => h
  | n + 1, .bl b, v, fp, f, h => h
  | n + 1, .int i, v, fp, f, h => h
  | n + 1, .str x, v, fp, f, h => h
  | n + 1, .obj c ns xs, v, fp, f, h => h
  | n + 1, .scr ns, v, fp, f, h => h
  | n + 1, .dct ks xs, v, fp, f, h => by unfold flatAt at f; cases f
theorem Owns.up {G : Gt} {Hi H : Hp} : ∀ (n : Nat) (ds : List D) (vs : List V) (fp : List Addr), flatAtL n ds = true → Owns G Hi H n ds vs fp → Owns G Hi H (n + 1) ds vs fp
  | n, [], vs, fp, f, h => h
  | n, d :: ds, vs, fp, f, h => by
    unfold flatAtL at f
    rw [Bool.and_eq_true] at f
    obtain ⟨v, vs', f1, f2, h1, h2, h3, h4⟩ := h
    exact ⟨v, vs', f1, f2, h1, h2, Own.up n d v f1 f.1 h3, Owns.up n ds vs' f2 f.2 h4⟩
end
section
variable {G : Gt} {H H' : Hp}
theorem RepL.nil : RepL G H [] [] := rfl
theorem RepL.cons {d : D} {ds : List D} {v : V} {vs : List V} (h : Rep G H d v) (hs : RepL G H ds vs) : RepL G H (d :: ds) (v :: vs) := ⟨v, vs, rfl, h, hs⟩
theorem RepL.length : ∀ {ds : List D} {vs : List V}, RepL G H ds vs → ds.length = vs.length
  | [], _, h => by cases h; rfl
  | d :: ds, _, h => by
    obtain ⟨v, vs', rfl, _, h3⟩ := h
    simp [RepL.length h3]
theorem Bors.length {Hi : Hp} {n : Nat} : ∀ {ds : List D} {vs : List V}, Bors G Hi H n ds vs → ds.length = vs.length
  | [], _, h => by cases h; rfl
  | d :: ds, _, h => by
    obtain ⟨v, vs', rfl, _, h3⟩ := h
    simp [Bors.length h3]
theorem Bors.get {Hi : Hp} {n : Nat} : ∀ {ds : List D} {vs : List V} {i : Nat} {d : D}, Bors G Hi H n ds vs → ds[i]? = some d → ∃ v, vs[i]? = some v ∧ Bor G Hi H n d v
  | [], _, _, _, _, e => by simp at e
  | d :: ds, _, 0, _, h, e => by
    obtain ⟨v, vs', rfl, h2, h3⟩ := h
    simp at e; subst e
    exact ⟨v, rfl, h2⟩
  | d :: ds, _, i + 1, _, h, e => by
    obtain ⟨v, vs', rfl, h2, h3⟩ := h
    obtain ⟨w, h4, h5⟩ := Bors.get (i := i) h3 (by simpa using e)
    exact ⟨w, by simpa using h4, h5⟩
theorem Bors.zero {Hi : Hp} : ∀ {ds : List D} {vs : List V}, Bors G Hi H 0 ds vs → RepL G Hi ds vs
  | [], _, h => h
  | d :: ds, _, h => by
    obtain ⟨v, vs', rfl, h2, h3⟩ := h
    unfold Bor at h2
    exact ⟨v, vs', rfl, h2, Bors.zero h3⟩
theorem Owns.zero {Hi : Hp} : ∀ {ds : List D} {vs : List V} {fp : List Addr}, Owns G Hi H 0 ds vs fp → fp = [] ∧ RepL G Hi ds vs
  | [], _, _, h => ⟨h.2, h.1⟩
  | d :: ds, _, _, h => by
    obtain ⟨v, vs', f1, f2, rfl, rfl, h2, h3⟩ := h
    unfold Own at h2
    obtain ⟨e1, e2⟩ := Owns.zero h3
    exact ⟨by rw [h2.1, e1]; rfl, v, vs', rfl, h2.2, e2⟩
theorem Owns.ofZero {Hi : Hp} : ∀ {ds : List D} {vs : List V}, RepL G Hi ds vs → Owns G Hi H 0 ds vs []
  | [], _, h => ⟨h, rfl⟩
  | d :: ds, _, h => by
    obtain ⟨v, vs', rfl, h2, h3⟩ := h
    refine ⟨v, vs', [], [], rfl, rfl, ?_, Owns.ofZero h3⟩
    unfold Own
    exact ⟨rfl, h2⟩
theorem RepL.append : ∀ {ds es : List D} {vs ws : List V}, RepL G H ds vs → RepL G H es ws → RepL G H (ds ++ es) (vs ++ ws)
  | [], _, _, _, h, h' => by cases h; exact h'
  | d :: ds, _, _, _, h, h' => by
    obtain ⟨v, vs', rfl, h2, h3⟩ := h
    exact ⟨v, vs' ++ _, rfl, h2, RepL.append h3 h'⟩
theorem RepL.get : ∀ {ds : List D} {vs : List V} {i : Nat} {d : D}, RepL G H ds vs → ds[i]? = some d → ∃ v, vs[i]? = some v ∧ Rep G H d v
  | [], _, _, _, _, e => by simp at e
  | d :: ds, _, 0, _, h, e => by
    obtain ⟨v, vs', rfl, h2, h3⟩ := h
    simp at e; subst e
    exact ⟨v, rfl, h2⟩
  | d :: ds, _, i + 1, _, h, e => by
    obtain ⟨v, vs', rfl, h2, h3⟩ := h
    obtain ⟨w, h4, h5⟩ := RepL.get (i := i) h3 (by simpa using e)
    exact ⟨w, by simpa using h4, h5⟩
theorem RepL.get' : ∀ {ds : List D} {vs : List V} {i : Nat} {v : V}, RepL G H ds vs → vs[i]? = some v → ∃ d, ds[i]? = some d ∧ Rep G H d v
  | [], _, _, _, h, e => by cases h; simp at e
  | d :: ds, _, 0, _, h, e => by
    obtain ⟨v, vs', rfl, h2, h3⟩ := h
    simp at e; subst e
    exact ⟨d, rfl, h2⟩
  | d :: ds, _, i + 1, _, h, e => by
    obtain ⟨v, vs', rfl, h2, h3⟩ := h
    obtain ⟨w, h4, h5⟩ := RepL.get' (i := i) h3 (by simpa using e)
    exact ⟨w, by simpa using h4, h5⟩
theorem RepL.take : ∀ {ds : List D} {vs : List V} (n : Nat), RepL G H ds vs → RepL G H (ds.take n) (vs.take n)
  | [], _, _, h => by cases h; simp [RepL]
  | d :: ds, _, 0, h => by simp [RepL]
  | d :: ds, _, n + 1, h => by
    obtain ⟨v, vs', rfl, h2, h3⟩ := h
    exact ⟨v, vs'.take n, rfl, h2, RepL.take n h3⟩
theorem RepL.drop : ∀ {ds : List D} {vs : List V} (n : Nat), RepL G H ds vs → RepL G H (ds.drop n) (vs.drop n)
  | [], _, _, h => by cases h; simp [RepL]
  | d :: ds, _, 0, h => h
  | d :: ds, _, n + 1, h => by
    obtain ⟨v, vs', rfl, h2, h3⟩ := h
    exact RepL.drop n h3
theorem RepL.set {e : D} {w : V} (hw : Rep G H e w) : ∀ {ds : List D} {vs : List V} (i : Nat), RepL G H ds vs → RepL G H (ds.set i e) (vs.set i w)
  | [], _, _, h => by cases h; simp [RepL]
  | d :: ds, _, 0, h => by
    obtain ⟨v, vs', rfl, h2, h3⟩ := h
    exact ⟨w, vs', rfl, hw, h3⟩
  | d :: ds, _, i + 1, h => by
    obtain ⟨v, vs', rfl, h2, h3⟩ := h
    exact ⟨v, vs'.set i w, rfl, h2, RepL.set hw i h3⟩
theorem RepL.ints : ∀ {ns : List Int} {vs : List V}, RepL G H (ns.map D.int) vs → vs = ns.map V.int
  | [], _, h => by cases h; rfl
  | n :: ns, _, h => by
    obtain ⟨v, vs', rfl, h2, h3⟩ := h
    have h2 : v = .int n := h2
    rw [h2, RepL.ints h3]; rfl
theorem RepL.of_ints : ∀ (ns : List Int), RepL G H (ns.map D.int) (ns.map V.int)
  | [] => rfl
  | n :: ns => ⟨_, _, rfl, rfl, RepL.of_ints ns⟩
end
end EG
namespace EG
open PySem PySem.Spec PyProof.Rows L2

/-- what an expression gives: shared data; cells of one's own, new; cells of the caller; cells of one's own, just read;
    the error that is handled; the object that is being made -/
inductive Vl where
  | sh (d : D) | fr (n : Nat) (d : D) | bo (n : Nat) (d : D) | us (n : Nat) (d : D)
  | ex (c : Nat) (ns : List Str) (ds : List D) | no (c : Nat) (ns : List Str) (ds : List D)
def Vl.d : Vl → D
  | .sh d => d
  | .fr _ d => d
  | .bo _ d => d
  | .us _ d => d
  | .ex _ _ _ => .non
  | .no c ns ds => .obj c ns ds
/-- reading a name -/
def Vl.use : Vl → Option Vl
  | .sh d => some (.sh d)
  | .fr n d => some (.us n d)
  | .bo n d => some (.bo n d)
  | .us n d => some (.us n d)
  | .ex _ _ _ => none
  | .no c ns ds => some (.us 1 (.obj c ns ds))
/-- a part of a thing that is held so -/
def Vl.part : Vl → D → Option Vl
  | .sh _, d => some (.sh d)
  | .bo n _, d => some (if n ≤ 1 ∨ flatD d = true then .sh d else .bo (n - 1) d)
  | .us n _, d => some (if n ≤ 1 ∨ flatD d = true then .sh d else .us (n - 1) d)
  | .fr n _, d => some (if n ≤ 1 ∨ flatD d = true then .sh d else .us (n - 1) d)
  | _, _ => none
/-- keeping the value within other data -/
def Vl.keep : Vl → Option D
  | .sh d => some d
  | .fr _ d => some d
  | _ => none
/-- are the parts shared? -/
def Vl.low : Vl → Bool
  | .sh _ => true
  | .fr n _ => decide (n ≤ 1)
  | .bo n _ => decide (n ≤ 1)
  | .us n _ => decide (n ≤ 1)
  | _ => false
abbrev Env := List (Option Vl)
def isUs : Option Vl → Bool
  | some (.us _ _) => true
  | _ => false
/-- no slot borrows cells of one's own -/
def noUs : Env → Bool
  | [] => true
  | r :: rs => !isUs r && noUs rs
theorem noUs_get : ∀ {ε : Env} {i : Nat} {r : Option Vl}, noUs ε = true → ε[i]? = some r → isUs r = false
  | [], _, _, _, e => by simp at e
  | x :: xs, 0, r, h, e => by
    simp at e; subst e
    unfold noUs at h
    rw [Bool.and_eq_true] at h
    simpa using h.1
  | x :: xs, i + 1, r, h, e => by
    unfold noUs at h
    rw [Bool.and_eq_true] at h
    exact noUs_get h.2 (by simpa using e)
theorem noUs_set : ∀ {ε : Env} (i : Nat) {r : Option Vl}, noUs ε = true → isUs r = false → noUs (ε.set i r) = true
  | [], _, _, _, _ => rfl
  | x :: xs, 0, r, h, e => by
    unfold noUs at h
    rw [Bool.and_eq_true] at h
    show noUs (r :: xs) = true
    unfold noUs
    rw [e, h.2]; rfl
  | x :: xs, i + 1, r, h, e => by
    unfold noUs at h
    rw [Bool.and_eq_true] at h
    show noUs (x :: xs.set i r) = true
    unfold noUs
    rw [h.1, noUs_set i h.2 e]; rfl
/-- the slots that borrow such cells are given up -/
def dropU : Env → Env
  | [] => []
  | r :: rs => (if isUs r = true then none else r) :: dropU rs

structure Step (Hi H Hi' H' : Hp) : Prop where
  i : Ex Hi Hi'
  h : Ex H H'
  s : Ex Hi' H'
  n : ∀ p, H p ≠ none → Hi p = none → Hi' p = none
section
variable {Hi H Hi1 H1 Hi2 H2 : Hp}
theorem Step.refl (h : Ex Hi H) : Step Hi H Hi H := ⟨Evl.Ex.refl _, Evl.Ex.refl _, h, fun _ _ z => z⟩
theorem ne_some {H H' : Hp} (e : Ex H H') {p : Addr} (h : H p ≠ none) : H' p ≠ none := by
  intro z
  cases q : H p with
  | none => exact h q
  | some o => rw [e p o q] at z; cases z
theorem Step.trans (a : Step Hi H Hi1 H1) (b : Step Hi1 H1 Hi2 H2) : Step Hi H Hi2 H2 :=
  ⟨a.i.trans b.i, a.h.trans b.h, b.s, fun p h1 h2 => b.n p (ne_some a.h h1) (a.n p h1 h2)⟩
theorem Step.fresh (a : Step Hi H Hi1 H1) {p : Addr} (h : H1 p = none) : H p = none := Evl.fresh_back a.h h
/-- a new shared object -/
theorem Step.new {p : Addr} {o : HO} (h : Ex Hi H) (hp : H p = none) : Step Hi H (upd Hi p o) (upd H p o) := by
  have hip : Hi p = none := Evl.fresh_back h hp
  refine ⟨Evl.Ex.new hip, Evl.Ex.new hp, fun a u e => ?_, fun q h1 h2 => ?_⟩
  · by_cases z : a = p
    · subst z; rw [upd_same] at e ⊢; exact e
    · rw [upd_ne z] at e ⊢; exact h a u e
  · rw [upd_ne (fun (z : q = p) => h1 (by rw [z]; exact hp))]; exact h2
/-- a new cell of one's own -/
theorem Step.own {p : Addr} {o : HO} (h : Ex Hi H) (hp : H p = none) : Step Hi H Hi (upd H p o) := by
  exact ⟨Evl.Ex.refl _, Evl.Ex.new hp, h.trans (Evl.Ex.new hp), fun _ _ z => z⟩
/-- cells that were new are shared from here on -/
theorem Step.share {fp : List Addr} (a : Step Hi H Hi1 H1) (h0 : ∀ p ∈ fp, H p = none) (h2 : ∀ p ∈ fp, Hi1 p = none) : Step Hi H (shareH Hi1 H1 fp) H1 := by
  refine ⟨a.i.trans (shareH_ex h2), a.h, fun b u e => ?_, fun q q1 q2 => ?_⟩
  · by_cases z : b ∈ fp
    · rw [shareH_in z] at e; exact e
    · rw [shareH_out z] at e; exact a.s b u e
  · by_cases z : q ∈ fp
    · exact absurd (h0 q z) q1
    · rw [shareH_out z]; exact a.n q q1 q2
/-- a cell that was new is shared from here on -/
theorem Step.freeze {p : Addr} {o : HO} (a : Step Hi H Hi1 H1) (h0 : H p = none) (h1 : H1 p = some o) (h2 : Hi1 p = none) : Step Hi H (upd Hi1 p o) H1 := by
  refine ⟨a.i.trans (Evl.Ex.new h2), a.h, fun b u e => ?_, fun q q1 q2 => ?_⟩
  · by_cases z : b = p
    · subst z; rw [upd_same] at e; rw [h1]; exact e
    · rw [upd_ne z] at e; exact a.s b u e
  · rw [upd_ne (fun (z : q = p) => q1 (by rw [z]; exact h0))]; exact a.n q q1 q2
end

section
variable (G : Gt)
/-- an error of class c with its attributes -/
def ExOk (Hi : Hp) (c : Nat) (ns : List Str) (ds : List D) (cls : Value) (d : Option Addr) : Prop :=
  cls = .ref (G.cl c) ∧ ns.length = ds.length ∧ ((ns = [] ∧ d = none) ∨ ∃ dd vs, d = some dd ∧ Hi dd = some (.xd (ns.zip vs)) ∧ RepL G Hi ds vs)
/-- a value; H0: the heap at the def's start; Hb: the heap ahead of its evaluation -/
def VlOk (H0 Hb Hi H : Hp) : Vl → V → Prop
  | .sh d, x => Rep G Hi d x
  | .fr n d, x => ∃ fp, Own G Hi H n d x fp ∧ fp.Nodup ∧ ∀ p ∈ fp, Hi p = none ∧ Hb p = none
  | .bo n d, x => Bor G Hi H0 n d x
  | .us n d, x => Bor G Hi H n d x
  | .ex _ _ _, _ => False
  | .no _ _ _, _ => False
abbrev Xp := Option (Addr × Value × Option Addr)
def SlOk (xp : Xp) (H0 Hi H : Hp) (fp : List Addr) : Option Vl → Option V → Prop
  | none, _ => fp = []
  | some (.sh d), v => fp = [] ∧ ∃ x, v = some x ∧ Rep G Hi d x
  | some (.fr n d), v => ∃ x, v = some x ∧ Own G Hi H n d x fp ∧ fp.Nodup ∧ ∀ p ∈ fp, Hi p = none ∧ H0 p = none
  | some (.bo n d), v => fp = [] ∧ ∃ x, v = some x ∧ Bor G Hi H0 n d x
  | some (.us n d), v => fp = [] ∧ ∃ x, v = some x ∧ Bor G Hi H n d x
  | some (.ex c ns ds), v => fp = [] ∧ ∃ a cls d, xp = some (a, cls, d) ∧ v = some (.ref a) ∧ ExOk G Hi c ns ds cls d
  | some (.no c ns ds), v => ∃ p dx vs, v = some (.ref p) ∧ fp = [p, dx] ∧ p ≠ dx ∧ H p = some (.ins (G.cl c) dx (ns.zip vs)) ∧ H dx = some (.own p) ∧ ns.length = ds.length ∧ RepL G Hi ds vs ∧ Hi p = none ∧ Hi dx = none ∧ H0 p = none ∧ H0 dx = none ∧ ∃ cls d, xp = some (p, cls, d)
structure EnvOk (xp : Xp) (Hi0 H0 Hi H : Hp) (σ : L2.St) (ε : Env) : Prop where
  st : Step Hi0 H0 Hi H
  len : σ.length = ε.length
  sl : ∃ F : Nat → List Addr, (∀ (i : Nat) (r : Option Vl) (v : Option V), ε[i]? = some r → σ[i]? = some v → SlOk G xp H0 Hi H (F i) r v) ∧ (∀ i j p, i ≠ j → p ∈ F i → p ∈ F j → False) ∧ ∀ i, ε.length ≤ i → F i = []
end
section
variable {G : Gt} {xp : Xp} {Hi0 H0 Hi H Hi' H' : Hp} {σ : L2.St} {ε : Env}
theorem ExOk.mono (e : Ex Hi Hi') {c : Nat} {ns : List Str} {ds : List D} {cls : Value} {d : Option Addr} (h : ExOk G Hi c ns ds cls d) : ExOk G Hi' c ns ds cls d := by
  obtain ⟨h1, h2, h3⟩ := h
  refine ⟨h1, h2, ?_⟩
  rcases h3 with h3 | ⟨dd, vs, h4, h5, h6⟩
  · exact .inl h3
  · exact .inr ⟨dd, vs, h4, e _ _ h5, RepL.mono e _ _ h6⟩
theorem at_of {H H' : Hp} (e : Ex H H') {p : Addr} (h : H p ≠ none) : H' p = H p := by
  cases q : H p with
  | none => exact absurd q h
  | some o => exact e p o q
theorem SlOk.mem {fp : List Addr} {r : Option Vl} {v : Option V} (h : SlOk G xp H0 Hi H fp r v) : ∀ p ∈ fp, H p ≠ none ∧ Hi p = none ∧ H0 p = none := by
  match r, h with
  | none, h => intro p hp; rw [show fp = [] from h] at hp; cases hp
  | some (.sh d), h => intro p hp; rw [h.1] at hp; cases hp
  | some (.bo n d), h => intro p hp; rw [h.1] at hp; cases hp
  | some (.us n d), h => intro p hp; rw [h.1] at hp; cases hp
  | some (.ex c ns ds), h => intro p hp; rw [h.1] at hp; cases hp
  | some (.fr n d), ⟨x, h1, h2, h3, h4⟩ => exact fun p hp => ⟨Own.mem n d x fp h2 p hp, h4 p hp⟩
  | some (.no c ns ds), ⟨p, dx, vs, h1, h2, h3, h4, h5, h6, h7, h8, h9, h10, h11⟩ =>
    intro q hq
    rw [h2] at hq
    rcases List.mem_cons.mp hq with rfl | hq
    · exact ⟨(by rw [h4]; exact fun z => nomatch z), h8, h10⟩
    · rcases List.mem_cons.mp hq with rfl | hq
      · exact ⟨(by rw [h5]; exact fun z => nomatch z), h9, h11.1⟩
      · cases hq
/-- the slot stays where Hi grows, and its own cells stay as they were and unshared -/
theorem SlOk.stay {fp : List Addr} {r : Option Vl} {v : Option V} (ei : Ex Hi Hi') (hs : ∀ p ∈ fp, H' p = H p ∧ Hi' p = none) (hu : isUs r = true → Ex H H') (h : SlOk G xp H0 Hi H fp r v) : SlOk G xp H0 Hi' H' fp r v := by
  match r, h with
  | none, h => exact h
  | some (.sh d), ⟨h0, x, h1, h2⟩ => exact ⟨h0, x, h1, Rep.mono ei d x h2⟩
  | some (.bo n d), ⟨h0, x, h1, h2⟩ => exact ⟨h0, x, h1, Bor.mono ei (Evl.Ex.refl _) n d x h2⟩
  | some (.us n d), ⟨h0, x, h1, h2⟩ => exact ⟨h0, x, h1, Bor.mono ei (hu rfl) n d x h2⟩
  | some (.ex c ns ds), ⟨h0, a, cls, d, h1, h2, h3⟩ => exact ⟨h0, a, cls, d, h1, h2, h3.mono ei⟩
  | some (.fr n d), ⟨x, h1, h2, h3, h4⟩ => exact ⟨x, h1, Own.keep ei n d x fp (fun p hp => (hs p hp).1) h2, h3, fun p hp => ⟨(hs p hp).2, (h4 p hp).2⟩⟩
  | some (.no c ns ds), ⟨p, dx, vs, h1, h2, h3, h4, h5, h6, h7, h8, h9, h10, h11⟩ =>
    have e1 := hs p (by rw [h2]; exact List.mem_cons_self)
    have e2 := hs dx (by rw [h2]; exact List.mem_cons_of_mem _ List.mem_cons_self)
    exact ⟨p, dx, vs, h1, h2, h3, by rw [e1.1]; exact h4, by rw [e2.1]; exact h5, h6, RepL.mono ei _ _ h7, e1.2, e2.2, h10, h11⟩
theorem SlOk.step (a : Step Hi H Hi' H') {fp : List Addr} {r : Option Vl} {v : Option V} (h : SlOk G xp H0 Hi H fp r v) : SlOk G xp H0 Hi' H' fp r v :=
  h.stay a.i (fun p hp => by
    obtain ⟨h1, h2, _⟩ := h.mem p hp
    exact ⟨at_of a.h h1, a.n p h1 h2⟩) fun _ => a.h
theorem EnvOk.step (I : EnvOk G xp Hi0 H0 Hi H σ ε) (a : Step Hi H Hi' H') : EnvOk G xp Hi0 H0 Hi' H' σ ε := by
  obtain ⟨F, h1, h2, h3⟩ := I.sl
  exact ⟨I.st.trans a, I.len, F, fun i r v e1 e2 => (h1 i r v e1 e2).step a, h2, h3⟩
theorem VlOk.step {Hb : Hp} (a : Step Hi H Hi' H') {r : Vl} {x : V} (h : VlOk G H0 Hb Hi H r x) : VlOk G H0 Hb Hi' H' r x := by
  match r, h with
  | .sh d, h => exact Rep.mono a.i d x h
  | .fr n d, ⟨fp, h1, h2, h3⟩ =>
    exact ⟨fp, Own.keep a.i n d x fp (fun p hp => at_of a.h (Own.mem n d x fp h1 p hp)) h1, h2, fun p hp => ⟨a.n p (Own.mem n d x fp h1 p hp) (h3 p hp).1, (h3 p hp).2⟩⟩
  | .bo n d, h => exact Bor.mono a.i (Evl.Ex.refl _) n d x h
  | .us n d, h => exact Bor.mono a.i a.h n d x h
theorem VlOk.back {Ha Hb : Hp} (e : Ex Ha Hb) {r : Vl} {x : V} (h : VlOk G H0 Hb Hi H r x) : VlOk G H0 Ha Hi H r x := by
  match r, h with
  | .sh d, h => exact h
  | .fr n d, ⟨fp, h1, h2, h3⟩ => exact ⟨fp, h1, h2, fun p hp => ⟨(h3 p hp).1, Evl.fresh_back e (h3 p hp).2⟩⟩
  | .bo n d, h => exact h
  | .us n d, h => exact h
/-- the value's data, as they may be read -/
theorem VlOk.bor {Hb : Hp} (s : Ex Hi H) (s0 : Ex H0 H) {r : Vl} {x : V} (h : VlOk G H0 Hb Hi H r x) : ∃ n, Bor G Hi H n r.d x ∧ (r.low = true → n ≤ 1) := by
  match r, h with
  | .sh d, h => exact ⟨0, by unfold Bor; exact h, fun _ => Nat.zero_le _⟩
  | .fr n d, ⟨fp, h1, h2, h3⟩ => exact ⟨n, Own.bor s n d x fp h1, fun z => by simpa [Vl.low] using z⟩
  | .bo n d, h => exact ⟨n, Bor.mono (Evl.Ex.refl _) s0 n d x h, fun z => by simpa [Vl.low] using z⟩
  | .us n d, h => exact ⟨n, h, fun z => by simpa [Vl.low] using z⟩
theorem VlOk.rep {Hb : Hp} (s : Ex Hi H) (s0 : Ex H0 H) {r : Vl} {x : V} (h : VlOk G H0 Hb Hi H r x) : Rep G H r.d x := by
  obtain ⟨n, h1, _⟩ := h.bor s s0
  exact Bor.rep s n _ x h1
theorem VlOk.flat {Hb : Hp} (s : Ex Hi H) (s0 : Ex H0 H) {r : Vl} {x : V} (h : VlOk G H0 Hb Hi H r x) (e : flatD r.d = true) : Rep G Hi r.d x := by
  obtain ⟨n, h1, _⟩ := h.bor s s0
  exact h1.flat e
/-- the items of a list, whose parts are shared -/
theorem VlOk.lst {Hb : Hp} (s : Ex Hi H) (s0 : Ex H0 H) {r : Vl} {x : V} {xs : List D} (h : VlOk G H0 Hb Hi H r x) (e : r.d = .lst xs) : ∃ p vs, x = .ref p ∧ H p = some (.lst vs) ∧ RepL G H xs vs ∧ (r.low = true → RepL G Hi xs vs) := by
  obtain ⟨n, h1, h2⟩ := h.bor s s0
  rw [e] at h1
  cases n with
  | zero =>
    unfold Bor at h1
    obtain ⟨p, vs, e1, e2, e3⟩ := h1
    exact ⟨p, vs, e1, s _ _ e2, RepL.mono s _ _ e3, fun _ => e3⟩
  | succ n =>
    obtain ⟨p, vs, e1, e2, e3⟩ := h1
    refine ⟨p, vs, e1, e2, Bors.rep s n _ _ e3, fun z => ?_⟩
    have := h2 z
    obtain rfl : n = 0 := by omega
    exact e3.zero
theorem VlOk.tup {Hb : Hp} (s : Ex Hi H) (s0 : Ex H0 H) {r : Vl} {x : V} {xs : List D} (h : VlOk G H0 Hb Hi H r x) (e : r.d = .tup xs) : ∃ p vs, x = .ref p ∧ H p = some (.tup vs) ∧ RepL G H xs vs ∧ (r.low = true → RepL G Hi xs vs) := by
  obtain ⟨n, h1, h2⟩ := h.bor s s0
  rw [e] at h1
  cases n with
  | zero =>
    unfold Bor at h1
    obtain ⟨p, vs, e1, e2, e3⟩ := h1
    exact ⟨p, vs, e1, s _ _ e2, RepL.mono s _ _ e3, fun _ => e3⟩
  | succ n =>
    unfold Bor at h1
    split at h1
    · obtain ⟨p, vs, e1, e2, e3⟩ := h1
      exact ⟨p, vs, e1, s _ _ e2, RepL.mono s _ _ e3, fun _ => e3⟩
    · obtain ⟨p, vs, e1, e2, e3⟩ := h1
      refine ⟨p, vs, e1, e2, Bors.rep s n _ _ e3, fun z => ?_⟩
      have := h2 z
      obtain rfl : n = 0 := by omega
      exact e3.zero
theorem flatL_get : ∀ {xs : List D} {i : Nat} {d : D}, flatL xs = true → xs[i]? = some d → flatD d = true
  | [], _, _, _, e => by simp at e
  | x :: xs, 0, d, h, e => by
    simp at e; subst e
    simp [flatL] at h; exact h.1
  | x :: xs, i + 1, d, h, e => by
    simp [flatL] at h
    exact flatL_get h.2 (by simpa using e)
/-- an item of a list or tuple, as its holder holds it -/
theorem part_ok {Hb : Hp} (s : Ex Hi H) (s0 : Ex H0 H) {r q : Vl} {x : V} {xs : List D} {i : Nat} {d : D} (h : VlOk G H0 Hb Hi H r x) (e : r.d = .lst xs ∨ r.d = .tup xs) (hd : xs[i]? = some d) (hq : r.part d = some q) :
    ∃ p vs v, x = .ref p ∧ (H p = some (.lst vs) ∨ H p = some (.tup vs)) ∧ (r.d = .lst xs → H p = some (.lst vs)) ∧ (r.d = .tup xs → H p = some (.tup vs)) ∧ vs.length = xs.length ∧ vs[i]? = some v ∧ VlOk G H0 H Hi H q v := by
  have key : ∀ (Hc : Hp) (n : Nat), Ex Hc H → Bor G Hi Hc n r.d x → ∃ p vs v, x = .ref p ∧ (H p = some (.lst vs) ∨ H p = some (.tup vs)) ∧ (r.d = .lst xs → H p = some (.lst vs)) ∧ (r.d = .tup xs → H p = some (.tup vs)) ∧ vs.length = xs.length ∧ vs[i]? = some v ∧ (¬ (n ≤ 1 ∨ flatD d = true) → Bor G Hi Hc (n - 1) d v) ∧ ((n ≤ 1 ∨ flatD d = true) → Rep G Hi d v) := by
    intro Hc n sc hb
    rcases e with e | e
    · rw [e] at hb
      cases n with
      | zero =>
        unfold Bor at hb
        obtain ⟨p, vs, e1, e2, e3⟩ := hb
        obtain ⟨v, g1, g2⟩ := e3.get hd
        exact ⟨p, vs, v, e1, .inl (s _ _ e2), fun _ => s _ _ e2, (fun z => by rw [e] at z; cases z), e3.length.symm, g1, fun z => absurd (.inl (Nat.zero_le _)) z, fun _ => g2⟩
      | succ n =>
        obtain ⟨p, vs, e1, e2, e3⟩ := hb
        obtain ⟨v, g1, g2⟩ := e3.get hd
        refine ⟨p, vs, v, e1, .inl (sc _ _ e2), fun _ => sc _ _ e2, (fun z => by rw [e] at z; cases z), e3.length.symm, g1, fun _ => g2, fun z => ?_⟩
        · rcases z with z | z
          · obtain rfl : n = 0 := by omega
            unfold Bor at g2; exact g2
          · exact g2.flat z
    · rw [e] at hb
      have fin : ∀ (p : Addr) (vs : List V), (n ≤ 1 ∨ flatL xs = true) → x = .ref p → Hi p = some (.tup vs) → RepL G Hi xs vs → ∃ p vs v, x = .ref p ∧ (H p = some (.lst vs) ∨ H p = some (.tup vs)) ∧ (r.d = .lst xs → H p = some (.lst vs)) ∧ (r.d = .tup xs → H p = some (.tup vs)) ∧ vs.length = xs.length ∧ vs[i]? = some v ∧ (¬ (n ≤ 1 ∨ flatD d = true) → Bor G Hi Hc (n - 1) d v) ∧ ((n ≤ 1 ∨ flatD d = true) → Rep G Hi d v) := fun p vs hz e1 e2 e3 => by
        obtain ⟨v, g1, g2⟩ := e3.get hd
        exact ⟨p, vs, v, e1, .inr (s _ _ e2), (fun z => by rw [e] at z; cases z), fun _ => s _ _ e2, e3.length.symm, g1, fun z => absurd (hz.imp id fun y => flatL_get y hd) z, fun _ => g2⟩
      cases n with
      | zero =>
        unfold Bor at hb
        obtain ⟨p, vs, e1, e2, e3⟩ := hb
        exact fin p vs (.inl (Nat.zero_le _)) e1 e2 e3
      | succ n =>
        unfold Bor at hb
        split at hb
        · rename_i hfl
          obtain ⟨p, vs, e1, e2, e3⟩ := hb
          exact fin p vs (.inr hfl) e1 e2 e3
        · obtain ⟨p, vs, e1, e2, e3⟩ := hb
          obtain ⟨v, g1, g2⟩ := e3.get hd
          refine ⟨p, vs, v, e1, .inr (sc _ _ e2), (fun z => by rw [e] at z; cases z), fun _ => sc _ _ e2, e3.length.symm, g1, fun _ => g2, fun z => ?_⟩
          · rcases z with z | z
            · obtain rfl : n = 0 := by omega
              unfold Bor at g2; exact g2
            · exact g2.flat z
  match r, h, hq, key with
  | .sh d', h, hq, key =>
    cases hq
    obtain ⟨p, vs, v, a1, a2, a3, a4, a5, a6, a7, a8⟩ := key H 0 (Evl.Ex.refl _) (by unfold Bor; exact h)
    exact ⟨p, vs, v, a1, a2, a3, a4, a5, a6, a8 (.inl (Nat.zero_le _))⟩
  | .fr n d', ⟨fp, h1, _, _⟩, hq, key =>
    obtain ⟨p, vs, v, a1, a2, a3, a4, a5, a6, a7, a8⟩ := key H n (Evl.Ex.refl _) (Own.bor s n d' x fp h1)
    refine ⟨p, vs, v, a1, a2, a3, a4, a5, a6, ?_⟩
    simp only [Vl.part, Option.some.injEq] at hq
    subst hq
    split
    · rename_i hz; exact a8 hz
    · rename_i hz
      exact a7 hz
  | .bo n d', h, hq, key =>
    obtain ⟨p, vs, v, a1, a2, a3, a4, a5, a6, a7, a8⟩ := key H0 n s0 h
    refine ⟨p, vs, v, a1, a2, a3, a4, a5, a6, ?_⟩
    simp only [Vl.part, Option.some.injEq] at hq
    subst hq
    split
    · rename_i hz; exact a8 hz
    · rename_i hz
      exact a7 hz
  | .us n d', h, hq, key =>
    obtain ⟨p, vs, v, a1, a2, a3, a4, a5, a6, a7, a8⟩ := key H n (Evl.Ex.refl _) h
    refine ⟨p, vs, v, a1, a2, a3, a4, a5, a6, ?_⟩
    simp only [Vl.part, Option.some.injEq] at hq
    subst hq
    split
    · rename_i hz; exact a8 hz
    · rename_i hz
      exact a7 hz
end
end EG
namespace EG
open PySem L2

/-! ### results: a value, or an error that is raised -/
inductive Rz (α : Type) where
  | ok (a : α) | er (c : Nat) (ns : List Str) (ds : List D)
abbrev Rs (α : Type) := Option (Rz α)
def rb {α β : Type} (o : Rs α) (f : α → Rs β) : Rs β :=
  match o with
  | some (.ok a) => f a
  | some (.er c ns ds) => some (.er c ns ds)
  | none => none
def rp {α : Type} (a : α) : Rs α := some (.ok a)
def rl {α : Type} (o : Option α) : Rs α := o.map .ok
structure Fns where
  call : Nat → List Vl → Rs Vl
  meth : Nat → Str → Option Nat

/-! ### the small language -/
inductive BI where
  | len | int | list | tuple | max | min | abs | sum | any | all | sorted | repr | gcd | str
inductive TyN where
  | int | bool | list | tuple | str | dict
mutual
inductive Tg where
  | n (i : Nat) | t (ts : Tgs)
inductive Tgs where
  | nil | cons (t : Tg) (ts : Tgs)
end
mutual
inductive Ep where
  | v (i : Nat) | c (d : D)
  | bin (op : Operator) (a b : Ep) | neg (a : Ep)
  | not (a : Ep) | and (a b : Ep) | or (a b : Ep)
  | cmp (op : CmpOp) (a b : Ep) | chn (o1 o2 : CmpOp) (a b c : Ep)
  | ife (c a b : Ep)
  | ix (a i : Ep) | sl (a : Ep) (lo hi : Epo)
  | tup (es : Eps) | lst (es : Eps)
  | call (f : Nat) (es : Eps) | bi (b : BI) (es : Eps) | isi (t : TyN) (a : Ep) | lrg (a : Ep)
  | lc (tg : Tg) (it : Epi) (cs : Eps) (e : Ep) (own : List Nat)
  | fld (al : List Nat) (a : Ep) (f : Str) | mth (m : Str) (a : Ep) (es : Eps) | isc (al : List Nat) (c : Nat) (a : Ep)
  | oeq (a b : Ep) | oad (a b : Ep) | cll (a : Ep) (es : Eps) | dgt (a k d : Ep) | lio (al : List Nat) (f : Str) (a : Ep) | fnd (a b : Ep) | dit (a : Ep)
  | dcp (tg : Tg) (it : Epi) (cs : Eps) (k v : Ep) (own : List Nat)
  | exf (i : Nat) (al : List Nat) (f : Str) | exi (i : Nat) (al cs : List Nat)
  | lcd (k : Nat) (tg : Tg) (it : Epi) (cs : Eps) (e : Ep) (own : List Nat) | lstd (k : Nat) (es : Eps) | dnw (t : Bool)
  | lc2 (tg : Tg) (it : Epi) (cs : Eps) (tg1 : Tg) (it1 : Epi) (cs1 : Eps) (e : Ep) (own own1 : List Nat)
  | sst (tg : Tg) (it : Epi) (cs : Eps) (e : Ep) (own : List Nat) | sst2 (tg : Tg) (it : Epi) (cs : Eps) (tg1 : Tg) (it1 : Epi) (cs1 : Eps) (e : Ep) (own own1 : List Nat)
inductive Eps where
  | nil | cons (e : Ep) (es : Eps)
inductive Epo where
  | no | so (e : Ep)
inductive Epi where
  | over (e : Ep) | r1 (a : Ep) | r2 (a b : Ep) | r3 (es : Eps) | enum (e : Ep) | rev (e : Ep)
end
mutual
inductive Sm where
  | asg (tg : Tg) (e : Ep) | app (i : Nat) (e : Ep) | setx (i : Nat) (j e : Ep) | ins (i : Nat) (j e : Ep)
  | popT (tg : Tg) (i : Nat) (a : Epo) | appPop (i j : Nat) (a : Epo)
  | ret (e : Ep) | retV (i : Nat)
  | ifs (c : Ep) (a b : Sms) | frs (tg : Tg) (it : Epi) (b : Sms) | whl (c : Ep) (b : Sms)
  | brk | cnt | pas | fz (i : Nat)
  | exp (e : Ep) | rse (f : Nat) (es : Eps) | tre (b : Sms) (cs : List Nat) (i : Nat) (s : Sms) | sfl (al : List Nat) (i : Nat) (f : Str) (e : Ep)
  | setp (i : Nat) (js : Eps) (j e : Ep) | ku | rse0 (c : Nat) | mov (k i : Nat) (j : Int)
inductive Sms where
  | nil | cons (s : Sm) (ss : Sms)
end

/-! ### operations on data -/
mutual
def toPy : D → PyData
  | .non => .none
  | .bl b => .bool b
  | .int i => .int i
  | .str x => .str x
  | .lst xs => .list (toPys xs)
  | .tup xs => .tuple (toPys xs)
  | .scr ns => .list (ns.map PyData.int)
  | .obj _ _ _ => .none
  | .dct _ _ => .none
def toPys : List D → List PyData
  | [] => []
  | d :: ds => toPy d :: toPys ds
end
/-! data of which PyData tells all -/
mutual
def plainD : D → Bool
  | .obj _ _ _ => false
  | .dct _ _ => false
  | .lst xs => plainL xs
  | .tup xs => plainL xs
  | _ => true
def plainL : List D → Bool
  | [] => true
  | d :: ds => plainD d && plainL ds
end
def shapedD (d : D) : Bool := plainD d && SeqAt.shaped (toPy d)
/-- the dict's key -/
def asK : D → Option Key
  | .int i => some (.inl i)
  | .str x => some (.inr x)
  | _ => none
def asKs : List D → Option (List Key)
  | [] => some []
  | d :: ds => (asK d).bind fun k => (asKs ds).map (k :: ·)
def asT : D → Option (List Key)
  | .tup ds => asKs ds
  | _ => none
/-- a key as data -/
def keyD : Key → D
  | .inl i => .int i
  | .inr x => .str x
/-- where the key stands -/
def keyAt {κ : Type} [DecidableEq κ] : List κ → κ → Option Nat
  | [], _ => none
  | y :: r, x => if y = x then some 0 else (keyAt r x).map (· + 1)
def Ky.at : Ky → D → Option (Option Nat)
  | .k ks, d => (asK d).map (keyAt ks)
  | .t ks, d => (asT d).map (keyAt ks)
def Ky.snoc : Ky → D → Option Ky
  | .k ks, d => (asK d).map fun k => .k (ks ++ [k])
  | .t ks, d => (asT d).map fun k => .t (ks ++ [k])
def intsB : List D → Bool
  | [] => true
  | .int _ :: r => intsB r
  | _ :: _ => false
def sameInts : List D → List D → Bool
  | [], [] => true
  | .int i :: r, .int j :: s => decide (i = j) && sameInts r s
  | _, _ => false
def eqD (a b : D) : Option Bool :=
  match a, b with
  | .dct (.t ks) xs, .dct (.t ls) ys => if ks = ls ∧ sameInts xs ys = true then some true else none
  | .int i, .int j => some (decide (i = j))
  | .str x, .str y => some (decide (x = y))
  | .bl x, .bl y => some (decide (x = y))
  | .non, .non => some true
  | a, b => if shapedD a = true ∧ shapedD b = true then some (PyData.eqv (toPy a) (toPy b)) else none
def isNonD (a : D) : Option Bool :=
  match a with
  | .non => some true
  | .scr _ => none
  | _ => some false
/-- is the text i in j? -/
def inS (i j : Str) : Bool := !(Builtin.Str.occurrences j i 0 j.length 1).isEmpty
def inD (x y : D) : Option Bool :=
  match y with
  | .str j => (match x with | .str i => some (inS i j) | _ => none)
  | .lst ys => if shapedD x = true ∧ shapedD (.lst ys) = true then some ((toPys ys).any fun z => PyData.eqv z (toPy x)) else none
  | .dct ks _ => (ks.at x).map fun o => o.isSome
  | _ => none
def cmpD (op : CmpOp) (a b : D) : Option Bool :=
  match op with
  | .Eq => eqD a b
  | .NotEq => (eqD a b).map (!·)
  | .Lt => (match a, b with | .int i, .int j => some (decide (i < j)) | _, _ => none)
  | .LtE => (match a, b with | .int i, .int j => some (decide (i ≤ j)) | _, _ => none)
  | .Gt => (match a, b with | .int i, .int j => some (decide (j < i)) | _, _ => none)
  | .GtE => (match a, b with | .int i, .int j => some (decide (j ≤ i)) | _, _ => none)
  | .Is => (match a, b with | .bl x, .bl y => some (decide (x = y)) | a, .non => isNonD a | _, _ => none)
  | .IsNot => (match a, b with | .bl x, .bl y => some (!decide (x = y)) | a, .non => (isNonD a).map (!·) | _, _ => none)
  | .In => inD a b
  | .NotIn => (inD a b).map (!·)
/-- to which depth its cells are not shared -/
def Vl.dep : Vl → Nat
  | .fr n _ => n
  | .bo n _ => n
  | .us n _ => n
  | _ => 0
def mulOk (i j : Int) : Bool := decide ((-(2 ^ 64) < i ∧ i < 2 ^ 64) ∨ (-(2 ^ 64) < j ∧ j < 2 ^ 64)) || (decide (i.natAbs < 2 ^ 1000) && decide (j.natAbs < 2 ^ 1000))
def divOk (j : Int) : Bool := decide (0 < j ∧ j < 1073741824) || decide (0 < j ∧ j.natAbs < 2 ^ 1000)
/-- is the whole shared? -/
def Vl.shd : Vl → Bool
  | .sh _ => true
  | r => flatD r.d
/-- n times the text -/
def repS (x : Str) (n : Nat) : Str := ⟨(List.replicate n x.cps).foldl (· ++ ·) #[]⟩
def binD (op : Operator) (x y : Vl) : Option Vl :=
  match op, x.d, y.d with
  | .Add, .int i, .int j => some (.sh (.int (i + j)))
  | .Sub, .int i, .int j => some (.sh (.int (i - j)))
  | .Mult, .int i, .int j => if mulOk i j = true then some (.sh (.int (i * j))) else none
  | .FloorDiv, .int i, .int j => if divOk j = true then some (.sh (.int (i / j))) else none
  | .Mod, .int i, .int j => if 0 < j then some (.sh (.int (i % j))) else none
  | .Pow, .int i, .int j => if 0 ≤ j ∧ j ≤ 1000000 ∧ i.natAbs < 2 ^ 64 then some (.sh (.int (i ^ j.toNat))) else none
  | .Add, .lst xs, .lst ys => if x.low = true ∧ y.low = true then (if xs.length + ys.length ≤ 100000 then some (.fr 1 (.lst (xs ++ ys))) else none) else (if xs.length + ys.length ≤ 100000 ∧ x.dep ≤ 2 ∧ y.dep ≤ 2 then some (.us 2 (.lst (xs ++ ys))) else none)
  | .Add, .tup xs, .tup ys => if x.shd = true ∧ y.shd = true ∧ xs.length + ys.length ≤ 100000 then some (.sh (.tup (xs ++ ys))) else none
  | .Add, .str i, .str j => if i.length + j.length ≤ 100000 then some (.sh (.str (i ++ j))) else none
  | .Mult, .str i, .int n => if n ≤ 1000 ∧ -1000 ≤ n ∧ i.length ≤ 1000 then some (.sh (.str (repS i n.toNat))) else none
  | _, _, _ => none
def ixD (x y : Vl) : Option Vl :=
  match x.d, y.d with
  | .lst xs, .int i => (atI xs i).bind x.part
  | .tup xs, .int i => (atI xs i).bind x.part
  | .scr ns, .int i => (atI ns i).map fun n => .sh (.int n)
  | .str z, .int i => if z.length ≤ 100000 then (atI z.cps.toList i).map fun c => .sh (.str ⟨#[c]⟩) else none
  | .dct ks xs, k => (ks.at k).bind fun o => o.bind fun i => (xs[i]?).bind fun d => if x.low = true then some (.sh d) else none
  | _, _ => none
def cutD {α : Type} (xs : List α) (lo hi : Option Int) : List α := (xs.drop (HT.sIx xs.length 0 lo)).take (HT.sIx xs.length xs.length hi - HT.sIx xs.length 0 lo)
def slD (x : Vl) (lo hi : Option Int) : Option Vl :=
  match x.d with
  | .lst xs => if x.low = true then some (.fr 1 (.lst (cutD xs lo hi))) else none
  | .str z => if z.length ≤ 100000 then some (.sh (.str (Txt.slice z lo hi))) else none
  | _ => none
def truD : D → Option Bool
  | .non => some false
  | .bl b => some b
  | .int i => some (i != 0)
  | .lst xs => some (!xs.isEmpty)
  | .tup xs => some (!xs.isEmpty)
  | _ => none
def intsOf : List D → Option (List Int)
  | [] => some []
  | .int i :: r => (intsOf r).map (i :: ·)
  | _ :: _ => none
def blsOf : List D → Option (List Bool)
  | [] => some []
  | .bl i :: r => (blsOf r).map (i :: ·)
  | _ :: _ => none
def pairsOf : List D → Option (List (Int × Int))
  | [] => some []
  | .tup [.int i, .int j] :: r => (pairsOf r).map ((i, j) :: ·)
  | _ :: _ => none
def maxL : List Int → Int
  | [] => 0
  | [x] => x
  | x :: y :: r => max x (maxL (y :: r))
def minL : List Int → Int
  | [] => 0
  | [x] => x
  | x :: y :: r => min x (minL (y :: r))
def pairD (p : Int × Int) : D := .tup [.int p.1, .int p.2]
/-- p not behind q -/
def leP (p q : Int × Int) : Bool := decide (p.1 < q.1 ∨ (p.1 = q.1 ∧ p.2 ≤ q.2))
def insP (p : Int × Int) : List (Int × Int) → List (Int × Int)
  | [] => [p]
  | q :: r => if leP p q = true then p :: q :: r else q :: insP p r
def sortP : List (Int × Int) → List (Int × Int)
  | [] => []
  | p :: r => insP p (sortP r)
def insI (p : Int) : List Int → List Int
  | [] => [p]
  | q :: r => if p ≤ q then p :: q :: r else q :: insI p r
def sortI : List Int → List Int
  | [] => []
  | p :: r => insI p (sortI r)
def strsOf : List D → Option (List Str)
  | [] => some []
  | .str x :: r => (strsOf r).map (x :: ·)
  | _ :: _ => none
/-- x not behind y -/
def leS (x y : Str) : Bool := !Spec.ltCps y.cps.toList x.cps.toList
def insS (p : Str) : List Str → List Str
  | [] => [p]
  | q :: r => if leS p q = true then p :: q :: r else q :: insS p r
def sortS : List Str → List Str
  | [] => []
  | p :: r => insS p (sortS r)
def sortD (ys : List D) : Option (List D) :=
  match intsOf ys with
  | some ns => some ((sortI ns).map D.int)
  | none => match pairsOf ys with
    | some ps => some ((sortP ps).map pairD)
    | none => (strsOf ys).bind fun zs => if zs.length < 64 then some ((sortS zs).map D.str) else none
def partsD (x : Vl) : List D → Option (List Vl)
  | [] => some []
  | d :: ds => (x.part d).bind fun q => (partsD x ds).map (q :: ·)
/-- the items of a thing that is walked, as its holder holds it -/
def itemsD (x : Vl) : Option (List Vl) :=
  match x.d with
  | .lst xs => partsD x xs
  | .tup xs => partsD x xs
  | .scr ns => some (ns.map fun n => .sh (.int n))
  | .str z => some (z.cps.toList.map fun c => .sh (.str ⟨#[c]⟩))
  | _ => none
def biD (b : BI) (as : List Vl) : Option Vl :=
  match b, as with
  | .len, [x] => (match x.d with | .lst ys => some (.sh (.int ys.length)) | .tup ys => some (.sh (.int ys.length)) | .scr ns => some (.sh (.int ns.length)) | .dct (.k ks) _ => some (.sh (.int ks.length)) | .str z => if z.length ≤ 100000 then some (.sh (.int z.length)) else none | _ => none)
  | .int, [x] => (match x.d with | .int i => some (.sh (.int i)) | .bl b => some (.sh (.int (if b then 1 else 0))) | _ => none)
  | .list, [x] => if x.low = true then (match x.d with | .lst ys => some (.fr 1 (.lst ys)) | .tup ys => some (.fr 1 (.lst ys)) | .dct (.k ks) _ => some (.fr 1 (.lst (ks.map keyD))) | _ => none) else none
  | .tuple, [x] => (match x.d with | .lst ys => if x.low = true then some (.sh (.tup ys)) else none | .tup ys => if x.shd = true then some (.sh (.tup ys)) else none | _ => none)
  | .abs, [x] => (match x.d with | .int i => some (.sh (.int (if i < 0 then -i else i))) | _ => none)
  | .gcd, [x, y] => (match x.d, y.d with | .int i, .int j => some (.sh (.int ((Nat.gcd i.natAbs j.natAbs : Nat) : Int))) | _, _ => none)
  | .max, [x, y] => (match x.d, y.d with | .int i, .int j => some (.sh (.int (max i j))) | _, _ => none)
  | .min, [x, y] => (match x.d, y.d with | .int i, .int j => some (.sh (.int (min i j))) | _, _ => none)
  | .max, [x] => (match x.d with | .lst ys => (intsOf ys).bind fun ns => if 0 < ns.length then some (.sh (.int (maxL ns))) else none | _ => none)
  | .min, [x] => (match x.d with | .lst ys => (intsOf ys).bind fun ns => if 0 < ns.length then some (.sh (.int (minL ns))) else none | _ => none)
  | .sum, [x] => (match x.d with | .lst ys => (intsOf ys).bind fun ns => some (.sh (.int ns.sum)) | _ => none)
  | .any, [x] => (match x.d with | .lst ys => (blsOf ys).bind fun bs => some (.sh (.bl (bs.any id))) | _ => none)
  | .all, [x] => (match x.d with | .lst ys => (blsOf ys).bind fun bs => some (.sh (.bl (bs.all id))) | _ => none)
  | .sorted, [x] => (match x.d with | .lst ys => if x.low = true then (sortD ys).map fun zs => .fr 1 (.lst zs) else none | .tup ys => (strsOf ys).bind fun zs => if zs.length < 64 then some (.fr 1 (.lst ((sortS zs).map D.str))) else none | _ => none)
  | .str, [x] => (match x.d with | .int i => if i.natAbs.log2 < 1900 then some (.sh (.str (toString i))) else none | .str z => some (.sh (.str z)) | _ => none)
  | .repr, [x] => if plainD x.d = true ∧ (toPy x.d).showable = true ∧ (toPy x.d).hasDict = false ∧ (toPy x.d).depth ≤ 60 ∧ (toPy x.d).shown.length ≤ sizeLine then (match x.d with | .lst _ => some (.sh (.str (toPy x.d).shown)) | .tup _ => some (.sh (.str (toPy x.d).shown)) | _ => none) else none
  | _, _ => none
def isiD (t : TyN) (d : D) : Option Bool :=
  match d, t with
  | .non, _ => some false
  | .bl _, .int => some true
  | .bl _, .bool => some true
  | .bl _, _ => some false
  | .int _, .int => some true
  | .int _, _ => some false
  | .str _, .str => some true
  | .str _, _ => some false
  | .lst _, .list => some true
  | .lst _, _ => some false
  | .tup _, .tuple => some true
  | .tup _, _ => some false
  | .dct (.k _) _, .dict => some true
  | .dct (.k _) _, _ => some false
  | .dct (.t _) _, _ => none
  | .scr _, _ => none
  | .obj _ _ _, _ => none

/-- isinstance(x, C), C an own class -/
def iscD (al : List Nat) (c : Nat) (d : D) : Option Bool :=
  match d with
  | .obj c' _ _ => if al.contains c' = true then some (decide (c' = c)) else none
  | .scr _ => none
  | .dct (.t _) _ => none
  | _ => some false
def okT (d : D) : Bool :=
  match d with
  | .scr _ => false
  | .dct _ _ => false
  | _ => true
/-- may the left one's own == be asked? -/
def eqT (x y : D) : Bool :=
  match x, y with
  | .obj c _ _, .obj c' _ _ => decide (c' = c)
  | .obj _ _ _, y => okT y
  | _, _ => false
def adT (x y : D) : Bool :=
  match x, y with
  | .obj c _ _, .obj c' _ _ => decide (c' = c)
  | _, _ => false
def blV : Vl → Option Bool
  | .sh (.bl t) => some t
  | _ => none
def obV : Vl → Option Vl
  | .sh (.obj c ns ds) => some (.sh (.obj c ns ds))
  | _ => none
def isDct : D → Bool
  | .dct _ _ => true
  | _ => false
def dgD (x k d : Vl) : Option Vl :=
  match x.d with
  | .dct ks xs => if x.low = true then (ks.at k.d).bind fun o => match o with
    | some i => (xs[i]?).map .sh
    | none => d.keep.map .sh
    else none
  | _ => none
/-! ### the interpreter -/
def getS (ε : Env) (i : Nat) : Option Vl := (ε[i]?).join
def wipeE (ε : Env) : List Nat → Env
  | [] => ε
  | v :: vs => (wipeE ε vs).set v none
mutual
def bindT : Tg → Vl → Env → Option Env
  | .n i, r, ε => (match r with | .sh d => some (ε.set i (some (.sh d))) | .fr n d => some (ε.set i (some (.fr n d))) | .bo n d => some (ε.set i (some (.bo n d))) | .us n d => some (ε.set i (some (.us n d))) | _ => none)
  | .t ts, r, ε => (match r.d with | .tup ds => (partsD r ds).bind fun rs => bindTs ts rs ε | _ => none)
def bindTs : Tgs → List Vl → Env → Option Env
  | .nil, [], ε => some ε
  | .cons t ts, r :: rs, ε => (bindT t r ε).bind fun ε2 => bindTs ts rs ε2
  | _, _, _ => none
end
/-- a value that is no error -/
def okO {α : Type} : Rs α → Option α
  | some (.ok a) => some a
  | _ => none
def lcGo (f : Vl → Option (Option D)) : List Vl → Option (List D)
  | [] => some []
  | x :: xs => (f x).bind fun o => (lcGo f xs).bind fun ys => some (match o with | some y => y :: ys | none => ys)
/-- keeping the value as one's own, down to depth k -/
def Vl.keepN : Nat → Vl → Option D
  | 0, r => r.keep
  | k + 1, .fr m d => if m = k + 1 ∨ (m = k ∧ flatAt m d = true) then some d else none
  | _ + 1, .sh d => if flatD d = true then some d else none
  | _ + 1, _ => none
def Vl.argd : Vl → Option Vl
  | .sh d => some (.sh d)
  | .fr _ d => some (.sh d)
  | .bo n d => some (.bo n d)
  | .us n d => some (.bo n d)
  | _ => none
def rangeD (lo hi : Int) : List D := (List.range (hi - lo).toNat).map fun (i : Nat) => D.int (lo + (i : Int))
def smallI (i : Int) : Bool := decide (-(2 ^ 62) ≤ i ∧ i < 2 ^ 62)
def asI : D → Option Int
  | .int i => some i
  | _ => none
def asB : D → Option Bool
  | .bl i => some i
  | _ => none
def enumV : List D → List D
  | xs => xs.zipIdx.map fun (x, i) => .tup [.int (i : Int), x]
/-- the parts of a list, where they are shared -/
def lowD (x : Vl) : Option (List D) := if x.low = true then (match x.d with | .lst xs => some xs | _ => none) else none
/-- the items of what enumerate takes -/
def seqD : Vl → Option (List D)
  | .sh (.tup xs) => some xs
  | x => lowD x
/-- an attribute of an object -/
def fldD (al : List Nat) (x : Vl) (f : Str) : Option Vl :=
  match x.d with
  | .obj c ns ds => if al.contains c = true then ((ns.zip ds).lookup f).bind x.part else none
  | _ => none
/-- list(o): o's tuple f, in a list of one's own -/
def lioD (al : List Nat) (x : Vl) (f : Str) : Option Vl := (fldD al x f).bind fun q => match q.d with
  | .tup _ => biD .list [q]
  | _ => none
def exfD (al : List Nat) (r : Option Vl) (f : Str) : Option Vl :=
  match r with
  | some (.ex c ns ds) => if al.contains c = true then ((ns.zip ds).lookup f).map .sh else none
  | _ => none
/-- the method that is meant -/
def methD (Φ : Fns) (m : Str) (x : Vl) : Option (Nat × Vl) :=
  match x.d with
  | .obj c ns _ => if ns.contains m = true then none else (Φ.meth c m).bind fun f => x.argd.map fun x' => (f, x')
  | _ => none
/-- range(a, b, c), 0 < c -/
def rg3D : List Vl → Option (List Vl)
  | [.sh (.int i), .sh (.int j), .sh (.int c)] => if smallI i = true ∧ smallI j = true ∧ 0 < c ∧ c < 1000000 then some ((List.range (if i < j then (j - i - 1) / c + 1 else 0).toNat).map fun (k : Nat) => .sh (.int (i + (k : Int) * c))) else none
  | _ => none
/-- what a for walks: nothing that its body might change -/
def stillV : Vl → Option Vl
  | .sh d => some (.sh d)
  | .fr _ d => some (.sh d)
  | .bo n d => some (.bo n d)
  | _ => none
/-- no slot of these borrows or owns -/
def shOn (ε : Env) (vs : List Nat) : Bool := vs.all fun i => match getS ε i with | none => true | some (.sh _) => true | _ => false
/-- the parts of all turns, one behind the other -/
def catGo {α : Type} (f : Vl → Option (List α)) : List Vl → Option (List α)
  | [] => some []
  | x :: xs => (f x).bind fun ys => (catGo f xs).map fun zs => ys ++ zs
def isStr : D → Bool
  | .str _ => true
  | _ => false
def fndD : D → D → Option Vl
  | .str a, .str b => some (.sh (.int (Txt.find a b)))
  | _, _ => none
/-- list(d.items()) -/
def ditD (x : Vl) : Option Vl :=
  match x.d with
  | .dct (.k ks) xs => if x.low = true then some (.fr 1 (.lst ((ks.zip xs).map fun p => .tup [keyD p.1, p.2]))) else none
  | _ => none
def isK : D → Bool
  | .int _ => true
  | .str _ => true
  | _ => false
def putAll {κ α : Type} [DecidableEq κ] (k : κ) (d : α) : List κ → List α → List α
  | y :: ks, x :: xs => (if y = k then d else x) :: putAll k d ks xs
  | _, _ => []
def Ky.put : Ky → List D → D → D → Option (List D)
  | .k ks, xs, kd, d => (asK kd).map fun k => putAll k d ks xs
  | .t ks, xs, kd, d => (asT kd).map fun k => putAll k d ks xs
/-- d[k] = v -/
def putDc (ks : Ky) (xs : List D) (k d : D) : Option D := (ks.at k).bind fun o => match o with
  | some _ => if ks.length < 100000 then (ks.put xs k d).map (.dct ks) else none
  | none => if ks.length < 100000 then (ks.snoc k).map fun ks' => .dct ks' (xs ++ [d]) else none
def dcStep (t : D) (p : D × D) : Option D :=
  match t with
  | .dct (.k ks) xs => putDc (.k ks) xs p.1 p.2
  | _ => none
/-- what the turns put, one behind the other -/
def dcFold (f : Vl → Option (Option (D × D))) : D → List Vl → Option D
  | t, [] => some t
  | t, x :: xs => (f x).bind fun o => match o with
    | none => dcFold f t xs
    | some p => (dcStep t p).bind fun t' => dcFold f t' xs
def dcGo (f : Vl → Option (Option (D × D))) (xs : List Vl) : Option D := dcFold f (.dct (.k []) []) xs
/-- each number once -/
def uqI (acc : List Int) (k : Int) : List Int := if k ∈ acc then acc else acc ++ [k]
def uniqI (ns : List Int) : List Int := ns.foldl uqI []
mutual
def evalD (Φ : Fns) : Ep → Env → Rs Vl
  | .v i, ε => rl ((getS ε i).bind Vl.use)
  | .c d, _ => rp (.sh d)
  | .bin op a b, ε => rb (evalD Φ a ε) fun x => rb (evalD Φ b ε) fun y => rl (binD op x y)
  | .neg a, ε => rb (evalD Φ a ε) fun x => rb (rl (asI x.d)) fun i => rp (.sh (.int (-i)))
  | .not a, ε => rb (evalD Φ a ε) fun x => rb (rl (asB x.d)) fun b => rp (.sh (.bl (!b)))
  | .and a b, ε => rb (evalD Φ a ε) fun x => rb (rl (asB x.d)) fun t => if t = true then evalD Φ b ε else rp (.sh (.bl false))
  | .or a b, ε => rb (evalD Φ a ε) fun x => rb (rl (asB x.d)) fun t => if t = true then rp (.sh (.bl true)) else evalD Φ b ε
  | .cmp op a b, ε => rb (evalD Φ a ε) fun x => rb (evalD Φ b ε) fun y => rb (rl (cmpD op x.d y.d)) fun r => rp (.sh (.bl r))
  | .chn o1 o2 a b c, ε => rb (evalD Φ a ε) fun x => rb (evalD Φ b ε) fun y => rb (rl (cmpD o1 x.d y.d)) fun t =>
      if t = true then rb (evalD Φ c ε) fun z => rb (rl (cmpD o2 y.d z.d)) fun r => rp (.sh (.bl r)) else rp (.sh (.bl false))
  | .ife c a b, ε => rb (testD Φ c ε) fun t => if t = true then evalD Φ a ε else evalD Φ b ε
  | .ix a i, ε => rb (evalD Φ a ε) fun x => rb (evalD Φ i ε) fun y => rl (ixD x y)
  | .sl a lo hi, ε => rb (evalD Φ a ε) fun x => rb (partD Φ lo ε) fun l => rb (partD Φ hi ε) fun h => rl (slD x l h)
  | .tup es, ε => rb (keepsD Φ es ε) fun ds => if ds.length ≤ 1000 then rp (.sh (.tup ds)) else none
  | .lst es, ε => rb (keepsD Φ es ε) fun ds => if ds.length ≤ 1000 then rp (.fr 1 (.lst ds)) else none
  | .call f es, ε => rb (argsD Φ es ε) fun as => Φ.call f as
  | .bi b es, ε => rb (argsD Φ es ε) fun as => rl (biD b as)
  | .isi t a, ε => rb (evalD Φ a ε) fun x => rb (rl (isiD t x.d)) fun r => rp (.sh (.bl r))
  | .lrg a, ε => rb (evalD Φ a ε) fun x => rb (rl (asI x.d)) fun n => if 0 ≤ n ∧ n ≤ 100000 then rp (.fr 1 (.lst (rangeD 0 n))) else none
  | .lc tg it cs e own, ε => rb (iterD Φ it ε) fun xs => if xs.length ≤ 100000 then
      rl ((lcGo (fun x => (bindT tg x (wipeE ε own)).bind fun ε2 => (okO (testsD Φ cs ε2)).bind fun t =>
        if t = true then (okO (evalD Φ e ε2)).bind fun r => r.keep.map some else some none) xs).map fun ys => .fr 1 (.lst ys)) else none
  | .fld al a f, ε => rb (evalD Φ a ε) fun x => rl (fldD al x f)
  | .mth m a es, ε => rb (evalD Φ a ε) fun x => rb (rl (methD Φ m x)) fun fx => rb (argsD Φ es ε) fun as => Φ.call fx.1 (fx.2 :: as)
  | .isc al c a, ε => rb (evalD Φ a ε) fun x => rb (rl (iscD al c x.d)) fun r => rp (.sh (.bl r))
  | .oeq a b, ε => rb (evalD Φ a ε) fun x => rb (rl (methD Φ "__eq__" x)) fun fx => rb (evalD Φ b ε) fun y => rb (rl y.argd) fun y' => if eqT x.d y.d = true then rb (rl ((okO (Φ.call fx.1 [fx.2, y'])).bind blV)) fun t => rp (.sh (.bl t)) else none
  | .oad a b, ε => rb (evalD Φ a ε) fun x => rb (rl (methD Φ "__add__" x)) fun fx => rb (evalD Φ b ε) fun y => rb (rl y.argd) fun y' => if adT x.d y.d = true then rl ((okO (Φ.call fx.1 [fx.2, y'])).bind obV) else none
  | .cll a es, ε => rb (evalD Φ a ε) fun x => rb (rl (methD Φ "__call__" x)) fun fx => rb (argsD Φ es ε) fun as => Φ.call fx.1 (fx.2 :: as)
  | .lio al f a, ε => rb (evalD Φ a ε) fun x => rl (lioD al x f)
  | .fnd a b, ε => rb (evalD Φ a ε) fun x => if isStr x.d = true then rb (evalD Φ b ε) fun y => rl (fndD x.d y.d) else none
  | .dit a, ε => rb (evalD Φ a ε) fun x => rl (ditD x)
  | .dcp tg it cs ek ev own, ε => rb (iterD Φ it ε) fun xs => if xs.length ≤ 100000 then
      rl ((dcGo (fun x => (bindT tg x (wipeE ε own)).bind fun ε2 => (okO (testsD Φ cs ε2)).bind fun t =>
        if t = true then (okO (evalD Φ ek ε2)).bind fun kv => if isK kv.d = true then (okO (evalD Φ ev ε2)).bind fun r => r.keep.map fun d => some (kv.d, d) else none else some none) xs).map fun t => .fr 1 t) else none
  | .dgt a k d, ε => rb (evalD Φ a ε) fun x => if isDct x.d = true then rb (evalD Φ k ε) fun y => rb (evalD Φ d ε) fun z => rl (dgD x y z) else none
  | .exf i al f, ε => rl (exfD al (getS ε i) f)
  | .exi i al cs, ε => (match getS ε i with | some (.ex c' _ _) => if al.contains c' = true then rp (.sh (.bl (cs.contains c'))) else none | _ => none)
  | .lcd k tg it cs e own, ε => rb (iterD Φ it ε) fun xs => if xs.length ≤ 100000 then
      rl ((lcGo (fun x => (bindT tg x (wipeE ε own)).bind fun ε2 => (okO (testsD Φ cs ε2)).bind fun t =>
        if t = true then (okO (evalD Φ e ε2)).bind fun r => (r.keepN k).map some else some none) xs).map fun ys => .fr (k + 1) (.lst ys)) else none
  | .lstd k es, ε => rb (keepnD Φ k es ε) fun ds => if ds.length ≤ 1000 then rp (.fr (k + 1) (.lst ds)) else none
  | .dnw t, _ => rp (.fr 1 (.dct (if t = true then .t [] else .k []) []))
  | .lc2 tg it cs tg1 it1 cs1 e own own1, ε => rb (iterD Φ it ε) fun xs => if xs.length ≤ 100000 then
      rl ((catGo (fun x => (bindT tg x (wipeE ε own)).bind fun ε2 => (okO (testsD Φ cs ε2)).bind fun t => if t = true then (if shOn ε2 own = true then (okO (litD Φ it1 ε2)).bind fun ys =>
        catGo (fun y => (bindT tg1 y (wipeE ε2 own1)).bind fun ε3 => (okO (testsD Φ cs1 ε3)).bind fun t1 => if t1 = true then (okO (evalD Φ e ε3)).bind fun r => r.keep.map fun d => [d] else some []) ys else none) else some []) xs).bind fun zs => if zs.length ≤ 100000 then some (.fr 1 (.lst zs)) else none) else none
  | .sst tg it cs e own, ε => rb (iterD Φ it ε) fun xs => if xs.length ≤ 100000 then
      rl ((catGo (fun x => (bindT tg x (wipeE ε own)).bind fun ε2 => (okO (testsD Φ cs ε2)).bind fun t => if t = true then (okO (evalD Φ e ε2)).bind fun r => (asI r.d).map fun k => [k] else some []) xs).bind fun ns => if (uniqI ns).length < 64 then some (.fr 1 (.lst ((sortI (uniqI ns)).map .int))) else none) else none
  | .sst2 tg it cs tg1 it1 cs1 e own own1, ε => rb (iterD Φ it ε) fun xs => if xs.length ≤ 100000 then
      rl ((catGo (fun x => (bindT tg x (wipeE ε own)).bind fun ε2 => (okO (testsD Φ cs ε2)).bind fun t => if t = true then (if shOn ε2 own = true then (okO (litD Φ it1 ε2)).bind fun ys =>
        catGo (fun y => (bindT tg1 y (wipeE ε2 own1)).bind fun ε3 => (okO (testsD Φ cs1 ε3)).bind fun t1 => if t1 = true then (okO (evalD Φ e ε3)).bind fun r => (asI r.d).map fun k => [k] else some []) ys else none) else some []) xs).bind fun ns => if (uniqI ns).length < 64 then some (.fr 1 (.lst ((sortI (uniqI ns)).map .int))) else none) else none
def testD (Φ : Fns) : Ep → Env → Rs Bool
  | .not a, ε => rb (testD Φ a ε) fun b => rp (!b)
  | .and a b, ε => rb (testD Φ a ε) fun t => if t = true then testD Φ b ε else rp false
  | .or a b, ε => rb (testD Φ a ε) fun t => if t = true then rp true else testD Φ b ε
  | .v i, ε => rb (rl ((getS ε i).bind Vl.use)) fun x => rl (truD x.d)
  | .c d, _ => rl (truD d)
  | .cmp op a b, ε => rb (evalD Φ a ε) fun x => rb (evalD Φ b ε) fun y => rl (cmpD op x.d y.d)
  | .chn o1 o2 a b c, ε => rb (evalD Φ a ε) fun x => rb (evalD Φ b ε) fun y => rb (rl (cmpD o1 x.d y.d)) fun t =>
      if t = true then rb (evalD Φ c ε) fun z => rl (cmpD o2 y.d z.d) else rp false
  | .ix a i, ε => rb (evalD Φ a ε) fun x => rb (evalD Φ i ε) fun y => rb (rl (ixD x y)) fun r => rl (truD r.d)
  | .call f es, ε => rb (argsD Φ es ε) fun as => rb (Φ.call f as) fun r => rl (truD r.d)
  | .bi b es, ε => rb (argsD Φ es ε) fun as => rb (rl (biD b as)) fun r => rl (truD r.d)
  | .isi t a, ε => rb (evalD Φ a ε) fun x => rl (isiD t x.d)
  | .fld al a f, ε => rb (evalD Φ a ε) fun x => rb (rl (fldD al x f)) fun r => rl (truD r.d)
  | .mth m a es, ε => rb (evalD Φ a ε) fun x => rb (rl (methD Φ m x)) fun fx => rb (argsD Φ es ε) fun as => rb (Φ.call fx.1 (fx.2 :: as)) fun r => rl (truD r.d)
  | .isc al c a, ε => rb (evalD Φ a ε) fun x => rl (iscD al c x.d)
  | .oeq a b, ε => rb (evalD Φ a ε) fun x => rb (rl (methD Φ "__eq__" x)) fun fx => rb (evalD Φ b ε) fun y => rb (rl y.argd) fun y' => if eqT x.d y.d = true then rl ((okO (Φ.call fx.1 [fx.2, y'])).bind blV) else none
  | .exi i al cs, ε => (match getS ε i with | some (.ex c' _ _) => if al.contains c' = true then rp (cs.contains c') else none | _ => none)
  | _, _ => none
def testsD (Φ : Fns) : Eps → Env → Rs Bool
  | .nil, _ => rp true
  | .cons c cs, ε => rb (testD Φ c ε) fun t => if t = true then testsD Φ cs ε else rp false
def keepsD (Φ : Fns) : Eps → Env → Rs (List D)
  | .nil, _ => rp []
  | .cons e es, ε => rb (evalD Φ e ε) fun r => rb (rl r.keep) fun d => rb (keepsD Φ es ε) fun ds => rp (d :: ds)
def keepnD (Φ : Fns) (k : Nat) : Eps → Env → Rs (List D)
  | .nil, _ => rp []
  | .cons e es, ε => rb (evalD Φ e ε) fun r => rb (rl (r.keepN k)) fun d => rb (keepnD Φ k es ε) fun ds => rp (d :: ds)
def argsD (Φ : Fns) : Eps → Env → Rs (List Vl)
  | .nil, _ => rp []
  | .cons e es, ε => rb (evalD Φ e ε) fun r => rb (rl r.argd) fun a => rb (argsD Φ es ε) fun as => rp (a :: as)
def partD (Φ : Fns) : Epo → Env → Rs (Option Int)
  | .no, _ => rp none
  | .so e, ε => rb (evalD Φ e ε) fun x => rb (rl (asI x.d)) fun i => rp (some i)
def iterD (Φ : Fns) : Epi → Env → Rs (List Vl)
  | .over e, ε => rb (evalD Φ e ε) fun x => rl (itemsD x)
  | .r1 a, ε => rb (evalD Φ a ε) fun x => rb (rl (asI x.d)) fun n => if smallI n = true then rp ((rangeD 0 n).map .sh) else none
  | .r2 a b, ε => rb (evalD Φ a ε) fun x => rb (evalD Φ b ε) fun y => rb (rl (asI x.d)) fun l => rb (rl (asI y.d)) fun n => if smallI l = true ∧ smallI n = true then rp ((rangeD l n).map .sh) else none
  | .r3 es, ε => rb (argsD Φ es ε) fun as => rl (rg3D as)
  | .enum e, ε => rb (evalD Φ e ε) fun x => rb (rl (seqD x)) fun xs => rp ((enumV xs).map .sh)
  | .rev e, ε => rb (evalD Φ e ε) fun x => rb (rl (lowD x)) fun xs => rp (xs.reverse.map .sh)
/-- what a for walks -/
def litD (Φ : Fns) : Epi → Env → Rs (List Vl)
  | .over e, ε => rb (rb (evalD Φ e ε) fun x => rl (stillV x)) fun x => rl (itemsD x)
  | .r1 a, ε => rb (evalD Φ a ε) fun x => rb (rl (asI x.d)) fun n => if smallI n = true then rp ((rangeD 0 n).map .sh) else none
  | .r2 a b, ε => rb (evalD Φ a ε) fun x => rb (evalD Φ b ε) fun y => rb (rl (asI x.d)) fun l => rb (rl (asI y.d)) fun n => if smallI l = true ∧ smallI n = true then rp ((rangeD l n).map .sh) else none
  | .r3 es, ε => rb (argsD Φ es ε) fun as => rl (rg3D as)
  | .enum e, ε => rb (rb (evalD Φ e ε) fun x => rl (stillV x)) fun x => rb (rl (seqD x)) fun xs => rp ((enumV xs).map .sh)
  | .rev e, ε => rb (rb (evalD Φ e ε) fun x => rl (stillV x)) fun x => rb (rl (lowD x)) fun xs => rp (xs.reverse.map .sh)
end
def loopE (Φ : Fns) (e : Ep) (ε : Env) : Rs Vl := rb (evalD Φ e ε) fun x => rl (stillV x)
def loopD (Φ : Fns) (it : Epi) (ε : Env) : Rs (List Vl) :=
  match it with
  | .over e => rb (loopE Φ e ε) fun x => rl (itemsD x)
  | .enum e => rb (loopE Φ e ε) fun x => rb (rl (seqD x)) fun xs => rp ((enumV xs).map .sh)
  | .rev e => rb (loopE Φ e ε) fun x => rb (rl (lowD x)) fun xs => rp (xs.reverse.map .sh)
  | it => iterD Φ it ε
theorem lit_loop (Φ : Fns) (it : Epi) (ε : Env) : litD Φ it ε = loopD Φ it ε := by cases it <;> simp only [litD, loopD, loopE, iterD]
inductive O where
  | nx (ε : Env) | rt (r : Vl) | bk (ε : Env) | ct (ε : Env) | er (c : Nat) (ns : List Str) (ds : List D) (ε : Env)
/-- from an expression's result to a statement's -/
def ob {α : Type} (ε : Env) (o : Rs α) (f : α → Option O) : Option O :=
  match o with
  | some (.ok a) => f a
  | some (.er c ns ds) => some (.er c ns ds ε)
  | none => none
def forD (tg : Tg) (f : Env → Option O) : List Vl → Env → Option O
  | [], ε => some (.nx ε)
  | x :: xs, ε => (bindT tg x ε).bind fun ε2 => (f ε2).bind fun
    | .nx ε3 => forD tg f xs ε3
    | .ct ε3 => forD tg f xs ε3
    | .bk ε3 => some (.nx ε3)
    | o => some o
def whlD (c : Env → Rs Bool) (f : Env → Option O) : Nat → Env → Option O
  | 0, _ => none
  | n + 1, ε => ob ε (c ε) fun t => if t = true then (f ε).bind fun
      | .nx ε3 => whlD c f n ε3
      | .ct ε3 => whlD c f n ε3
      | .bk ε3 => some (.nx ε3)
      | o => some o
    else some (.nx ε)
def whlFuel : Nat := 1000000
/-- a part of one's own list goes to a slot of its own; the list is used no more -/
def movD (ε : Env) (k i : Nat) (j : Int) : Option Env := match getS ε i with
  | some (.fr (n + 2) (.lst ds)) => if k ≠ i then (atI ds j).map fun d => (ε.set i none).set k (some (.fr (n + 1) d)) else none
  | _ => none
def frz (ε : Env) (i : Nat) : Env := match getS ε i with | some (.fr _ d) => ε.set i (some (.sh d)) | _ => ε
/-- the list that a slot owns -/
def ownL (ε : Env) (i : Nat) : Option (List D) := match getS ε i with | some (.fr n (.lst xs)) => if n = 1 ∧ noUs ε = true then some xs else none | _ => none
/-- a dict that a slot owns -/
def isDc (ε : Env) (i : Nat) : Bool := match getS ε i with | some (.fr _ (.dct _ _)) => true | _ => false
def ownD (ε : Env) (i : Nat) : Option (Ky × List D) := match getS ε i with | some (.fr n (.dct ks xs)) => if n = 1 ∧ noUs ε = true then some (ks, xs) else none | _ => none
def ixsD (Φ : Fns) : Eps → Env → Rs (List Int)
  | .nil, _ => rp []
  | .cons e es, ε => rb (evalD Φ e ε) fun x => rb (rl (asI x.d)) fun i => rb (ixsD Φ es ε) fun is => rp (i :: is)
/-- the data with d put at a path -/
def setAt : List Int → Int → D → D → Option D
  | [], k, d, .lst xs => (ixN xs.length k).map fun m => .lst (xs.set m d)
  | i :: is, k, d, .lst xs => (ixN xs.length i).bind fun m => (xs[m]?).bind fun y => (setAt is k d y).map fun y' => .lst (xs.set m y')
  | _, _, _, _ => none
def putD (ε : Env) (i : Nat) (is : List Int) (k : Int) (d : D) : Option Env := match getS ε i with
  | some (.fr n t) => if n = is.length + 1 ∧ noUs ε = true then (setAt is k d t).map fun t' => ε.set i (some (.fr n t')) else none
  | _ => none
def putL (ε : Env) (i : Nat) (xs : List D) : Env := ε.set i (some (.fr 1 (.lst xs)))
def popD (xs : List D) : Option Int → Option (D × List D)
  | none => (xs[xs.length - 1]?).map fun y => (y, xs.dropLast)
  | some i => if smallI i = true then (ixN xs.length i).bind fun k => (xs[k]?).map fun y => (y, xs.eraseIdx k) else none
def retD : Vl → Option Vl
  | .sh d => some (.sh d)
  | .fr n d => some (.fr n d)
  | _ => none
def newD (ε : Env) (i : Nat) : Option (Nat × List Str × List D) := match getS ε i with | some (.no c ns ds) => if noUs ε = true then some (c, ns, ds) else none | _ => none
/-- no slot holds an error or a new object -/
def noEx : Env → Bool
  | [] => true
  | some (.ex _ _ _) :: _ => false
  | some (.no _ _ _) :: _ => false
  | _ :: r => noEx r
/-- the end of an except suite: its name is gone -/
def exitT (i : Nat) : O → Option O
  | .nx ε => if noEx (ε.set i none) = true then some (.nx (ε.set i none)) else none
  | .bk ε => if noEx (ε.set i none) = true then some (.bk (ε.set i none)) else none
  | .ct ε => if noEx (ε.set i none) = true then some (.ct (ε.set i none)) else none
  | .rt r => some (.rt r)
  | .er _ _ _ _ => none
mutual
def execD (Φ : Fns) : Sm → Env → Option O
  | .asg tg e, ε => ob ε (evalD Φ e ε) fun r => (bindT tg r ε).map .nx
  | .app i e, ε => (ownL ε i).bind fun xs => ob ε (evalD Φ e ε) fun r => r.keep.bind fun d => if xs.length < 100000 then some (.nx (putL ε i (xs ++ [d]))) else none
  | .setx i j e, ε => if isDc ε i = true then ob ε (evalD Φ e ε) fun r => r.keep.bind fun d => (ownD ε i).bind fun kx => (okO (evalD Φ j ε)).bind fun x => (putDc kx.1 kx.2 x.d d).map fun t => .nx (ε.set i (some (.fr 1 t))) else ob ε (evalD Φ e ε) fun r => r.keep.bind fun d => (ownL ε i).bind fun xs => ob ε (evalD Φ j ε) fun x => (asI x.d).bind fun k => (ixN xs.length k).map fun n => .nx (putL ε i (xs.set n d))
  | .ins i j e, ε => (ownL ε i).bind fun xs => ob ε (evalD Φ j ε) fun x => ob ε (evalD Φ e ε) fun r => r.keep.bind fun d => (asI x.d).bind fun k => if xs.length < 100000 ∧ 0 ≤ k ∧ k < 2 ^ 62 then some (.nx (putL ε i (xs.take k.toNat ++ d :: xs.drop k.toNat))) else none
  | .popT tg i a, ε => (ownL ε i).bind fun xs => ob ε (partD Φ a ε) fun k => (popD xs k).bind fun (y, r) => (bindT tg (.sh y) (putL ε i r)).map .nx
  | .appPop i j a, ε => if i = j then none else (ownL ε i).bind fun ys => (ownL ε j).bind fun xs => ob ε (partD Φ a ε) fun k => (popD xs k).bind fun (y, r) => if ys.length < 100000 then some (.nx (putL (putL ε j r) i (ys ++ [y]))) else none
  | .ret e, ε => ob ε (evalD Φ e ε) fun r => (retD r).map .rt
  | .retV i, ε => (getS ε i).bind fun r => (retD r).map .rt
  | .ifs c a b, ε => ob ε (testD Φ c ε) fun t => if t = true then execsD Φ a ε else execsD Φ b ε
  | .frs tg it b, ε => ob ε (loopD Φ it ε) fun xs => forD tg (fun ε2 => execsD Φ b ε2) xs ε
  | .whl c b, ε => whlD (fun ε2 => testD Φ c ε2) (fun ε2 => execsD Φ b ε2) whlFuel ε
  | .brk, ε => some (.bk ε)
  | .cnt, ε => some (.ct ε)
  | .pas, ε => some (.nx ε)
  | .fz i, ε => some (.nx (frz ε i))
  | .exp e, ε => ob ε (evalD Φ e ε) fun _ => some (.nx ε)
  | .rse f es, ε => ob ε (argsD Φ es ε) fun as => ob ε (Φ.call f as) fun _ => none
  | .tre b cs i s, ε => (execsD Φ b ε).bind fun
    | .er c' ns ds ε2 => if cs.contains c' = true ∧ noEx ε2 = true then (execsD Φ s (ε2.set i (some (.ex c' ns ds)))).bind (exitT i) else none
    | o => some o
  | .sfl al i f e, ε => ob ε (evalD Φ e ε) fun r => r.keep.bind fun d => (newD ε i).bind fun (c, ns, ds) => if al.contains c = false ∨ ns.contains f = true ∨ 1000 ≤ ns.length then none else some (.nx (ε.set i (some (.no c (ns ++ [f]) (ds ++ [d])))))
  | .setp i js j e, ε => ob ε (evalD Φ e ε) fun r => r.keep.bind fun d => (okO (ixsD Φ js ε)).bind fun is => (okO (evalD Φ j ε)).bind fun x => (asI x.d).bind fun k => (putD ε i is.reverse k d).map .nx
  | .ku, ε => some (.nx (dropU ε))
  | .mov k i j, ε => (movD ε k i j).map .nx
  | .rse0 c, ε => some (.er c [] [] ε)
def execsD (Φ : Fns) : Sms → Env → Option O
  | .nil, ε => some (.nx ε)
  | .cons s ss, ε => (execD Φ s ε).bind fun
    | .nx ε2 => execsD Φ ss ε2
    | o => some o
end
/-- a def: how many parameters, how many names, its body; an __init__; an error's __init__ -/
inductive Df where
  | fn (np nn : Nat) (body : Sms)
  | ini (c np nn : Nat) (body : Sms)
  | err (c np : Nat) (fs : List (Str × Nat))
/-- the attributes that an error's __init__ stores: the last one first -/
def putE (ds : List (Option D)) : List (Str × Nat) → List Str → List D → Option (List Str × List D)
  | [], ns, xs => some (ns, xs)
  | (f, i) :: r, ns, xs => (ds[i]?).join.bind fun d => putE ds r (f :: ns) (d :: xs)
def runD (Φ : Fns) (d : Df) (as : List Vl) : Rs Vl :=
  match d with
  | .fn np nn body => if as.length = np then (execsD Φ body (as.map some ++ List.replicate (nn - as.length) none)).bind fun
      | .rt r => rl (retD r)
      | .nx _ => rp (.sh .non)
      | .er c ns ds _ => some (.er c ns ds)
      | _ => none
    else none
  | .ini c np nn body => if as.length + 1 = np then (execsD Φ body (some (.no c [] []) :: as.map some ++ List.replicate (nn - (as.length + 1)) none)).bind fun
      | .nx ε => rb (rl (newD ε 0)) fun (c, ns, ds) => rp (.sh (.obj c ns ds))
      | .er c ns ds _ => some (.er c ns ds)
      | _ => none
    else none
  | .err c np fs => if as.length + 1 = np ∧ as.length ≤ 1000 then (putE (none :: as.map Vl.keep) fs [] []).map fun p => .er c p.1 p.2 else none
def callD (T : List Df) (μ : Nat → Str → Option Nat) : Nat → Nat → List Vl → Rs Vl
  | 0, _, _ => none
  | n + 1, f, as => match T[f]? with | some d => runD ⟨callD T μ n, μ⟩ d as | none => none
end EG
namespace EG
open PySem L2

/-! ### the universal readings -/
section
variable {X : Cx} {e : Expr} {es : List Expr} {σ : L2.St} {H : Hp}
def tU (X : Cx) (e : Expr) : TE := fun σ H Q => ∀ pins s, Inv X pins σ H s → wpAny (model X.prog X.w) X.A (eval e X.env) (EP X pins σ Q) X.xe s
theorem peU : PE X e (tU X e) := ⟨fun pins s σ H Q I h => h pins s I⟩
theorem tU_of {t : TE} {Q : VK} (h : PE X e t) (q : t σ H Q) : tU X e σ H Q := fun pins s I => h.run pins s σ H Q I q
def tUT (X : Cx) (e : Expr) : TT := fun σ H Q => ∀ pins s, Inv X pins σ H s → wpAny (model X.prog X.w) X.A (isTrue e X.env (eval e X.env)) (TP X pins σ Q) X.xe s
theorem ptU : PT X e (tUT X e) := ⟨fun pins s σ H Q I h => h pins s I⟩
theorem tUT_of {t : TT} {Q : Bool → Hp → Prop} (h : PT X e t) (q : t σ H Q) : tUT X e σ H Q := fun pins s I => h.run pins s σ H Q I q
def tUW (X : Cx) (e : Expr) : TT := fun σ H Q => ∀ wh pins s, Inv X pins σ H s → wpAny (model X.prog X.w) X.A (isTrue e X.env wh) (TP X pins σ Q) X.xe s
theorem pwU : PW X e (tUW X e) := ⟨fun wh pins s σ H Q I h => h wh pins s I⟩
theorem tUW_of {t : TT} {Q : Bool → Hp → Prop} (h : PW X e t) (q : t σ H Q) : tUW X e σ H Q := fun wh pins s I => h.run wh pins s σ H Q I q
def tUA (X : Cx) (es : List Expr) : TA := fun σ H Q => ∀ pos pins s, Inv X pins σ H s → wpAny (model X.prog X.w) X.A (spliced (backTo pos (starEach es X.env))) (AP X pins σ Q) X.xe s
theorem paU : PA X es (tUA X es) := ⟨fun pos pins s σ H Q I h => h pos pins s I⟩
theorem tUA_of {t : TA} {Q : List V → Hp → Prop} (h : PA X es t) (q : t σ H Q) : tUA X es σ H Q := fun pos pins s I => h.run pos pins s σ H Q I q
def tUI (X : Cx) (tg e : Expr) : TI := fun σ H R => ∀ pins s, Inv X pins σ H s → wpAny (model X.prog X.w) X.A (eval e X.env) (fun v s1 => wpAny (model X.prog X.w) X.A (pyIter v) (PIE X pins σ tg R) X.xe s1) X.xe s
theorem piU {tg : Expr} : PI X tg e (tUI X tg e) := ⟨fun pins s σ H R I h => h pins s I⟩
theorem tUI_of {tg : Expr} {t : TI} {R : L2.It → Hp → Prop} (h : PI X tg e t) (q : t σ H R) : tUI X tg e σ H R := fun pins s I => h.run pins s σ H R I q
end

/-! ### contexts, and what is shown of an expression -/
structure Ctx where
  X : Cx
  G : Gt
  W : WX
  xp : Xp
  Φ : Fns
/-- what an error's raising is let to be -/
def ErOk (C : Ctx) (Hi H : Hp) (σ : L2.St) (c : Nat) (ns : List Str) (ds : List D) : Prop := ∀ Hi' H' cls d, Step Hi H Hi' H' → ExOk C.G Hi' c ns ds cls d → C.W cls d σ H'
def GoodV (C : Ctx) (H0 Hi H : Hp) (σ : L2.St) (Q : VK) : Rz Vl → Prop
  | .ok r => ∀ Hi' H' x, Step Hi H Hi' H' → VlOk C.G H0 H Hi' H' r x → Q x H'
  | .er c ns ds => ErOk C Hi H σ c ns ds
def GoodT (C : Ctx) (Hi H : Hp) (σ : L2.St) {α : Type} (Q : α → Hp → Prop) : Rz α → Prop
  | .ok b => ∀ Hi' H', Step Hi H Hi' H' → Q b H'
  | .er c ns ds => ErOk C Hi H σ c ns ds
def ArgOk (G : Gt) (Hi H : Hp) : Vl → V → Prop
  | .sh d, x => Rep G Hi d x
  | .bo n d, x => Bor G Hi H n d x
  | _, _ => False
def ArgsOk (G : Gt) (Hi H : Hp) : List Vl → List V → Prop
  | [], xs => xs = []
  | r :: rs, xs => ∃ x ys, xs = x :: ys ∧ ArgOk G Hi H r x ∧ ArgsOk G Hi H rs ys
def GoodA (C : Ctx) (Hi H : Hp) (σ : L2.St) (Q : List V → Hp → Prop) : Rz (List Vl) → Prop
  | .ok rs => ∀ Hi' H' xs, Step Hi H Hi' H' → ArgsOk C.G Hi' H' rs xs → Q xs H'
  | .er c ns ds => ErOk C Hi H σ c ns ds
def GoodK (C : Ctx) (Hi H : Hp) (σ : L2.St) (Q : List V → Hp → Prop) : Rz (List D) → Prop
  | .ok ds => ∀ Hi' H' xs, Step Hi H Hi' H' → RepL C.G Hi' ds xs → Q xs H'
  | .er c ns ds => ErOk C Hi H σ c ns ds
def RE (C : Ctx) (pe : Expr) (e : Ep) : Prop := ∀ ε o, evalD C.Φ e ε = some o → ∀ Hi0 H0 Hi H σ (Q : VK), EnvOk C.G C.xp Hi0 H0 Hi H σ ε → GoodV C H0 Hi H σ Q o → tU C.X pe σ H Q
def RT (C : Ctx) (pe : Expr) (e : Ep) : Prop := ∀ ε o, testD C.Φ e ε = some o → ∀ Hi0 H0 Hi H σ (Q : Bool → Hp → Prop), EnvOk C.G C.xp Hi0 H0 Hi H σ ε → GoodT C Hi H σ Q o → tUT C.X pe σ H Q
def RW (C : Ctx) (pe : Expr) (e : Ep) : Prop := ∀ ε o, testD C.Φ e ε = some o → ∀ Hi0 H0 Hi H σ (Q : Bool → Hp → Prop), EnvOk C.G C.xp Hi0 H0 Hi H σ ε → GoodT C Hi H σ Q o → tUW C.X pe σ H Q
def RA (C : Ctx) (pes : List Expr) (es : Eps) : Prop := ∀ ε o, argsD C.Φ es ε = some o → ∀ Hi0 H0 Hi H σ (Q : List V → Hp → Prop), EnvOk C.G C.xp Hi0 H0 Hi H σ ε → GoodA C Hi H σ Q o → tUA C.X pes σ H Q
def RK (C : Ctx) (pes : List Expr) (es : Eps) : Prop := ∀ ε o, keepsD C.Φ es ε = some o → ∀ Hi0 H0 Hi H σ (Q : List V → Hp → Prop), EnvOk C.G C.xp Hi0 H0 Hi H σ ε → GoodK C Hi H σ Q o → tUA C.X pes σ H Q
section
variable {C : Ctx} {H0 Hi H Hi1 H1 : Hp} {σ : L2.St}
theorem ErOk.step (s : Step Hi H Hi1 H1) {c : Nat} {ns : List Str} {ds : List D} (h : ErOk C Hi H σ c ns ds) : ErOk C Hi1 H1 σ c ns ds := fun Hi' H' cls d s2 e => h Hi' H' cls d (s.trans s2) e
theorem GoodV.step (s : Step Hi H Hi1 H1) {Q : VK} {o : Rz Vl} (h : GoodV C H0 Hi H σ Q o) : GoodV C H0 Hi1 H1 σ Q o := by
  cases o with
  | ok r => exact fun Hi' H' x s2 o2 => h Hi' H' x (s.trans s2) (o2.back s.h)
  | er c ns ds => exact ErOk.step s h
theorem GoodT.step (s : Step Hi H Hi1 H1) {α : Type} {Q : α → Hp → Prop} {o : Rz α} (h : GoodT C Hi H σ Q o) : GoodT C Hi1 H1 σ Q o := by
  cases o with
  | ok r => exact fun Hi' H' s2 => h Hi' H' (s.trans s2)
  | er c ns ds => exact ErOk.step s h
theorem GoodA.step (s : Step Hi H Hi1 H1) {Q : List V → Hp → Prop} {o : Rz (List Vl)} (h : GoodA C Hi H σ Q o) : GoodA C Hi1 H1 σ Q o := by
  cases o with
  | ok r => exact fun Hi' H' x s2 o2 => h Hi' H' x (s.trans s2) o2
  | er c ns ds => exact ErOk.step s h
theorem GoodK.step (s : Step Hi H Hi1 H1) {Q : List V → Hp → Prop} {o : Rz (List D)} (h : GoodK C Hi H σ Q o) : GoodK C Hi1 H1 σ Q o := by
  cases o with
  | ok r => exact fun Hi' H' x s2 o2 => h Hi' H' x (s.trans s2) o2
  | er c ns ds => exact ErOk.step s h
theorem rb_some {α β : Type} {o : Rs α} {f : α → Rs β} {r : Rz β} (h : rb o f = some r) : (∃ c ns ds, o = some (.er c ns ds) ∧ r = .er c ns ds) ∨ ∃ a, o = some (.ok a) ∧ f a = some r := by
  match o, h with
  | some (.ok a), h => exact .inr ⟨a, rfl, h⟩
  | some (.er c ns ds), h => cases h; exact .inl ⟨c, ns, ds, rfl, rfl⟩
theorem rl_some {α : Type} {o : Option α} {r : Rz α} (h : rl o = some r) : ∃ a, o = some a ∧ r = .ok a := by
  unfold rl at h
  cases o with
  | none => cases h
  | some a => cases h; exact ⟨a, rfl, rfl⟩
theorem rp_some {α : Type} {a : α} {r : Rz α} (h : rp a = some r) : r = .ok a := by cases h; rfl
/-- behind a pure step -/
theorem rbl_some {α β : Type} {o : Option α} {f : α → Rs β} {r : Rz β} (h : rb (rl o) f = some r) : ∃ a, o = some a ∧ f a = some r := by
  cases o with
  | none => cases h
  | some a => exact ⟨a, rfl, h⟩
end
section
variable {C : Ctx} {pe pa pb pc : Expr} {a b c : Ep} {pos : Pos}
/-- the parts' errors are the whole's -/
theorem un1 (ha : RE C pa a) {ε : Env} {α : Type} {f : Vl → Rs α} {o : Rz α} (h : rb (evalD C.Φ a ε) f = some o) {Hi0 H0 Hi H : Hp} {σ : L2.St} {R : VK} (I : EnvOk C.G C.xp Hi0 H0 Hi H σ ε)
    (ke : ∀ c ns ds, o = .er c ns ds → ErOk C Hi H σ c ns ds) (k : ∀ x, f x = some o → ∀ Hi1 H1 u, Step Hi H Hi1 H1 → EnvOk C.G C.xp Hi0 H0 Hi1 H1 σ ε → Ex H0 H1 → VlOk C.G H0 H Hi1 H1 x u → R u H1) : tU C.X pa σ H R := by
  rcases rb_some h with ⟨c, ns, ds, h1, h2⟩ | ⟨x, h1, h2⟩
  · exact ha ε _ h1 Hi0 H0 Hi H σ R I (ke c ns ds h2)
  · exact ha ε _ h1 Hi0 H0 Hi H σ R I fun Hi1 H1 u s1 o1 => k x h2 Hi1 H1 u s1 (I.step s1) (I.st.h.trans s1.h) o1
theorem unT (ha : RT C pa a) {ε : Env} {α : Type} {f : Bool → Rs α} {o : Rz α} (h : rb (testD C.Φ a ε) f = some o) {Hi0 H0 Hi H : Hp} {σ : L2.St} {R : Bool → Hp → Prop} (I : EnvOk C.G C.xp Hi0 H0 Hi H σ ε)
    (ke : ∀ c ns ds, o = .er c ns ds → ErOk C Hi H σ c ns ds) (k : ∀ x, f x = some o → ∀ Hi1 H1, Step Hi H Hi1 H1 → EnvOk C.G C.xp Hi0 H0 Hi1 H1 σ ε → R x H1) : tUT C.X pa σ H R := by
  rcases rb_some h with ⟨c, ns, ds, h1, h2⟩ | ⟨x, h1, h2⟩
  · exact ha ε _ h1 Hi0 H0 Hi H σ R I (ke c ns ds h2)
  · exact ha ε _ h1 Hi0 H0 Hi H σ R I fun Hi1 H1 s1 => k x h2 Hi1 H1 s1 (I.step s1)
theorem unA {pes : List Expr} {es : Eps} (ha : RA C pes es) {ε : Env} {α : Type} {f : List Vl → Rs α} {o : Rz α} (h : rb (argsD C.Φ es ε) f = some o) {Hi0 H0 Hi H : Hp} {σ : L2.St} {R : List V → Hp → Prop} (I : EnvOk C.G C.xp Hi0 H0 Hi H σ ε)
    (ke : ∀ c ns ds, o = .er c ns ds → ErOk C Hi H σ c ns ds) (k : ∀ rs, f rs = some o → ∀ Hi1 H1 xs, Step Hi H Hi1 H1 → EnvOk C.G C.xp Hi0 H0 Hi1 H1 σ ε → ArgsOk C.G Hi1 H1 rs xs → R xs H1) : tUA C.X pes σ H R := by
  rcases rb_some h with ⟨c, ns, ds, h1, h2⟩ | ⟨x, h1, h2⟩
  · exact ha ε _ h1 Hi0 H0 Hi H σ R I (ke c ns ds h2)
  · exact ha ε _ h1 Hi0 H0 Hi H σ R I fun Hi1 H1 xs s1 o1 => k x h2 Hi1 H1 xs s1 (I.step s1) o1
theorem unK {pes : List Expr} {es : Eps} (ha : RK C pes es) {ε : Env} {α : Type} {f : List D → Rs α} {o : Rz α} (h : rb (keepsD C.Φ es ε) f = some o) {Hi0 H0 Hi H : Hp} {σ : L2.St} {R : List V → Hp → Prop} (I : EnvOk C.G C.xp Hi0 H0 Hi H σ ε)
    (ke : ∀ c ns ds, o = .er c ns ds → ErOk C Hi H σ c ns ds) (k : ∀ rs, f rs = some o → ∀ Hi1 H1 xs, Step Hi H Hi1 H1 → EnvOk C.G C.xp Hi0 H0 Hi1 H1 σ ε → RepL C.G Hi1 rs xs → R xs H1) : tUA C.X pes σ H R := by
  rcases rb_some h with ⟨c, ns, ds, h1, h2⟩ | ⟨x, h1, h2⟩
  · exact ha ε _ h1 Hi0 H0 Hi H σ R I (ke c ns ds h2)
  · exact ha ε _ h1 Hi0 H0 Hi H σ R I fun Hi1 H1 xs s1 o1 => k x h2 Hi1 H1 xs s1 (I.step s1) o1
theorem erV {H0 Hi H : Hp} {σ : L2.St} {Q : VK} {o : Rz Vl} (h : GoodV C H0 Hi H σ Q o) : ∀ c ns ds, o = .er c ns ds → ErOk C Hi H σ c ns ds := fun c ns ds z => by subst z; exact h
theorem erT {Hi H : Hp} {σ : L2.St} {α : Type} {Q : α → Hp → Prop} {o : Rz α} (h : GoodT C Hi H σ Q o) : ∀ c ns ds, o = .er c ns ds → ErOk C Hi H σ c ns ds := fun c ns ds z => by subst z; exact h
theorem erA {Hi H : Hp} {σ : L2.St} {Q : List V → Hp → Prop} {o : Rz (List Vl)} (h : GoodA C Hi H σ Q o) : ∀ c ns ds, o = .er c ns ds → ErOk C Hi H σ c ns ds := fun c ns ds z => by subst z; exact h
theorem erK {Hi H : Hp} {σ : L2.St} {Q : List V → Hp → Prop} {o : Rz (List D)} (h : GoodK C Hi H σ Q o) : ∀ c ns ds, o = .er c ns ds → ErOk C Hi H σ c ns ds := fun c ns ds z => by subst z; exact h
theorem erStep {Hi H Hi1 H1 : Hp} {σ : L2.St} {α : Type} {o : Rz α} (s : Step Hi H Hi1 H1) (h : ∀ c ns ds, o = .er c ns ds → ErOk C Hi H σ c ns ds) : ∀ c ns ds, o = .er c ns ds → ErOk C Hi1 H1 σ c ns ds := fun c ns ds z => (h c ns ds z).step s
/-! names and constants -/
theorem getS_some {ε : Env} {i : Nat} {r : Vl} (h : getS ε i = some r) : ε[i]? = some (some r) := by
  unfold getS at h
  cases q : ε[i]? with
  | none => rw [q] at h; cases h
  | some o => rw [q] at h; cases o with
    | none => cases h
    | some v => cases h; rfl
theorem EnvOk.at {G : Gt} {xp : Xp} {Hi0 H0 Hi H : Hp} {σ : L2.St} {ε : Env} (I : EnvOk G xp Hi0 H0 Hi H σ ε) {i : Nat} {r : Vl} (h : getS ε i = some r) : ∃ v fp, σ[i]? = some v ∧ SlOk G xp H0 Hi H fp (some r) v := by
  have h1 := getS_some h
  have hl : i < ε.length := (List.getElem?_eq_some_iff.mp h1).1
  have hs : i < σ.length := by rw [I.len]; exact hl
  obtain ⟨F, f1, _, _⟩ := I.sl
  exact ⟨σ[i], F i, List.getElem?_eq_getElem hs, f1 i _ _ h1 (List.getElem?_eq_getElem hs)⟩
theorem EnvOk.var {G : Gt} {xp : Xp} {Hi0 H0 Hi H : Hp} {σ : L2.St} {ε : Env} (I : EnvOk G xp Hi0 H0 Hi H σ ε) {i : Nat} {r q : Vl} (h : getS ε i = some r) (hq : r.use = some q) : ∃ x, σ[i]? = some (some x) ∧ VlOk G H0 H Hi H q x := by
  obtain ⟨v, fp, h1, h2⟩ := I.at h
  match r, h2, hq with
  | .sh d, ⟨_, x, e, h3⟩, hq => cases hq; subst e; exact ⟨x, h1, h3⟩
  | .fr n d, ⟨x, e, h3, _, _⟩, hq => cases hq; subst e; exact ⟨x, h1, Own.bor I.st.s n d x fp h3⟩
  | .bo n d, ⟨_, x, e, h3⟩, hq => cases hq; subst e; exact ⟨x, h1, h3⟩
  | .us n d, ⟨_, x, e, h3⟩, hq => cases hq; subst e; exact ⟨x, h1, h3⟩
  | .no c ns ds, ⟨p, dx, vs, e, _, _, h4, _, h6, h7, _⟩, hq =>
    cases hq; subst e
    exact ⟨_, h1, p, dx, vs, rfl, h4, h6, Bors.of I.st.s 0 ds vs h7⟩
theorem r_var {i : Nat} {x : Str} (hN : C.X.N[i]? = some x) (hv : Vis C.X.env.scope x) (hd : (x == ("__debug__" : Str)) = false) (hcd : (x == ("__classdict__" : Str)) = false) : RE C (.Name x pos) (.v i) := by
  intro ε o h Hi0 H0 Hi H σ Q I k
  obtain ⟨q, h1, rfl⟩ := rl_some h
  simp only [Option.bind_eq_some_iff] at h1
  obtain ⟨r, h2, h3⟩ := h1
  obtain ⟨x', h4, h5⟩ := I.var h2 h3
  exact tU_of (pe_var hN hv hd hcd) ⟨x', h4, k Hi H x' (Step.refl I.st.s) h5⟩
theorem r_const {t : V} {d : D} (h : PE C.X pe (tC t)) (hr : ∀ G H, Rep G H d t) : RE C pe (.c d) := by
  intro ε o hh Hi0 H0 Hi H σ Q I k
  cases rp_some hh
  exact tU_of h (k Hi H t (Step.refl I.st.s) (hr _ _))
/-! operators -/
theorem flat_of {G : Gt} {H0 Hb Hi H : Hp} {r : Vl} {x : V} {d : D} (s : Ex Hi H) (s0 : Ex H0 H) (h : VlOk G H0 Hb Hi H r x) (e : r.d = d) (hf : flatD d = true) : Rep G Hi d x := by
  have q := h.flat s s0 (by rw [e]; exact hf)
  rw [e] at q
  exact q
theorem int_of {G : Gt} {H0 Hb Hi H : Hp} {r : Vl} {x : V} {i : Int} (s : Ex Hi H) (s0 : Ex H0 H) (h : VlOk G H0 Hb Hi H r x) (e : r.d = .int i) : x = .int i := flat_of s s0 h e rfl
theorem bl_of {G : Gt} {H0 Hb Hi H : Hp} {r : Vl} {x : V} {i : Bool} (s : Ex Hi H) (s0 : Ex H0 H) (h : VlOk G H0 Hb Hi H r x) (e : r.d = .bl i) : x = .bl i := flat_of s s0 h e rfl
theorem str_of {G : Gt} {H0 Hb Hi H : Hp} {r : Vl} {x : V} {i : Str} (s : Ex Hi H) (s0 : Ex H0 H) (h : VlOk G H0 Hb Hi H r x) (e : r.d = .str i) : x = .str i := flat_of s s0 h e rfl
theorem non_of {G : Gt} {H0 Hb Hi H : Hp} {r : Vl} {x : V} (s : Ex Hi H) (s0 : Ex H0 H) (h : VlOk G H0 Hb Hi H r x) (e : r.d = .non) : x = .non := flat_of s s0 h e rfl
theorem asI_some {d : D} {i : Int} (h : asI d = some i) : d = .int i := by cases d <;> first | (cases h; rfl) | cases h
theorem asB_some {d : D} {i : Bool} (h : asB d = some i) : d = .bl i := by cases d <;> first | (cases h; rfl) | cases h
theorem scr_of {G : Gt} {H0 Hb Hi H : Hp} {r : Vl} {x : V} {ns : List Int} (s : Ex Hi H) (s0 : Ex H0 H) (h : VlOk G H0 Hb Hi H r x) (e : r.d = .scr ns) : ∃ a, x = .ref a ∧ SqL G.K H a (ns.map V.int) := by
  have q := h.rep s s0
  rw [e] at q
  exact q
theorem VlOk.dep {G : Gt} {H0 Hb Hi H : Hp} {r : Vl} {x : V} (s0 : Ex H0 H) (s : Ex Hi H) (h : VlOk G H0 Hb Hi H r x) : ∃ n, n ≤ r.dep ∧ Bor G Hi H n r.d x := by
  match r, h with
  | .sh d, h => exact ⟨0, Nat.zero_le _, by unfold Bor; exact h⟩
  | .fr n d, ⟨fp, h1, h2, h3⟩ => exact ⟨n, Nat.le_refl _, Own.bor s n d x fp h1⟩
  | .bo n d, h => exact ⟨n, Nat.le_refl _, Bor.mono (Evl.Ex.refl _) s0 n d x h⟩
  | .us n d, h => exact ⟨n, Nat.le_refl _, h⟩
theorem VlOk.lst2 {G : Gt} {H0 Hb Hi H : Hp} {r : Vl} {x : V} {xs : List D} (s : Ex Hi H) (s0 : Ex H0 H) (h : VlOk G H0 Hb Hi H r x) (e : r.d = .lst xs) (hd : r.dep ≤ 2) : ∃ p vs, x = .ref p ∧ H p = some (.lst vs) ∧ Bors G Hi H 1 xs vs := by
  obtain ⟨n, h1, h2⟩ := h.dep s0 s
  rw [e] at h2
  cases n with
  | zero =>
    unfold Bor at h2
    obtain ⟨p, vs, e1, e2, e3⟩ := h2
    exact ⟨p, vs, e1, s _ _ e2, Bors.of s 1 _ _ e3⟩
  | succ n =>
    obtain ⟨p, vs, e1, e2, e3⟩ := h2
    exact ⟨p, vs, e1, e2, e3.ups s 1 (by omega)⟩
/-- a two-place operation on values keeps its word -/
def OpOk (G : Gt) (rr : R2) (x y : Vl) (r : Vl) : Prop := ∀ H0 Hb Hi H u v (Q : VK), Ex Hi H → Ex H0 H → VlOk G H0 Hb Hi H x u → VlOk G H0 Hb Hi H y v → (∀ Hi' H' z, Step Hi H Hi' H' → VlOk G H0 H Hi' H' r z → Q z H') → rr u v H Q
theorem sz5 {n : Nat} (h : n ≤ 100000) : n ≤ sizeLine := Nat.le_trans h (by decide)
theorem own1 {G : Gt} {H0 Hb Hi H : Hp} {p : Addr} {vs : List V} {xs : List D} (hb : Ex Hb H) (e : Ex Hi H) (hp : H p = none) (h : RepL G Hi xs vs) : VlOk G H0 Hb Hi (upd H p (.lst vs)) (.fr 1 (.lst xs)) (.ref p) := by
  refine ⟨[p], ⟨p, vs, [], rfl, upd_same, rfl, Owns.ofZero h⟩, by simp, fun q hq => ?_⟩
  simp at hq; subst hq
  exact ⟨Evl.fresh_back e hp, Evl.fresh_back hb hp⟩
theorem mulOk_ok {i j : Int} (h : mulOk i j = true) : ∃ rr, (∀ X : Cx, OpR X (binaryOp .Mult) rr) ∧ ∀ H (Q : VK), Q (.int (i * j)) H → rr (.int i) (.int j) H Q := by
  unfold mulOk at h
  rw [Bool.or_eq_true] at h
  rcases h with h | h
  · have h := of_decide_eq_true (p := (-(2 ^ 64) < i ∧ i < 2 ^ 64) ∨ (-(2 ^ 64) < j ∧ j < 2 ^ 64)) h
    exact ⟨_, fun X => op_mul, fun H Q q => ⟨_, _, rfl, rfl, h, q⟩⟩
  · rw [Bool.and_eq_true] at h
    exact ⟨_, fun X => op_mulW, fun H Q q => ⟨_, _, rfl, rfl, wide_mul (of_decide_eq_true h.1) (of_decide_eq_true h.2) (by decide) (by decide) (by decide), q⟩⟩
theorem divOk_ok {i j : Int} (h : divOk j = true) : ∃ rr, (∀ X : Cx, OpR X (binaryOp .FloorDiv) rr) ∧ ∀ H (Q : VK), Q (.int (i / j)) H → rr (.int i) (.int j) H Q := by
  unfold divOk at h
  rw [Bool.or_eq_true] at h
  rcases h with h | h
  · have h := of_decide_eq_true h
    exact ⟨_, fun X => op_fdiv, fun H Q q => ⟨_, _, rfl, rfl, h, q⟩⟩
  · have h1 := of_decide_eq_true h
    exact ⟨_, fun X => op_fdivW, fun H Q q => ⟨_, _, rfl, rfl, wide_div h1.1 h1.2 (by decide) (by decide), q⟩⟩
theorem VlOk.shd' {G : Gt} {H0 Hb Hi H : Hp} {r : Vl} {x : V} (s : Ex Hi H) (s0 : Ex H0 H) (h : VlOk G H0 Hb Hi H r x) (e : r.shd = true) : Rep G Hi r.d x := by
  match r, h, e with
  | .sh d, h, _ => exact h
  | .fr n d, h, e => exact h.flat s s0 e
  | .bo n d, h, e => exact h.flat s s0 e
  | .us n d, h, e => exact h.flat s s0 e
theorem foldl_rep (x : Array Nat) : ∀ (n : Nat) (a : Array Nat), (List.replicate n x).foldl (· ++ ·) a = a ++ (List.replicate n x).foldl (· ++ ·) #[]
  | 0, a => by simp
  | n + 1, a => by
    simp only [List.replicate_succ, List.foldl_cons]
    rw [foldl_rep x n (a ++ x), foldl_rep x n (#[] ++ x)]
    simp [Array.append_assoc]
theorem repS_succ (x : Str) (n : Nat) : (repS x (n + 1)).cps = x.cps ++ (repS x n).cps := by
  unfold repS
  simp only [List.replicate_succ, List.foldl_cons]
  rw [foldl_rep]
  simp
theorem repS_len (x : Str) : ∀ n, (repS x n).length = n * x.length
  | 0 => by simp [repS, Str.length]
  | n + 1 => by
    have := repS_len x n
    unfold Str.length at *
    rw [repS_succ, Array.size_append, this, Nat.succ_mul, Nat.add_comm]
theorem op_repS {X : Cx} : OpR X (binaryOp .Mult) (fun x y H Q => ∃ i n, x = .str i ∧ y = .int n ∧ (n ≤ 1000 ∧ -1000 ≤ n ∧ i.length ≤ 1000) ∧ Q (.str (repS i n.toNat)) H) := by
  intro pins s σ H x y v u Q I rx ry h
  obtain ⟨i, n, rfl, rfl, ⟨h1, h2, h3⟩, q⟩ := h
  obtain ⟨t, rfl⟩ := rx
  obtain ⟨t', rfl⟩ := ry
  have hlen := repS_len i n.toNat
  have hle : n.toNat * i.length ≤ 1000 * 1000 := Nat.mul_le_mul (by omega) h3
  refine PySem.P.mul_str ?_ ?_ ?_ ?_
  · rw [decide_eq_false (by omega), decide_eq_false (by omega)]; rfl
  · intro hn _ hgt
    have : (2 ^ 63 - 1) / n ≥ 1000 := Int.le_ediv_of_mul_le (by omega) (by omega)
    omega
  · intro _ _
    have : i.length * n.toNat ≤ 1000 * 1000 := by rw [Nat.mul_comm]; exact hle
    exact decide_eq_false (p := i.length * n.toNat > sizeLine) (by rw [sizeLine_eq]; omega)
  · have keep : ∀ (y : Str) (t2 : Tok) (s' : Shared) (k : Nat), s' = { s with toks := k } → y = repS i n.toNat → EP X pins σ Q (.str y t2) s' := fun y t2 s' k e ey => by
      subst e ey
      exact ⟨.str _, H, I.tok _, ⟨_, rfl⟩, q⟩
    split
    · rename_i hn
      refine ⟨by decide, keep _ _ _ _ rfl ?_⟩
      rw [show n.toNat = 0 by omega]; rfl
    · split
      · rename_i hn hc
        refine keep _ _ _ s.toks rfl ?_
        rw [Bool.or_eq_true, beq_iff_eq, beq_iff_eq] at hc
        rcases hc with rfl | hc
        · refine Str.ext' ?_
          rw [show (1 : Int).toNat = 0 + 1 from rfl, repS_succ]
          simp [repS]
        · refine Str.ext' ?_
          have h0 : i.cps = #[] := Array.eq_empty_of_size_eq_zero hc
          have h4 : (repS i n.toNat).cps = #[] := Array.eq_empty_of_size_eq_zero (by
            have := hlen
            unfold Str.length at this hc
            rw [hc] at this; simpa using this)
          rw [h0, h4]
      · refine ⟨?_, keep _ _ _ _ rfl rfl⟩
        show (repS i n.toNat).length ≤ sizeLine
        rw [hlen, sizeLine_eq]; omega
theorem binD_ok {op : Operator} {x y r : Vl} (h : binD op x y = some r) : ∃ rr, OpR C.X (binaryOp op) rr ∧ OpOk C.G rr x y r := by
  unfold binD at h
  split at h
  · rename_i i j ex ey
    cases h
    exact ⟨_, op_add, fun _ _ Hi H u v Q e e0 h1 h2 k => ⟨_, _, int_of e e0 h1 ex, int_of e e0 h2 ey, k Hi H _ (Step.refl e) rfl⟩⟩
  · rename_i i j ex ey
    cases h
    exact ⟨_, op_sub, fun _ _ Hi H u v Q e e0 h1 h2 k => ⟨_, _, int_of e e0 h1 ex, int_of e e0 h2 ey, k Hi H _ (Step.refl e) rfl⟩⟩
  · rename_i i j ex ey
    split at h
    · rename_i hm
      cases h
      obtain ⟨rr, o1, o2⟩ := mulOk_ok hm
      exact ⟨rr, o1 _, fun _ _ Hi H u v Q e e0 h1 h2 k => by rw [int_of e e0 h1 ex, int_of e e0 h2 ey]; exact o2 H Q (k Hi H _ (Step.refl e) rfl)⟩
    · cases h
  · rename_i i j ex ey
    split at h
    · rename_i hm
      cases h
      obtain ⟨rr, o1, o2⟩ := divOk_ok (i := i) hm
      exact ⟨rr, o1 _, fun _ _ Hi H u v Q e e0 h1 h2 k => by rw [int_of e e0 h1 ex, int_of e e0 h2 ey]; exact o2 H Q (k Hi H _ (Step.refl e) rfl)⟩
    · cases h
  · rename_i i j ex ey
    split at h
    · rename_i hm
      cases h
      exact ⟨_, op_mod, fun _ _ Hi H u v Q e e0 h1 h2 k => ⟨_, _, int_of e e0 h1 ex, int_of e e0 h2 ey, hm, k Hi H _ (Step.refl e) rfl⟩⟩
    · cases h
  · rename_i i j ex ey
    split at h
    · rename_i hm
      cases h
      exact ⟨_, op_pow, fun _ _ Hi H u v Q e e0 h1 h2 k => ⟨_, _, int_of e e0 h1 ex, int_of e e0 h2 ey, hm, k Hi H _ (Step.refl e) rfl⟩⟩
    · cases h
  · rename_i xs ys ex ey
    split at h
    · rename_i hm
      split at h
      case isFalse => cases h
      case isTrue hlen =>
      cases h
      refine ⟨_, op_cat, fun _ _ Hi H u v Q e e0 h1 h2 k => ?_⟩
      obtain ⟨p, vs, e1, e2, _, e3⟩ := h1.lst e e0 ex
      obtain ⟨q, ws, f1, f2, _, f3⟩ := h2.lst e e0 ey
      have e3 := e3 hm.1
      have f3 := f3 hm.2
      refine ⟨p, q, vs, ws, e1, f1, e2, f2, sz5 (by rw [← e3.length, ← f3.length]; exact hlen), fun l hl => ?_⟩
      exact k Hi _ _ (Step.own e hl) (own1 (Evl.Ex.refl _) e hl (e3.append f3))
    · split at h
      case isFalse => cases h
      case isTrue hlen =>
      cases h
      refine ⟨_, op_cat, fun _ _ Hi H u v Q e e0 h1 h2 k => ?_⟩
      obtain ⟨p, vs, e1, e2, e3⟩ := h1.lst2 e e0 ex hlen.2.1
      obtain ⟨q, ws, f1, f2, f3⟩ := h2.lst2 e e0 ey hlen.2.2
      refine ⟨p, q, vs, ws, e1, f1, e2, f2, sz5 (by rw [← e3.length, ← f3.length]; exact hlen.1), fun l hl => ?_⟩
      exact k Hi _ _ (Step.own e hl) ⟨l, vs ++ ws, rfl, upd_same, Bors.mono (Evl.Ex.refl _) (Evl.Ex.new hl) 1 _ _ (e3.append f3)⟩
  · rename_i xs ys ex ey
    split at h
    case isFalse => cases h
    case isTrue hm =>
    cases h
    refine ⟨_, op_catA, fun _ _ Hi H u v Q e e0 h1 h2 k => ?_⟩
    obtain ⟨p, vs, rfl, e2, e3⟩ : Rep C.G Hi (.tup xs) u := by rw [← ex]; exact h1.shd' e e0 hm.1
    obtain ⟨q, ws, rfl, f2, f3⟩ : Rep C.G Hi (.tup ys) v := by rw [← ey]; exact h2.shd' e e0 hm.2.1
    refine ⟨p, q, vs, ws, rfl, rfl, .inl (.inl (e _ _ e2)), .inl (.inl (e _ _ f2)), sz5 (by rw [← e3.length, ← f3.length]; exact hm.2.2), fun z => ?_, fun _ z => ?_, fun _ _ l hl => ?_⟩
    · subst z
      have : xs = [] := List.length_eq_zero_iff.mp e3.length
      subst this
      exact k Hi H _ (Step.refl e) ⟨q, ws, rfl, f2, f3⟩
    · subst z
      have : ys = [] := List.length_eq_zero_iff.mp f3.length
      subst this
      rw [List.append_nil] at k
      exact k Hi H _ (Step.refl e) ⟨p, vs, rfl, e2, e3⟩
    · have ex2 : Ex Hi (upd Hi l (.tup (vs ++ ws))) := (Step.new e hl).i
      exact k _ _ _ (Step.new e hl) ⟨l, vs ++ ws, rfl, upd_same, (RepL.mono ex2 _ _ e3).append (RepL.mono ex2 _ _ f3)⟩
  · rename_i i j ex ey
    split at h
    · rename_i hm
      cases h
      exact ⟨_, op_add_str, fun _ _ Hi H u v Q e e0 h1 h2 k => ⟨_, _, str_of e e0 h1 ex, str_of e e0 h2 ey, sz5 hm, k Hi H _ (Step.refl e) rfl⟩⟩
    · cases h
  · rename_i i n ex ey
    split at h
    · rename_i hm
      cases h
      exact ⟨_, op_repS, fun _ _ Hi H u v Q e e0 h1 h2 k => ⟨_, _, str_of e e0 h1 ex, int_of e e0 h2 ey, hm, k Hi H _ (Step.refl e) rfl⟩⟩
    · cases h
  · cases h
/-- two in a row: an error of one of them, or both values -/
theorem two_cases {ε : Env} {α : Type} {f : Vl → Vl → Rs α} {o : Rz α} (h : rb (evalD C.Φ a ε) (fun x => rb (evalD C.Φ b ε) fun y => f x y) = some o) :
    (∃ c ns ds, o = .er c ns ds ∧ (evalD C.Φ a ε = some (.er c ns ds) ∨ ∃ x, evalD C.Φ a ε = some (.ok x) ∧ evalD C.Φ b ε = some (.er c ns ds))) ∨ ∃ x y, evalD C.Φ a ε = some (.ok x) ∧ evalD C.Φ b ε = some (.ok y) ∧ f x y = some o := by
  rcases rb_some h with ⟨c, ns, ds, h1, h2⟩ | ⟨x, h1, h2⟩
  · exact .inl ⟨c, ns, ds, h2, .inl h1⟩
  · rcases rb_some h2 with ⟨c, ns, ds, h3, h4⟩ | ⟨y, h3, h4⟩
    · exact .inl ⟨c, ns, ds, h4, .inr ⟨x, h1, h3⟩⟩
    · exact .inr ⟨x, y, h1, h3, h4⟩
theorem two_er (ha : RE C pa a) (hb : RE C pb b) {ε : Env} {c : Nat} {ns : List Str} {ds : List D} (h : evalD C.Φ a ε = some (.er c ns ds) ∨ ∃ x, evalD C.Φ a ε = some (.ok x) ∧ evalD C.Φ b ε = some (.er c ns ds)) {Hi0 H0 Hi H : Hp} {σ : L2.St} {R : V → V → Hp → Prop}
    (I : EnvOk C.G C.xp Hi0 H0 Hi H σ ε) (ke : ErOk C Hi H σ c ns ds) : tU C.X pa σ H fun u H1 => tU C.X pb σ H1 fun v H2 => R u v H2 := by
  rcases h with h | ⟨x, h1, h2⟩
  · exact ha ε _ h Hi0 H0 Hi H σ _ I ke
  · refine ha ε _ h1 Hi0 H0 Hi H σ _ I fun Hi1 H1 u s1 o1 => ?_
    exact hb ε _ h2 Hi0 H0 Hi1 H1 σ _ (I.step s1) (ErOk.step s1 ke)
theorem two_ok (ha : RE C pa a) (hb : RE C pb b) {ε : Env} {x y : Vl} (ea : evalD C.Φ a ε = some (.ok x)) (eb : evalD C.Φ b ε = some (.ok y)) {Hi0 H0 Hi H : Hp} {σ : L2.St} {R : V → V → Hp → Prop} (I : EnvOk C.G C.xp Hi0 H0 Hi H σ ε)
    (k : ∀ Hi' H' u v, Step Hi H Hi' H' → EnvOk C.G C.xp Hi0 H0 Hi' H' σ ε → Ex H0 H' → VlOk C.G H0 H Hi' H' x u → VlOk C.G H0 H Hi' H' y v → R u v H') : tU C.X pa σ H fun u H1 => tU C.X pb σ H1 fun v H2 => R u v H2 := by
  refine ha ε _ ea Hi0 H0 Hi H σ _ I fun Hi1 H1 u s1 o1 => ?_
  refine hb ε _ eb Hi0 H0 Hi1 H1 σ _ (I.step s1) fun Hi2 H2 v s2 o2 => ?_
  exact k Hi2 H2 u v (s1.trans s2) ((I.step s1).step s2) ((I.step s1).step s2).st.h (o1.step s2) (o2.back s1.h)
theorem op0 {X : Cx} {f : Value → Value → Sem Value} : OpR X f (fun _ _ _ _ => False) := fun _ _ _ _ _ _ _ _ _ _ _ _ z => z.elim
theorem r_bin {op : Operator} (ha : RE C pa a) (hb : RE C pb b) : RE C (.BinOp pa op pb pos) (.bin op a b) := by
  intro ε o h Hi0 H0 Hi H σ Q I k
  simp only [evalD] at h
  rcases two_cases h with ⟨c, ns, ds, rfl, h1⟩ | ⟨x, y, h1, h2, h3⟩
  · exact tU_of (pe_op op0 peU peU) (two_er ha hb h1 I k)
  · obtain ⟨r, h4, rfl⟩ := rl_some h3
    obtain ⟨rr, ho, hr⟩ := binD_ok (C := C) h4
    refine tU_of (pe_op ho peU peU) (two_ok ha hb h1 h2 I fun Hi' H' u v s I2 e0 o1 o2 => hr _ _ _ _ _ _ _ s.s e0 o1 o2 fun Hi2 H2 z s2 o3 => ?_)
    exact k Hi2 H2 z (s.trans s2) (o3.back s.h)
theorem r_neg (ha : RE C pa a) : RE C (.UnaryOp .USub pa pos) (.neg a) := by
  intro ε o h Hi0 H0 Hi H σ Q I k
  simp only [evalD] at h
  refine tU_of (pe_un un_neg peU) (un1 ha h I (erV k) fun x h1 Hi1 H1 u s1 I1 e0 o1 => ?_)
  obtain ⟨i, h2, h3⟩ := rbl_some h1
  cases rp_some h3
  exact ⟨i, int_of s1.s e0 o1 (asI_some h2), k Hi1 H1 _ s1 rfl⟩
theorem r_not (ha : RE C pa a) : RE C (.UnaryOp .Not pa pos) (.not a) := by
  intro ε o h Hi0 H0 Hi H σ Q I k
  simp only [evalD] at h
  refine tU_of (pe_not peU) (un1 ha h I (erV k) fun x h1 Hi1 H1 u s1 I1 e0 o1 => ?_)
  obtain ⟨i, h2, h3⟩ := rbl_some h1
  cases rp_some h3
  exact ⟨i, bl_of s1.s e0 o1 (asB_some h2), k Hi1 H1 _ s1 rfl⟩
theorem r_and {rest : List Expr} (ha : RE C pa a) (hb : RE C (.BoolOp .And (pb :: rest) pos) b) : RE C (.BoolOp .And (pa :: pb :: rest) pos) (.and a b) := by
  intro ε o h Hi0 H0 Hi H σ Q I k
  simp only [evalD] at h
  refine tU_of (pe_and peU peU) (un1 ha h I (erV k) fun x h1 Hi1 H1 u s1 I1 e0 o1 => ?_)
  obtain ⟨t, h2, h3⟩ := rbl_some h1
  refine ⟨t, bl_of s1.s e0 o1 (asB_some h2), ?_⟩
  cases t with
  | true =>
    rw [if_pos rfl] at h3 ⊢
    exact hb ε _ h3 Hi0 H0 Hi1 H1 σ _ I1 (k.step s1)
  | false =>
    rw [if_neg (by decide)] at h3 ⊢
    cases rp_some h3
    exact k Hi1 H1 _ s1 rfl
theorem r_or {rest : List Expr} (ha : RE C pa a) (hb : RE C (.BoolOp .Or (pb :: rest) pos) b) : RE C (.BoolOp .Or (pa :: pb :: rest) pos) (.or a b) := by
  intro ε o h Hi0 H0 Hi H σ Q I k
  simp only [evalD] at h
  refine tU_of (pe_or peU peU) (un1 ha h I (erV k) fun x h1 Hi1 H1 u s1 I1 e0 o1 => ?_)
  obtain ⟨t, h2, h3⟩ := rbl_some h1
  refine ⟨t, bl_of s1.s e0 o1 (asB_some h2), ?_⟩
  cases t with
  | true =>
    rw [if_pos rfl] at h3 ⊢
    cases rp_some h3
    exact k Hi1 H1 _ s1 rfl
  | false =>
    rw [if_neg (by decide)] at h3 ⊢
    exact hb ε _ h3 Hi0 H0 Hi1 H1 σ _ I1 (k.step s1)
theorem r_one {op} (ha : RE C pa a) : RE C (.BoolOp op [pa] pos) a := by
  intro ε r h Hi0 H0 Hi H σ Q I k
  exact tU_of (pe_one peU) (ha ε r h Hi0 H0 Hi H σ Q I k)
/-! tests -/
theorem t_not (ha : RT C pa a) : RT C (.UnaryOp .Not pa pos) (.not a) := by
  intro ε o h Hi0 H0 Hi H σ Q I k
  simp only [testD] at h
  refine tUT_of (pt_not ptU) (unT ha h I (erT k) fun b h1 Hi1 H1 s1 I1 => ?_)
  cases rp_some h1
  exact k Hi1 H1 s1
theorem RW.t (h : RW C pe a) : RT C pe a := fun ε b e Hi0 H0 Hi H σ Q I k => tUT_of (PW.pt pwU) (h ε b e Hi0 H0 Hi H σ Q I k)
theorem w_and {rest : List Expr} (ha : RT C pa a) (hb : RW C (.BoolOp .And (pb :: rest) pos) b) : RW C (.BoolOp .And (pa :: pb :: rest) pos) (.and a b) := by
  intro ε o h Hi0 H0 Hi H σ Q I k
  simp only [testD] at h
  refine tUW_of (pw_and ptU pwU) (unT ha h I (erT k) fun t h3 Hi1 H1 s1 I1 => ?_)
  cases t with
  | true =>
    rw [if_pos rfl] at h3 ⊢
    exact hb ε _ h3 Hi0 H0 Hi1 H1 σ _ I1 (k.step s1)
  | false =>
    rw [if_neg (by decide)] at h3 ⊢
    cases rp_some h3
    exact k Hi1 H1 s1
theorem w_or {rest : List Expr} (ha : RT C pa a) (hb : RW C (.BoolOp .Or (pb :: rest) pos) b) : RW C (.BoolOp .Or (pa :: pb :: rest) pos) (.or a b) := by
  intro ε o h Hi0 H0 Hi H σ Q I k
  simp only [testD] at h
  refine tUW_of (pw_or ptU pwU) (unT ha h I (erT k) fun t h3 Hi1 H1 s1 I1 => ?_)
  cases t with
  | true =>
    rw [if_pos rfl] at h3 ⊢
    cases rp_some h3
    exact k Hi1 H1 s1
  | false =>
    rw [if_neg (by decide)] at h3 ⊢
    exact hb ε _ h3 Hi0 H0 Hi1 H1 σ _ I1 (k.step s1)
theorem w_and1 (ha : RT C pa a) : RW C (.BoolOp .And [pa] pos) a := fun ε r h Hi0 H0 Hi H σ Q I k => tUW_of (pw_and1 ptU) (ha ε r h Hi0 H0 Hi H σ Q I k)
theorem w_or1 (ha : RT C pa a) : RW C (.BoolOp .Or [pa] pos) a := fun ε r h Hi0 H0 Hi H σ Q I k => tUW_of (pw_or1 ptU) (ha ε r h Hi0 H0 Hi H σ Q I k)
theorem truD_ok {G : Gt} {H0 Hb Hi H : Hp} {r : Vl} {x : V} {b : Bool} (s : Ex Hi H) (s0 : Ex H0 H) (h : VlOk G H0 Hb Hi H r x) (e : truD r.d = some b) : TruV G.K x H b := by
  generalize er : r.d = d at e
  cases d with
  | non => cases e; rw [non_of s s0 h er]; rfl
  | bl c => cases e; rw [bl_of s s0 h er]; rfl
  | int i => cases e; rw [int_of s s0 h er]; rfl
  | str z => cases e
  | scr z => cases e
  | obj c ns xs => cases e
  | dct ks xs => cases e
  | lst xs =>
    cases e
    obtain ⟨p, vs, rfl, h2, h3, _⟩ := h.lst s s0 er
    refine .inl ⟨vs, SqL.of h2, ?_⟩
    have hl := h3.length
    cases xs <;> cases vs <;> first | rfl | (simp at hl)
  | tup xs =>
    cases e
    obtain ⟨p, vs, rfl, h2, h3, _⟩ := h.tup s s0 er
    refine .inr (.inl ⟨vs, SqT.of h2, ?_⟩)
    have hl := h3.length
    cases xs <;> cases vs <;> first | rfl | (simp at hl)
theorem t_truth (hk : C.X.K = C.G.K) (he : ∀ whole, isTrue pe C.X.env whole = (do let v ← whole; standAt pe.pos; holding [v] (truthy v))) (ha : RE C pe a) (ht : ∀ ε, testD C.Φ a ε = rb (evalD C.Φ a ε) fun x => rl (truD x.d)) : RT C pe a := by
  intro ε o h Hi0 H0 Hi H σ Q I k
  rw [ht] at h
  refine tUT_of (pt_truth peU he) (un1 ha h I (erT k) fun x h1 Hi1 H1 u s1 I1 e0 o1 => ?_)
  obtain ⟨b, h2, rfl⟩ := rl_some h1
  exact ⟨b, by rw [hk]; exact truD_ok s1.s e0 o1 h2, k Hi1 H1 s1⟩
end
end EG
namespace EG
open PySem PySem.Spec PyProof.Rows L2
/-! ### dicts: reading, and == where the keys are tuples -/
section
variable {prog : Program} {w : World} {K : Type} [DecidableEq K] {knd : HeapKind prog w K} {A : Around} {E : Value → Shared → Prop} {s : Shared}
theorem nodup_at {α : Type} : ∀ {l : List α} {i j : Nat} {x : α}, l.Nodup → l[i]? = some x → l[j]? = some x → i = j
  | [], _, _, _, _, e, _ => by simp at e
  | a :: l, 0, 0, _, _, _, _ => rfl
  | a :: l, 0, j + 1, x, h, e, f => by
    simp at e; subst e
    exact absurd (List.mem_of_getElem? (by simpa using f)) (List.nodup_cons.mp h).1
  | a :: l, i + 1, 0, x, h, e, f => by
    simp at f; subst f
    exact absurd (List.mem_of_getElem? (by simpa using e)) (List.nodup_cons.mp h).1
  | a :: l, i + 1, j + 1, x, h, e, f => by
    exact congrArg (· + 1) (nodup_at (l := l) (x := x) (List.nodup_cons.mp h).2 (by simpa using e) (by simpa using f))
theorem samePairsT {nm : String} {a b : Addr} {xs ys : List (K × Addr × Value)} {Q : Bool → Shared → Prop} (ha : (a == sysModules) = false) (hb : (b == sysModules) = false) (hu : knd.room A)
    (da : s.heap.DictOfH knd a xs) (db : s.heap.DictOfH knd b ys) (hk : xs.map (·.1) = ys.map (·.1)) (hv : ∀ (j : Nat) x y, xs[j]? = some x → ys[j]? = some y → SeqAt.EqP prog w A s x.2.2 y.2.2 true) (h : Q true s) :
    wpAny (model prog w) A (Builtin.Dict.samePairs nm a b) Q E s := by
  obtain ⟨oa, es, ep, hoa, _, hda, hea, hia, hna⟩ := da
  obtain ⟨ob, es', ep', hob, _, hdb, heb, hib, hnb⟩ := db
  have hla : es.size = xs.length := size_of_entries hea
  have hlb : es'.size = ys.length := size_of_entries heb
  have hxy : xs.length = ys.length := by have := congrArg List.length hk; simpa using this
  have hsz : es.size = es'.size := by rw [hla, hlb, hxy]
  unfold Builtin.Dict.samePairs Builtin.Dict.showsAll
  rw [if_neg (show ¬ (a == sysModules) = true by rw [ha]; exact Bool.false_ne_true), if_neg (show ¬ (b == sysModules) = true by rw [hb]; exact Bool.false_ne_true)]
  refine wpAny_bind (wpAny_pure (wpAny_bind (wpAny_pure ?_)))
  refine wpAny_bind (wpAny_dictEntries hoa hda ?_)
  dsimp only
  refine wpAny_bind (wpAny_dictEntries hob hdb ?_)
  rw [if_neg (by rw [hsz]; simp)]
  refine wpAny_bind (wpAny_dictEpoch hoa hda ?_)
  refine wpAny_bind ?_
  rw [Std.Legacy.Range.forIn_eq_forIn_range']
  simp only [Std.Legacy.Range.size, Nat.sub_zero, Nat.add_sub_cancel, Nat.div_one]
  refine wpAny_forIn_list _ (fun rest q s' => s' = s ∧ q = (none, ()) ∧ ∃ i, rest = List.range' i (es.size - i) ∧ i ≤ es.size) _ ?_ ?_ _ _ ⟨rfl, rfl, 0, by simp, Nat.zero_le _⟩
  · rintro x rest q s' ⟨rfl, rfl, i, hr, hi⟩
    have hlt : i < es.size := by
      rcases Nat.lt_or_ge i es.size with h | h
      · exact h
      · rw [Nat.sub_eq_zero_of_le h] at hr; simp at hr
    obtain ⟨rfl, hrest⟩ : x = i ∧ rest = List.range' (i + 1) (es.size - (i + 1)) := by
      have e : es.size - i = (es.size - (i + 1)) + 1 := by omega
      rw [e, List.range'_succ] at hr
      injection hr with h1 h2
      exact ⟨h1, h2⟩
    have hx : x < xs.length := by omega
    have hy : x < ys.length := by omega
    have ex : xs[x]? = some xs[x] := List.getElem?_eq_getElem hx
    have ey : ys[x]? = some ys[x] := List.getElem?_eq_getElem hy
    have ent : es[x] = entryOfKey knd xs[x] := by
      have := entry_at hea x
      rw [Array.getElem?_eq_getElem hlt, ex] at this
      simpa using this
    have kk : xs[x].1 = ys[x].1 := by
      have := congrArg (·[x]?) hk
      simpa [ex, ey] using this
    refine wpAny_bind (wpAny_dictEntries hoa hda ?_)
    rw [Array.getElem?_eq_getElem hlt]
    show wpAny _ _ (holding [es[x].key, es[x].val] _ >>= _) _ _ _
    rw [ent]
    refine wpAny_bind (wpAny_holding (wpAny_bind ?_))
    show wpAny _ _ (dictFind b (.ref xs[x].2.1) (knd.hash xs[x].1)) _ _ _
    refine wpAny_dictFind_heap hu (hia _ (List.getElem_mem hx)) hob hdb heb hib hnb (fun no => absurd (by rw [ey, kk]) (no x ys[x].2)) fun j p hj => ?_
    have hjx : j = x := nodup_at hnb (by rw [List.getElem?_map, hj]; rfl) (by rw [List.getElem?_map, ey, kk]; rfl)
    subst hjx
    rw [ey] at hj
    have hp : ys[j] = (xs[j].1, p) := Option.some.inj hj
    refine wpAny_bind (wpAny_dictEntries hob hdb ?_)
    have hlt' : j < es'.size := by omega
    have ent' : es'[j] = entryOfKey knd ys[j] := by
      have := entry_at heb j
      rw [Array.getElem?_eq_getElem hlt', ey] at this
      simpa using this
    rw [Array.getElem?_eq_getElem hlt', ent']
    refine wpAny_holding (hv j _ _ ex ey _ _ ?_)
    show wpAny _ _ (if (!true) = true then _ else _) _ _ _
    rw [if_neg (by decide)]
    refine wpAny_bind (wpAny_dictEpoch hoa hda ?_)
    rw [if_neg (by simp)]
    exact wpAny_pure ⟨rfl, rfl, j + 1, hrest, hlt⟩
  · rintro q s' ⟨rfl, rfl, i, hr, hi⟩
    exact wpAny_pure h
theorem rcT_dicts {a b : Addr} {xs ys : List (K × Addr × Value)} (ha : (a == sysModules) = false) (hb : (b == sysModules) = false) (hr : knd.room A.in1)
    (da : s.heap.DictOfH knd a xs) (db : s.heap.DictOfH knd b ys) (hu : A.units < cLine) (hk : xs.map (·.1) = ys.map (·.1)) (hv : ∀ (j : Nat) x y, xs[j]? = some x → ys[j]? = some y → SeqAt.EqP prog w A.in1 s x.2.2 y.2.2 true) (E Q : Value → Shared → Prop) (h : Q (.bool true) s) : wpAny (model prog w) A (richCompare .Eq (.ref a) (.ref b)) Q E s := by
  refine wpAny_richCompare_same_room (op := .Eq) da.typeIs db.typeIs PySem.F.slot_dict_eq (wpAny_call_entry PySem.F.slot_dict_eq da.typeIs PySem.F.entry_dict_eq ?_ (PySem.F.args_dict_eq_2 _ _)) hu
  show wpAny _ _ (Builtin.Dict.dictSlotArgs "__eq__" ⟨[.ref a, .ref b], []⟩ >>= _) _ _ s
  refine wpAny_bind ?_
  unfold Builtin.Dict.dictSlotArgs
  refine wpAny_bind (wpAny_notOrdered_dict da.typeIs ?_)
  show wpAny _ _ (pure (Value.ref a, Value.ref b)) _ _ s
  refine wpAny_pure ?_
  refine wpAny_bind (wpAny_isInstance (T := "dict") db.typeIs PySem.F.sub_dict_dict ?_)
  simp only [Bool.not_true, Bool.false_eq_true, if_false]
  refine wpAny_bind (wpAny_pure (wpAny_bind (wpAny_pure ?_)))
  refine wpAny_bind (samePairsT ha hb hr da db hk hv ?_)
  refine wpAny_pure ⟨_, rfl, ?_, ?_⟩
  · exact fun x => nomatch x
  · simpa using h
theorem rcT_ne {a b : Addr} {xs ys : List (K × Addr × Value)} (ha : (a == sysModules) = false) (hb : (b == sysModules) = false) (hr : knd.room A.in1)
    (da : s.heap.DictOfH knd a xs) (db : s.heap.DictOfH knd b ys) (hu : A.units < cLine) (hk : xs.map (·.1) = ys.map (·.1)) (hv : ∀ (j : Nat) x y, xs[j]? = some x → ys[j]? = some y → SeqAt.EqP prog w A.in1 s x.2.2 y.2.2 true) (E Q : Value → Shared → Prop) (h : Q (.bool false) s) : wpAny (model prog w) A (richCompare .NotEq (.ref a) (.ref b)) Q E s := by
  refine wpAny_richCompare_same_room (op := .NotEq) da.typeIs db.typeIs PySem.F.slot_dict_ne (wpAny_call_entry PySem.F.slot_dict_ne da.typeIs PySem.F.entry_dict_ne ?_ (PySem.F.args_dict_ne_2 _ _)) hu
  show wpAny _ _ (Builtin.Dict.dictSlotArgs "__ne__" ⟨[.ref a, .ref b], []⟩ >>= _) _ _ s
  refine wpAny_bind ?_
  unfold Builtin.Dict.dictSlotArgs
  refine wpAny_bind (wpAny_notOrdered_dict da.typeIs ?_)
  show wpAny _ _ (pure (Value.ref a, Value.ref b)) _ _ s
  refine wpAny_pure ?_
  refine wpAny_bind (wpAny_isInstance (T := "dict") db.typeIs PySem.F.sub_dict_dict ?_)
  simp only [Bool.not_true, Bool.false_eq_true, if_false]
  refine wpAny_bind (wpAny_pure (wpAny_bind (wpAny_pure ?_)))
  refine wpAny_bind (samePairsT ha hb hr da db hk hv ?_)
  refine wpAny_pure ⟨_, rfl, ?_, ?_⟩
  · exact fun x => nomatch x
  · simpa using h
end
section
variable {X : Cx}
theorem paired_at {α β : Type} {R : α → β → Prop} {l : List α} {m : List β} (h : Paired R l m) : ∀ {j : Nat} {y : β}, m[j]? = some y → ∃ x, l[j]? = some x ∧ R x y := by
  induction h with
  | nil => intro j y e; simp at e
  | @cons a b l m r _ ih =>
    intro j y e
    cases j with
    | zero => simp at e; subst e; exact ⟨a, rfl, r⟩
    | succ j => obtain ⟨x, h1, h2⟩ := ih (j := j) (y := y) (by simpa using e); exact ⟨x, by simpa using h1, h2⟩
theorem kt_keys {H : Hp} {kvs : List (List Key × V)} {xs : List (List Key × Addr × Value)} (h : KT H kvs xs) : xs.map (·.1) = kvs.map (·.1) := by
  induction h with
  | nil => rfl
  | cons r _ ih => simp only [List.map_cons, ih, r.1]
/-- the same tuple keys, the same flat values -/
def rEqT : R2 := fun x y H Q => ∃ a b kvs, x = .ref a ∧ y = .ref b ∧ H a = some (.dT kvs) ∧ H b = some (.dT kvs) ∧ (∀ p ∈ kvs, flatB p.2 = true) ∧ Q (.bl true) H
theorem op_eqT (hu : X.A.units + 64 < cLine) : OpR X (compareOp .Eq) rEqT := by
  intro pins s σ H x y v u Q I rx ry ⟨a, b, kvs, ex, ey, h1, h2, h3, q⟩
  subst ex ey
  obtain rfl : v = Value.ref a := rx
  obtain rfl : u = Value.ref b := ry
  obtain ⟨_, ya, xs, ra, da⟩ := dt_of I.hok h1
  obtain ⟨_, yb, ys, rb, db⟩ := dt_of I.hok h2
  refine rcT_dicts ya yb (tupleKind_room_in1 (by omega)) da db (by omega) (by rw [kt_keys ra, kt_keys rb]) (fun j x y ex ey => ?_) _ _ ⟨.bl true, H, I, rfl, q⟩
  obtain ⟨p, f1, f2⟩ := paired_at ra ex
  obtain ⟨p', g1, g2⟩ := paired_at rb ey
  rw [f1] at g1; cases g1
  exact (eqAt_same f2.2.2 g2.2.2 (h3 p (List.mem_of_getElem? f1))).eqP
def rNeT : R2 := fun x y H Q => ∃ a b kvs, x = .ref a ∧ y = .ref b ∧ H a = some (.dT kvs) ∧ H b = some (.dT kvs) ∧ (∀ p ∈ kvs, flatB p.2 = true) ∧ Q (.bl false) H
theorem op_neT (hu : X.A.units + 64 < cLine) : OpR X (compareOp .NotEq) rNeT := by
  intro pins s σ H x y v u Q I rx ry ⟨a, b, kvs, ex, ey, h1, h2, h3, q⟩
  subst ex ey
  obtain rfl : v = Value.ref a := rx
  obtain rfl : u = Value.ref b := ry
  obtain ⟨_, ya, xs, ra, da⟩ := dt_of I.hok h1
  obtain ⟨_, yb, ys, rb, db⟩ := dt_of I.hok h2
  refine rcT_ne ya yb (tupleKind_room_in1 (by omega)) da db (by omega) (by rw [kt_keys ra, kt_keys rb]) (fun j x y ex ey => ?_) _ _ ⟨.bl false, H, I, rfl, q⟩
  obtain ⟨p, f1, f2⟩ := paired_at ra ex
  obtain ⟨p', g1, g2⟩ := paired_at rb ey
  rw [f1] at g1; cases g1
  exact (eqAt_same f2.2.2 g2.2.2 (h3 p (List.mem_of_getElem? f1))).eqP
def rIxDc : R2 := fun x y H Q => ∃ a v, x = .ref a ∧ DGet H a y (some v) ∧ Q v H
theorem ix_dict (hu : X.A.units + 1 < cLine) : IxR X rIxDc := by
  intro value slice pins s σ H x y v u Q I rx ry ⟨a, v0, ex, g, q⟩ hs
  subst ex
  obtain rfl : v = Value.ref a := rx
  exact tail_any (dict_typeIs I g) PySem.F.slot_dict_getitem.lookup (d_getItem hu I g ry fun w' s3 I3 rw' => ⟨v0, H, I3, rw', q⟩) hs
end
end EG
namespace EG
open PySem L2

/-! ### comparisons -/
theorem dp_ints {K : PySem.W.Frag} {H : Hp} : ∀ ns : List Int, DpAll K H (ns.map V.int) (ns.map PyData.int)
  | [] => .nil
  | n :: ns => .cons (.int n) (dp_ints ns)
mutual
theorem Rep.dp {G : Gt} {H : Hp} : ∀ (d : D) (v : V), plainD d = true → Rep G H d v → Dp G.K H v (toPy d)
  | .non, v, _, h => by cases (show v = .non from h); exact .non
  | .bl b, v, _, h => by cases (show v = .bl b from h); exact .bl b
  | .int i, v, _, h => by cases (show v = .int i from h); exact .int i
  | .str x, v, _, h => by cases (show v = .str x from h); exact .str x
  | .lst xs, v, hp, h => by
    obtain ⟨a, vs, rfl, h2, h3⟩ := h
    exact .lst (SqL.of h2) (RepL.dp xs vs (by simpa [plainD] using hp) h3)
  | .tup xs, v, hp, h => by
    obtain ⟨a, vs, rfl, h2, h3⟩ := h
    exact .tup (SqT.of h2) (RepL.dp xs vs (by simpa [plainD] using hp) h3)
  | .scr ns, v, _, h => by
    obtain ⟨a, rfl, h2⟩ := h
    exact .lst h2 (dp_ints ns)
  | .obj _ _ _, _, hp, _ => by simp [plainD] at hp
  | .dct _ _, _, hp, _ => by simp [plainD] at hp
theorem RepL.dp {G : Gt} {H : Hp} : ∀ (ds : List D) (vs : List V), plainL ds = true → RepL G H ds vs → DpAll G.K H vs (toPys ds)
  | [], vs, _, h => by cases (show vs = [] from h); exact .nil
  | d :: ds, vs, hp, h => by
    obtain ⟨v, vs', rfl, h2, h3⟩ := h
    simp [plainL] at hp
    exact .cons (Rep.dp d v hp.1 h2) (RepL.dp ds vs' hp.2 h3)
end
def CmpOk (G : Gt) (rr : R2) (x y : Vl) (b : Bool) : Prop := ∀ H0 Hb Hc Hi H u v (Q : VK), Ex Hi H → Ex H0 H → VlOk G H0 Hb Hi H x u → VlOk G H0 Hc Hi H y v → Q (.bl b) H → rr u v H Q
section
variable {C : Ctx} {pe pa pb pc : Expr} {a b c : Ep} {pos : Pos}
theorem shaped_of {d : D} (h : shapedD d = true) : plainD d = true ∧ SeqAt.shaped (toPy d) = true := by
  unfold shapedD at h
  rw [Bool.and_eq_true] at h
  exact h
theorem sameInts_ok {G : Gt} {H : Hp} : ∀ {xs ys : List D} {vs ws : List V}, sameInts xs ys = true → RepL G H xs vs → RepL G H ys ws → vs = ws ∧ ∀ v ∈ vs, flatB v = true
  | [], [], _, _, _, h1, h2 => by cases h1; cases h2; exact ⟨rfl, fun v hv => nomatch hv⟩
  | .int i :: xs, .int j :: ys, _, _, h, h1, h2 => by
    simp only [sameInts, Bool.and_eq_true, decide_eq_true_eq] at h
    obtain ⟨v, vs', rfl, a1, a2⟩ := h1
    obtain ⟨w, ws', rfl, b1, b2⟩ := h2
    obtain ⟨c1, c2⟩ := sameInts_ok h.2 a2 b2
    cases (show v = .int i from a1)
    cases (show w = .int j from b1)
    refine ⟨by rw [c1, h.1], fun u hu => ?_⟩
    rcases List.mem_cons.mp hu with rfl | hu
    · rfl
    · exact c2 u hu
theorem eqD_ok (hk : C.X.K = C.G.K) (hu : C.X.A.units + 64 < cLine) {x y : Vl} {b : Bool} (h : eqD x.d y.d = some b) : (∃ rr, OpR C.X (compareOp .Eq) rr ∧ CmpOk C.G rr x y b) ∧ (∃ rr, OpR C.X (compareOp .NotEq) rr ∧ CmpOk C.G rr x y (!b)) := by
  generalize ex : x.d = dx at h
  generalize ey : y.d = dy at h
  unfold eqD at h
  split at h
  · rename_i ks xs ls ys
    split at h
    case isFalse => cases h
    case isTrue hc =>
    obtain ⟨rfl, hv⟩ := hc
    cases h
    have key : ∀ {H0 Hb Hc Hi H : Hp} {u v : V}, Ex Hi H → Ex H0 H → VlOk C.G H0 Hb Hi H x u → VlOk C.G H0 Hc Hi H y v → ∃ a b kvs, u = .ref a ∧ v = .ref b ∧ H a = some (.dT kvs) ∧ H b = some (.dT kvs) ∧ (∀ p ∈ kvs, flatB p.2 = true) := fun {H0 Hb Hc Hi H u v} e e0 h1 h2 => by
      have r1 := h1.rep e e0
      have r2 := h2.rep e e0
      rw [ex] at r1
      rw [ey] at r2
      obtain ⟨a, vs, e1, e2, e3, e4⟩ := r1
      obtain ⟨b, ws, f1, f2, f3, f4⟩ := r2
      obtain ⟨g1, g2⟩ := sameInts_ok hv e4 f4
      subst g1
      exact ⟨a, b, _, e1, f1, e2, f2, fun p hp => g2 _ (List.of_mem_zip hp).2⟩
    refine ⟨⟨_, op_eqT hu, fun _ _ _ Hi H u v Q e e0 h1 h2 k => ?_⟩, ⟨_, op_neT hu, fun _ _ _ Hi H u v Q e e0 h1 h2 k => ?_⟩⟩
    · obtain ⟨a, b, kvs, g1, g2, g3, g4, g5⟩ := key e e0 h1 h2
      exact ⟨a, b, kvs, g1, g2, g3, g4, g5, k⟩
    · obtain ⟨a, b, kvs, g1, g2, g3, g4, g5⟩ := key e e0 h1 h2
      exact ⟨a, b, kvs, g1, g2, g3, g4, g5, k⟩
  · cases h
    refine ⟨⟨_, op_eq, fun _ _ _ Hi H u v Q e e0 h1 h2 k => ?_⟩, ⟨_, op_ne, fun _ _ _ Hi H u v Q e e0 h1 h2 k => ?_⟩⟩ <;>
    (rw [int_of e e0 h1 ex, int_of e e0 h2 ey]; refine ⟨rfl, ?_⟩; simpa using k)
  · cases h
    refine ⟨⟨_, op_eq, fun _ _ _ Hi H u v Q e e0 h1 h2 k => ?_⟩, ⟨_, op_ne, fun _ _ _ Hi H u v Q e e0 h1 h2 k => ?_⟩⟩ <;>
    (rw [str_of e e0 h1 ex, str_of e e0 h2 ey]; refine ⟨rfl, ?_⟩; simpa using k)
  · cases h
    refine ⟨⟨_, op_eq, fun _ _ _ Hi H u v Q e e0 h1 h2 k => ?_⟩, ⟨_, op_ne, fun _ _ _ Hi H u v Q e e0 h1 h2 k => ?_⟩⟩ <;>
    (rw [bl_of e e0 h1 ex, bl_of e e0 h2 ey]; refine ⟨rfl, ?_⟩; simpa using k)
  · cases h
    refine ⟨⟨_, op_eq, fun _ _ _ Hi H u v Q e e0 h1 h2 k => ?_⟩, ⟨_, op_ne, fun _ _ _ Hi H u v Q e e0 h1 h2 k => ?_⟩⟩ <;>
    (rw [non_of e e0 h1 ex, non_of e e0 h2 ey]; refine ⟨rfl, ?_⟩; simpa using k)
  · split at h
    · rename_i hs
      cases h
      obtain ⟨a1, a2⟩ := shaped_of hs.1
      obtain ⟨b1, b2⟩ := shaped_of hs.2
      refine ⟨⟨_, op_eqD hu, fun _ _ _ Hi H u v Q e e0 h1 h2 k => ?_⟩, ⟨_, op_neD hu, fun _ _ _ Hi H u v Q e e0 h1 h2 k => ?_⟩⟩
      · rw [hk]; exact ⟨_, _, Rep.dp _ _ a1 (ex ▸ h1.rep e e0), Rep.dp _ _ b1 (ey ▸ h2.rep e e0), a2, b2, k⟩
      · rw [hk]; exact ⟨_, _, Rep.dp _ _ a1 (ex ▸ h1.rep e e0), Rep.dp _ _ b1 (ey ▸ h2.rep e e0), a2, b2, k⟩
    · cases h
theorem isN_ok {G : Gt} {H0 Hb Hi H : Hp} {x : Vl} {u : V} {b : Bool} (e : Ex Hi H) (e0 : Ex H0 H) (h : VlOk G H0 Hb Hi H x u) (hd : isNonD x.d = some b) : decide (u = .non) = b := by
  have q := h.rep e e0
  generalize x.d = d at q hd
  cases d with
  | non => cases hd; rw [show u = .non from q]; rfl
  | lst xs => cases hd; obtain ⟨_, _, rfl, _⟩ := q; rfl
  | tup xs => cases hd; obtain ⟨_, _, rfl, _⟩ := q; rfl
  | scr xs => cases hd
  | obj c ns xs => cases hd; obtain ⟨_, _, _, rfl, _⟩ := q; rfl
  | dct ks xs => cases hd; obtain ⟨_, _, rfl, _⟩ := q; rfl
  | bl b => cases hd; rw [show u = .bl b from q]; rfl
  | int b => cases hd; rw [show u = .int b from q]; rfl
  | str b => cases hd; rw [show u = .str b from q]; rfl
theorem keyAt_some {κ : Type} [DecidableEq κ] : ∀ {ks : List κ} {k : κ} {i : Nat} {vs : List V} {v : V}, keyAt ks k = some i → vs[i]? = some v → valV (ks.zip vs) k = some v
  | [], _, _, _, _, h, _ => by simp [keyAt] at h
  | y :: r, k, i, [], v, h, e => by simp at e
  | y :: r, k, i, w :: vs, v, h, e => by
    unfold keyAt at h
    split at h
    · rename_i hy
      cases h
      simp at e; subst e
      show valV ((y, w) :: r.zip vs) k = some w
      rw [valV_pos hy]
    · rename_i hy
      simp only [Option.map_eq_some_iff] at h
      obtain ⟨j, h1, rfl⟩ := h
      show valV ((y, w) :: r.zip vs) k = some v
      rw [valV_neg hy]
      exact keyAt_some h1 (by simpa using e)
theorem keyAt_none {κ : Type} [DecidableEq κ] : ∀ {ks : List κ} {k : κ} {vs : List V}, keyAt ks k = none → valV (ks.zip vs) k = none
  | [], _, _, _ => by simp [valV]
  | y :: r, k, [], h => by simp [valV]
  | y :: r, k, w :: vs, h => by
    unfold keyAt at h
    split at h
    · cases h
    · rename_i hy
      simp only [Option.map_eq_none_iff] at h
      show valV ((y, w) :: r.zip vs) k = none
      rw [valV_neg hy]
      exact keyAt_none h
theorem asK_rep {G : Gt} {H : Hp} {d : D} {k : Key} {v : V} (h : asK d = some k) (r : Rep G H d v) : v = kV k := by
  cases d <;> first | cases h | skip
  · exact r
  · exact r
theorem asKs_rep {G : Gt} {H : Hp} : ∀ {ds : List D} {ks : List Key} {vs : List V}, asKs ds = some ks → RepL G H ds vs → vs = ks.map kV
  | [], _, _, h, r => by cases h; cases r; rfl
  | d :: ds, _, _, h, r => by
    simp only [asKs, Option.bind_eq_some_iff, Option.map_eq_some_iff] at h
    obtain ⟨k, h1, ks, h2, rfl⟩ := h
    obtain ⟨v, vs', rfl, r1, r2⟩ := r
    rw [asK_rep h1 r1, asKs_rep h2 r2]; rfl
theorem asT_rep {G : Gt} {H : Hp} {d : D} {ks : List Key} {v : V} (h : asT d = some ks) (r : Rep G H d v) : ∃ b, v = .ref b ∧ H b = some (.tup (ks.map kV)) := by
  cases d <;> first | cases h | skip
  obtain ⟨b, vs, e1, e2, e3⟩ := r
  exact ⟨b, e1, by rw [e2, asKs_rep (show asKs _ = some ks from h) e3]⟩
/-- what the dict holds at the key -/
theorem dget_ok {G : Gt} {H : Hp} {ks : Ky} {vs : List V} {a : Addr} {kd : D} {y : V} {o : Option Nat} (h : H a = some (ks.ho vs)) (hk : ks.at kd = some o) (r : Rep G H kd y) : ∃ ov, DGet H a y ov ∧ (∀ i v, o = some i → vs[i]? = some v → ov = some v) ∧ (o = none → ov = none) := by
  cases ks with
  | k ks =>
    simp only [Ky.at, Option.map_eq_some_iff] at hk
    obtain ⟨k, h1, rfl⟩ := hk
    rw [asK_rep h1 r]
    exact ⟨_, DGet.k h, fun i v e1 e2 => keyAt_some e1 e2, fun e => keyAt_none e⟩
  | t ks =>
    simp only [Ky.at, Option.map_eq_some_iff] at hk
    obtain ⟨k, h1, rfl⟩ := hk
    obtain ⟨b, rfl, hb⟩ := asT_rep h1 r
    exact ⟨_, DGet.t h hb, fun i v e1 e2 => keyAt_some e1 e2, fun e => keyAt_none e⟩
/-- a dict whose parts are shared -/
theorem keyAt_lt {κ : Type} [DecidableEq κ] : ∀ {ks : List κ} {k : κ} {i : Nat}, keyAt ks k = some i → i < ks.length
  | [], _, _, h => by cases h
  | y :: r, k, i, h => by
    simp only [keyAt] at h
    split at h
    · cases h; simp
    · simp only [Option.map_eq_some_iff] at h
      obtain ⟨j, h1, rfl⟩ := h
      have := keyAt_lt h1
      simp; omega
theorem Ky.at_lt {ks : Ky} {d : D} {i : Nat} (h : ks.at d = some (some i)) : i < ks.length := by
  cases ks with
  | k ks =>
    simp only [Ky.at, Option.map_eq_some_iff] at h
    obtain ⟨k, _, h2⟩ := h
    exact keyAt_lt h2
  | t ks =>
    simp only [Ky.at, Option.map_eq_some_iff] at h
    obtain ⟨k, _, h2⟩ := h
    exact keyAt_lt h2
def rDIn (neg : Bool) : R2 := fun y x H Q => ∃ a o, x = .ref a ∧ DGet H a y o ∧ Q (.bl (if neg then !o.isSome else o.isSome)) H
theorem op_dIn {X : Cx} (hu : X.A.units + 1 < cLine) : OpR X (compareOp .In) (rDIn false) := by
  intro pins s σ H x y v u Q I rx ry h
  obtain ⟨a, o, rfl, g, q⟩ := h
  cases (show u = Value.ref a from ry)
  exact d_in hu I g rx fun s3 I3 => ⟨.bl o.isSome, H, I3, rfl, q⟩
theorem op_dNotIn {X : Cx} (hu : X.A.units + 1 < cLine) : OpR X (compareOp .NotIn) (rDIn true) := by
  intro pins s σ H x y v u Q I rx ry h
  obtain ⟨a, o, rfl, g, q⟩ := h
  cases (show u = Value.ref a from ry)
  exact d_notIn hu I g rx fun s3 I3 => ⟨.bl (!o.isSome), H, I3, rfl, q⟩
theorem inD_ok (hk : C.X.K = C.G.K) (hu : C.X.A.units + 65 < cLine) {x y : Vl} {b : Bool} (h : inD x.d y.d = some b) : (∃ rr, OpR C.X (compareOp .In) rr ∧ CmpOk C.G rr x y b) ∧ (∃ rr, OpR C.X (compareOp .NotIn) rr ∧ CmpOk C.G rr x y (!b)) := by
  generalize ey : y.d = dy at h
  unfold inD at h
  split at h
  · rename_i j
    split at h
    · rename_i i ex
      cases h
      refine ⟨⟨_, op_in_str, fun _ _ _ Hi H u v Q e e0 h1 h2 k => ⟨_, _, str_of e e0 h1 ex, str_of e e0 h2 ey, k⟩⟩, ⟨_, op_notin_str, fun _ _ _ Hi H u v Q e e0 h1 h2 k => ⟨_, _, str_of e e0 h1 ex, str_of e e0 h2 ey, k⟩⟩⟩
    · cases h
  · split at h
    · rename_i hs
      cases h
      obtain ⟨a1, a2⟩ := shaped_of hs.1
      obtain ⟨b1, b2⟩ := shaped_of hs.2
      refine ⟨⟨_, op_inD hu, fun _ _ _ Hi H u v Q e e0 h1 h2 k => ?_⟩, ⟨_, op_notInD hu, fun _ _ _ Hi H u v Q e e0 h1 h2 k => ?_⟩⟩
      · rw [hk]; exact ⟨_, _, Rep.dp _ _ a1 (h1.rep e e0), Rep.dp _ _ b1 (ey ▸ h2.rep e e0), a2, b2, k⟩
      · rw [hk]; exact ⟨_, _, Rep.dp _ _ a1 (h1.rep e e0), Rep.dp _ _ b1 (ey ▸ h2.rep e e0), a2, b2, k⟩
    · cases h
  · rename_i ks xs
    simp only [Option.map_eq_some_iff] at h
    obtain ⟨o, ho, rfl⟩ := h
    have key : ∀ {H0 Hb Hc Hi H : Hp} {u v : V}, Ex Hi H → Ex H0 H → VlOk C.G H0 Hb Hi H x u → VlOk C.G H0 Hc Hi H y v → ∃ a ov, v = .ref a ∧ DGet H a u ov ∧ ov.isSome = o.isSome := fun {H0 Hb Hc Hi H u v} e e0 h1 h2 => by
      have r := h2.rep e e0
      rw [ey] at r
      obtain ⟨p, vs, rfl, g2, g3, g4⟩ := r
      obtain ⟨ov, d1, d2, d3⟩ := dget_ok g2 ho (h1.rep e e0)
      refine ⟨p, ov, rfl, d1, ?_⟩
      cases o with
      | none => rw [d3 rfl]; rfl
      | some i =>
        have hi := Ky.at_lt ho
        have hl : i < vs.length := by rw [← g4.length, ← g3]; exact hi
        rw [d2 i vs[i] rfl (List.getElem?_eq_getElem hl)]; rfl
    refine ⟨⟨_, op_dIn (by omega), fun _ _ _ Hi H u v Q e e0 h1 h2 k => ?_⟩, ⟨_, op_dNotIn (by omega), fun _ _ _ Hi H u v Q e e0 h1 h2 k => ?_⟩⟩
    · obtain ⟨a, ov, rfl, d1, d2⟩ := key e e0 h1 h2
      exact ⟨a, ov, rfl, d1, by simpa [d2] using k⟩
    · obtain ⟨a, ov, rfl, d1, d2⟩ := key e e0 h1 h2
      exact ⟨a, ov, rfl, d1, by simpa [d2] using k⟩
  · cases h
theorem cmpD_ok (hk : C.X.K = C.G.K) (hu : C.X.A.units + 65 < cLine) {op : CmpOp} {x y : Vl} {b : Bool} (h : cmpD op x.d y.d = some b) : ∃ rr, OpR C.X (compareOp op) rr ∧ CmpOk C.G rr x y b := by
  have hu2 : C.X.A.units + 64 < cLine := by omega
  cases op with
  | Eq => exact (eqD_ok hk hu2 h).1
  | NotEq =>
    simp only [cmpD, Option.map_eq_some_iff] at h
    obtain ⟨b', h1, rfl⟩ := h
    exact (eqD_ok hk hu2 h1).2
  | Lt =>
    simp only [cmpD] at h
    split at h
    · rename_i i j ex ey
      cases h
      exact ⟨_, op_lt, fun _ _ _ Hi H u v Q e e0 h1 h2 k => ⟨_, _, int_of e e0 h1 ex, int_of e e0 h2 ey, k⟩⟩
    · cases h
  | LtE =>
    simp only [cmpD] at h
    split at h
    · rename_i i j ex ey
      cases h
      exact ⟨_, op_le, fun _ _ _ Hi H u v Q e e0 h1 h2 k => ⟨_, _, int_of e e0 h1 ex, int_of e e0 h2 ey, k⟩⟩
    · cases h
  | Gt =>
    simp only [cmpD] at h
    split at h
    · rename_i i j ex ey
      cases h
      exact ⟨_, op_gt, fun _ _ _ Hi H u v Q e e0 h1 h2 k => ⟨_, _, int_of e e0 h1 ex, int_of e e0 h2 ey, k⟩⟩
    · cases h
  | GtE =>
    simp only [cmpD] at h
    split at h
    · rename_i i j ex ey
      cases h
      exact ⟨_, op_ge, fun _ _ _ Hi H u v Q e e0 h1 h2 k => ⟨_, _, int_of e e0 h1 ex, int_of e e0 h2 ey, k⟩⟩
    · cases h
  | Is =>
    simp only [cmpD] at h
    split at h
    · rename_i i j ex ey
      cases h
      exact ⟨_, op_isBl, fun _ _ _ Hi H u v Q e e0 h1 h2 k => ⟨_, _, bl_of e e0 h1 ex, bl_of e e0 h2 ey, k⟩⟩
    · rename_i ey
      refine ⟨_, op_isN, fun _ _ _ Hi H u v Q e e0 h1 h2 k => ⟨non_of e e0 h2 ey, ?_⟩⟩
      rw [isN_ok e e0 h1 h]; exact k
    · cases h
  | IsNot =>
    simp only [cmpD] at h
    split at h
    · rename_i i j ex ey
      cases h
      exact ⟨_, op_notBl, fun _ _ _ Hi H u v Q e e0 h1 h2 k => ⟨_, _, bl_of e e0 h1 ex, bl_of e e0 h2 ey, k⟩⟩
    · rename_i ey
      simp only [Option.map_eq_some_iff] at h
      obtain ⟨b', h3, rfl⟩ := h
      refine ⟨_, op_notN, fun _ _ _ Hi H u v Q e e0 h1 h2 k => ⟨non_of e e0 h2 ey, ?_⟩⟩
      rw [isN_ok e e0 h1 h3]; exact k
    · cases h
  | In => exact (inD_ok hk hu h).1
  | NotIn =>
    simp only [cmpD, Option.map_eq_some_iff] at h
    obtain ⟨b', h1, rfl⟩ := h
    exact (inD_ok hk hu h1).2
/-! keeping, passing on -/
theorem VlOk.keep {G : Gt} {H0 Hb Hi0 Hi H : Hp} {r : Vl} {x : V} {d : D} (a : Step Hi0 Hb Hi H) (h : VlOk G H0 Hb Hi H r x) (e : r.keep = some d) : ∃ Hi2, Ex Hi Hi2 ∧ Step Hi0 Hb Hi2 H ∧ Rep G Hi2 d x := by
  match r, h with
  | .sh d', h => cases e; exact ⟨Hi, Evl.Ex.refl _, a, h⟩
  | .fr n d', ⟨fp, h1, h2, h3⟩ =>
    cases e
    have hi := fun p hp => (h3 p hp).1
    exact ⟨shareH Hi H fp, shareH_ex hi, a.share (fun p hp => (h3 p hp).2) hi, Own.share (shareH_ex hi) n d x fp (fun p hp => shareH_in hp) h1⟩
theorem VlOk.keepN {G : Gt} {H0 Hb Hi0 Hi H : Hp} {r : Vl} {x : V} {d : D} {k : Nat} (a : Step Hi0 Hb Hi H) (h : VlOk G H0 Hb Hi H r x) (e : r.keepN k = some d) :
    ∃ Hi2, Ex Hi Hi2 ∧ Step Hi0 Hb Hi2 H ∧ ∃ fp, Own G Hi2 H k d x fp ∧ fp.Nodup ∧ ∀ p ∈ fp, Hi2 p = none ∧ Hb p = none := by
  cases k with
  | zero =>
    obtain ⟨Hi2, h1, h2, h3⟩ := h.keep a (show r.keep = some d from e)
    exact ⟨Hi2, h1, h2, [], by unfold Own; exact ⟨rfl, h3⟩, List.nodup_nil, fun p hp => nomatch hp⟩
  | succ k =>
    match r, h with
    | .sh d', h =>
      simp only [Vl.keepN] at e
      split at e
      case isFalse => cases e
      case isTrue hf =>
      cases e
      exact ⟨Hi, Evl.Ex.refl _, a, [], Own.flat _ hf h, List.nodup_nil, fun p hp => nomatch hp⟩
    | .fr m d', ⟨fp, h1, h2, h3⟩ =>
      simp only [Vl.keepN] at e
      split at e
      case isFalse => cases e
      case isTrue hf =>
      cases e
      rcases hf with rfl | ⟨rfl, hf⟩
      · exact ⟨Hi, Evl.Ex.refl _, a, fp, h1, h2, h3⟩
      · exact ⟨Hi, Evl.Ex.refl _, a, fp, Own.up m d x fp hf h1, h2, h3⟩
theorem VlOk.arg {G : Gt} {H0 Hb Hi0 Hi H : Hp} {r q : Vl} {x : V} (a : Step Hi0 Hb Hi H) (s0 : Ex H0 H) (h : VlOk G H0 Hb Hi H r x) (e : r.argd = some q) : ∃ Hi2, Step Hi0 Hb Hi2 H ∧ ArgOk G Hi2 H q x := by
  match r, h with
  | .sh d', h => cases e; exact ⟨Hi, a, h⟩
  | .fr n d', h =>
    cases e
    obtain ⟨Hi2, _, a2, h2⟩ := h.keep a rfl
    exact ⟨Hi2, a2, h2⟩
  | .bo n d', h => cases e; exact ⟨Hi, a, Bor.mono (Evl.Ex.refl _) s0 n d' x h⟩
  | .us n d', h => cases e; exact ⟨Hi, a, h⟩
theorem ArgOk.step {G : Gt} {Hi H Hi' H' : Hp} (a : Step Hi H Hi' H') {r : Vl} {x : V} (h : ArgOk G Hi H r x) : ArgOk G Hi' H' r x := by
  match r, h with
  | .sh d, h => exact Rep.mono a.i d x h
  | .bo n d, h => exact Bor.mono a.i a.h n d x h
theorem ArgsOk.step {G : Gt} {Hi H Hi' H' : Hp} (a : Step Hi H Hi' H') : ∀ {rs : List Vl} {xs : List V}, ArgsOk G Hi H rs xs → ArgsOk G Hi' H' rs xs
  | [], _, h => h
  | r :: rs, _, h => by
    obtain ⟨x, ys, h1, h2, h3⟩ := h
    exact ⟨x, ys, h1, h2.step a, ArgsOk.step a h3⟩
theorem ArgsOk.length {G : Gt} {Hi H : Hp} : ∀ {as : List Vl} {xs : List V}, ArgsOk G Hi H as xs → as.length = xs.length
  | [], _, h => by cases (show _ = [] from h); rfl
  | r :: rs, _, h => by
    obtain ⟨x, ys, rfl, _, h3⟩ := h
    simp [ArgsOk.length h3]
/-- as a value of the def that is at work -/
theorem ArgOk.vl {G : Gt} {H0 Hb Hi H : Hp} {r : Vl} {x : V} (h : ArgOk G Hi H r x) : VlOk G H Hb Hi H r x := by
  match r, h with
  | .sh d, h => exact h
  | .bo n d, h => exact h
theorem r_cmp (hk : C.X.K = C.G.K) (hu : C.X.A.units + 65 < cLine) {op : CmpOp} (ha : RE C pa a) (hb : RE C pb b) (hm : behindInMarks op pb = false) : RE C (.Compare pa [op] [pb] pos) (.cmp op a b) := by
  intro ε o h Hi0 H0 Hi H σ Q I k
  simp only [evalD] at h
  rcases two_cases h with ⟨c, ns, ds, rfl, h1⟩ | ⟨x, y, h1, h2, h3⟩
  · exact tU_of (pe_cmpR op0 peU peU hm) (two_er ha hb h1 I k)
  · obtain ⟨b', h4, h5⟩ := rbl_some h3
    cases rp_some h5
    obtain ⟨rr, ho, hr⟩ := cmpD_ok hk hu h4
    exact tU_of (pe_cmpR ho peU peU hm) (two_ok ha hb h1 h2 I fun Hi' H' u v s I2 e0 o1 o2 => hr _ _ _ _ _ _ _ _ s.s e0 o1 o2 (k Hi' H' _ s rfl))
theorem t_cmp (hk : C.X.K = C.G.K) (hu : C.X.A.units + 65 < cLine) {op : CmpOp} (ha : RE C pa a) (hb : RE C pb b) (hm : behindInMarks op pb = false) : RT C (.Compare pa [op] [pb] pos) (.cmp op a b) := by
  intro ε o h Hi0 H0 Hi H σ Q I k
  simp only [testD] at h
  rcases two_cases h with ⟨c, ns, ds, rfl, h1⟩ | ⟨x, y, h1, h2, h3⟩
  · exact tUT_of (pt_cmpR op0 peU peU hm) (two_er ha hb h1 I k)
  · obtain ⟨b', h4, rfl⟩ := rl_some h3
    obtain ⟨rr, ho, hr⟩ := cmpD_ok hk hu h4
    exact tUT_of (pt_cmpR ho peU peU hm) (two_ok ha hb h1 h2 I fun Hi' H' u v s I2 e0 o1 o2 => hr _ _ _ _ _ _ _ _ s.s e0 o1 o2 ⟨b', rfl, k Hi' H' s⟩)
theorem chain_ok (hk : C.X.K = C.G.K) (hu : C.X.A.units + 65 < cLine) {o1 o2 : CmpOp} (ha : RE C pa a) (hb : RE C pb b) (hc : RE C pc c) {ε : Env} {r : Rz Bool}
    (h : (rb (evalD C.Φ a ε) fun x => rb (evalD C.Φ b ε) fun y => rb (rl (cmpD o1 x.d y.d)) fun t => if t = true then rb (evalD C.Φ c ε) fun z => rl (cmpD o2 y.d z.d) else rp false) = some r) : ∃ rr rr', OpR C.X (compareOp o1) rr ∧ OpR C.X (compareOp o2) rr' ∧ ∀ Hi0 H0 Hi H σ (Q : VK), EnvOk C.G C.xp Hi0 H0 Hi H σ ε → GoodT C Hi H σ (fun b H => Q (.bl b) H) r →
        tChain rr rr' (tU C.X pa) (tU C.X pb) (tU C.X pc) σ H Q := by
  rcases two_cases h with ⟨c, ns, ds, rfl, h1⟩ | ⟨x, y, h1, h2, h3⟩
  · exact ⟨_, _, op0, op0, fun Hi0 H0 Hi H σ Q I k => two_er ha hb h1 I k⟩
  · obtain ⟨b1, h4, h5⟩ := rbl_some h3
    obtain ⟨rr, ho, hr⟩ := cmpD_ok hk hu h4
    cases b1 with
    | true =>
      rw [if_pos rfl] at h5
      rcases rb_some h5 with ⟨c', ns, ds, h6, rfl⟩ | ⟨z, h6, h7⟩
      · refine ⟨rr, _, ho, op0, fun Hi0 H0 Hi H σ Q I k => ?_⟩
        refine two_ok ha hb h1 h2 I fun Hi' H' u v s I2 e0 o1 o2 => hr _ _ _ _ _ _ _ _ s.s e0 o1 o2 ⟨true, rfl, ?_⟩
        rw [if_pos rfl]
        exact hc ε _ h6 Hi0 H0 Hi' H' σ _ I2 (ErOk.step s k)
      · obtain ⟨b2, h8, rfl⟩ := rl_some h7
        obtain ⟨rr', ho', hr'⟩ := cmpD_ok hk hu h8
        refine ⟨rr, rr', ho, ho', fun Hi0 H0 Hi H σ Q I k => ?_⟩
        refine two_ok ha hb h1 h2 I fun Hi' H' u v s I2 e0 o1 o2 => hr _ _ _ _ _ _ _ _ s.s e0 o1 o2 ⟨true, rfl, ?_⟩
        rw [if_pos rfl]
        exact hc ε _ h6 Hi0 H0 Hi' H' σ _ I2 fun Hi2 H2 w s2 o3 => hr' _ _ _ _ _ _ _ _ s2.s (I2.step s2).st.h (o2.step s2) o3 (k Hi2 H2 (s.trans s2))
    | false =>
      rw [if_neg (by decide)] at h5
      cases rp_some h5
      refine ⟨rr, _, ho, op0, fun Hi0 H0 Hi H σ Q I k => ?_⟩
      refine two_ok ha hb h1 h2 I fun Hi' H' u v s I2 e0 o1 o2 => hr _ _ _ _ _ _ _ _ s.s e0 o1 o2 ⟨false, rfl, ?_⟩
      rw [if_neg (by decide)]
      exact k Hi' H' s
theorem r_chn (hk : C.X.K = C.G.K) (hu : C.X.A.units + 65 < cLine) {o1 o2 : CmpOp} (ha : RE C pa a) (hb : RE C pb b) (hc : RE C pc c) (hm : lastMarks [o1, o2] [pb, pc] = false) : RE C (.Compare pa [o1, o2] [pb, pc] pos) (.chn o1 o2 a b c) := by
  intro ε o h Hi0 H0 Hi H σ Q I k
  simp only [evalD] at h
  have h' : ∃ r' : Rz Bool, (o = match r' with | .ok b => .ok (.sh (.bl b)) | .er c ns ds => .er c ns ds) ∧ (rb (evalD C.Φ a ε) fun x => rb (evalD C.Φ b ε) fun y => rb (rl (cmpD o1 x.d y.d)) fun t => if t = true then rb (evalD C.Φ c ε) fun z => rl (cmpD o2 y.d z.d) else rp false) = some r' := by
    rcases rb_some h with ⟨c', ns, ds, h1, rfl⟩ | ⟨x, h1, h2⟩
    · exact ⟨.er c' ns ds, rfl, by rw [h1]; rfl⟩
    · rcases rb_some h2 with ⟨c', ns, ds, h3, rfl⟩ | ⟨y, h3, h4⟩
      · exact ⟨.er c' ns ds, rfl, by rw [h1, h3]; rfl⟩
      · obtain ⟨t, h5, h6⟩ := rbl_some h4
        cases t with
        | true =>
          rw [if_pos rfl] at h6
          rcases rb_some h6 with ⟨c', ns, ds, h7, rfl⟩ | ⟨z, h7, h8⟩
          · exact ⟨.er c' ns ds, rfl, by rw [h1, h3]; simp [rb, rl, h5, h7]⟩
          · obtain ⟨b2, h9, h10⟩ := rbl_some h8
            cases rp_some h10
            exact ⟨.ok b2, rfl, by rw [h1, h3]; simp [rb, rl, h5, h7, h9]⟩
        | false =>
          rw [if_neg (by decide)] at h6
          cases rp_some h6
          exact ⟨.ok false, rfl, by rw [h1, h3]; simp [rb, rl, h5, rp]⟩
  obtain ⟨r', rfl, h'⟩ := h'
  obtain ⟨rr, rr', ho, ho', hh⟩ := chain_ok hk hu ha hb hc h'
  refine tU_of (pe_chain ho ho' peU peU peU hm) (hh Hi0 H0 Hi H σ Q I ?_)
  cases r' with
  | ok b => exact fun Hi' H' s => k Hi' H' _ s rfl
  | er c ns ds => exact k
theorem t_chn (hk : C.X.K = C.G.K) (hu : C.X.A.units + 65 < cLine) {o1 o2 : CmpOp} (ha : RE C pa a) (hb : RE C pb b) (hc : RE C pc c) (hm : lastMarks [o1, o2] [pb, pc] = false) : RT C (.Compare pa [o1, o2] [pb, pc] pos) (.chn o1 o2 a b c) := by
  intro ε r h Hi0 H0 Hi H σ Q I k
  simp only [testD] at h
  obtain ⟨rr, rr', ho, ho', hh⟩ := chain_ok hk hu ha hb hc h
  refine tUT_of (pt_chain ho ho' peU peU peU hm) (hh Hi0 H0 Hi H σ _ I ?_)
  cases r with
  | ok b => exact fun Hi' H' s => ⟨b, rfl, k Hi' H' s⟩
  | er c ns ds => exact k
theorem r_ife (hc : RT C pc c) (ha : RE C pa a) (hb : RE C pb b) : RE C (.IfExp pc pa pb pos) (.ife c a b) := by
  intro ε o h Hi0 H0 Hi H σ Q I k
  simp only [evalD] at h
  refine tU_of (pe_ifExp ptU peU peU) (unT hc h I (erV k) fun t h3 Hi1 H1 s1 I1 => ?_)
  cases t with
  | true =>
    rw [if_pos rfl] at h3 ⊢
    exact ha ε _ h3 Hi0 H0 Hi1 H1 σ _ I1 (k.step s1)
  | false =>
    rw [if_neg (by decide)] at h3 ⊢
    exact hb ε _ h3 Hi0 H0 Hi1 H1 σ _ I1 (k.step s1)
/-! subscripts -/
theorem atI_j {α : Type} {xs : List α} {i : Int} {d : α} (e : atI xs i = some d) : ∃ j : Nat, ixN xs.length i = some j ∧ xs[j]? = some d := by
  unfold atI at e
  simp only [Option.bind_eq_some_iff] at e
  exact e
theorem atI_of {α : Type} {xs : List α} {n : Nat} {i : Int} {j : Nat} {d : α} (hl : xs.length = n) (e1 : ixN n i = some j) (e2 : xs[j]? = some d) : atI xs i = some d := by
  unfold atI
  rw [hl]
  simp only [Option.bind_eq_some_iff]
  exact ⟨j, e1, e2⟩
theorem VlOk.dct {G : Gt} {H0 Hb Hi H : Hp} {r : Vl} {x : V} {ks : Ky} {xs : List D} (s : Ex Hi H) (s0 : Ex H0 H) (h : VlOk G H0 Hb Hi H r x) (e : r.d = .dct ks xs) (hl : r.low = true) : ∃ p vs, x = .ref p ∧ H p = some (ks.ho vs) ∧ ks.length = xs.length ∧ RepL G Hi xs vs := by
  obtain ⟨n, h1, h2⟩ := h.bor s s0
  have h2 := h2 hl
  rw [e] at h1
  cases n with
  | zero =>
    unfold Bor at h1
    obtain ⟨p, vs, e1, e2, e3, e4⟩ := h1
    exact ⟨p, vs, e1, s _ _ e2, e3, e4⟩
  | succ n =>
    obtain ⟨p, vs, e1, e2, e3, e4⟩ := h1
    obtain rfl : n = 0 := by omega
    exact ⟨p, vs, e1, e2, e3, e4.zero⟩
theorem ixD_ok (hk : C.X.K = C.G.K) (hu : C.X.A.units + 65 < cLine) {x y r : Vl} (h : ixD x y = some r) : ∃ rr, IxR C.X rr ∧ OpOk C.G rr x y r := by
  unfold ixD at h
  split at h
  · rename_i xs i ex ey
    simp only [Option.bind_eq_some_iff] at h
    obtain ⟨d, h1, h2⟩ := h
    obtain ⟨j, g1, g2⟩ := atI_j h1
    refine ⟨_, ix_list, fun _ _ Hi H u v Q e e0 o1 o2 k => ?_⟩
    obtain ⟨p, vs, w, e1, _, e2, _, e4, e5, e6⟩ := part_ok e e0 o1 (.inl ex) g2 h2
    exact ⟨p, vs, _, w, e1, int_of e e0 o2 ey, SqL.of (e2 ex), atI_of e4 g1 e5, k Hi H w (Step.refl e) e6⟩
  · rename_i xs i ex ey
    simp only [Option.bind_eq_some_iff] at h
    obtain ⟨d, h1, h2⟩ := h
    obtain ⟨j, g1, g2⟩ := atI_j h1
    refine ⟨_, ix_tup, fun _ _ Hi H u v Q e e0 o1 o2 k => ?_⟩
    obtain ⟨p, vs, w, e1, _, _, e2, e4, e5, e6⟩ := part_ok e e0 o1 (.inr ex) g2 h2
    exact ⟨p, vs, _, w, e1, int_of e e0 o2 ey, SqT.of (e2 ex), atI_of e4 g1 e5, k Hi H w (Step.refl e) e6⟩
  · rename_i ns i ex ey
    simp only [Option.map_eq_some_iff] at h
    obtain ⟨n, h1, rfl⟩ := h
    obtain ⟨j, g1, g2⟩ := atI_j h1
    refine ⟨_, ix_list, fun _ _ Hi H u v Q e e0 o1 o2 k => ?_⟩
    obtain ⟨p, e1, e2⟩ := scr_of e e0 o1 ex
    rw [hk]
    exact ⟨p, _, _, _, e1, int_of e e0 o2 ey, e2, atI_of (d := V.int n) (List.length_map _) g1 (by rw [List.getElem?_map, g2]; rfl), k Hi H _ (Step.refl e) rfl⟩
  · rename_i z i ex ey
    split at h
    case isFalse => cases h
    case isTrue hz =>
    simp only [Option.map_eq_some_iff] at h
    obtain ⟨c, h1, rfl⟩ := h
    exact ⟨_, ix_str, fun _ _ Hi H u v Q e e0 o1 o2 k => ⟨_, _, _, str_of e e0 o1 ex, int_of e e0 o2 ey, sz5 hz, h1, k Hi H _ (Step.refl e) rfl⟩⟩
  · rename_i ks xs ex
    simp only [Option.bind_eq_some_iff] at h
    obtain ⟨o, h1, i, h2, d, h3, h4⟩ := h
    split at h4
    case isFalse => cases h4
    case isTrue hlow =>
    cases h4
    refine ⟨_, ix_dict (by omega), fun _ _ Hi H u v Q e e0 o1 o2 k => ?_⟩
    obtain ⟨p, vs, e1, e2, e3, e4⟩ := o1.dct e e0 ex hlow
    have r2 := o2.rep e e0
    obtain ⟨ov, g1, g2, _⟩ := dget_ok e2 h1 r2
    obtain ⟨w, f1, f2⟩ := e4.get h3
    rw [g2 i w h2 f1] at g1
    exact ⟨p, w, e1, g1, k Hi H w (Step.refl e) f2⟩
  · cases h
theorem ix0 {X : Cx} : IxR X (fun _ _ _ _ => False) := fun _ _ _ _ _ _ _ _ _ _ _ _ _ _ z _ => z.elim
theorem r_ix (hk : C.X.K = C.G.K) (hu : C.X.A.units + 65 < cLine) (ha : RE C pa a) (hb : RE C pb b) (hs : PlainIx pb) : RE C (.Subscript pa pb pos) (.ix a b) := by
  intro ε o h Hi0 H0 Hi H σ Q I k
  simp only [evalD] at h
  rcases two_cases h with ⟨c, ns, ds, rfl, h1⟩ | ⟨x, y, h1, h2, h3⟩
  · exact tU_of (pe_ix ix0 peU peU hs) (two_er ha hb h1 I k)
  · obtain ⟨r, h4, rfl⟩ := rl_some h3
    obtain ⟨rr, ho, hr⟩ := ixD_ok hk hu h4
    refine tU_of (pe_ix ho peU peU hs) (two_ok ha hb h1 h2 I fun Hi' H' u v s I2 e0 o1 o2 => hr _ _ _ _ _ _ _ s.s e0 o1 o2 fun Hi2 H2 z s2 o3 => ?_)
    exact k Hi2 H2 z (s.trans s2) (o3.back s.h)
def RO (C : Ctx) (po : Option Expr) (o : Epo) : Prop := ∃ t, PO C.X po t ∧ ∀ ε r, partD C.Φ o ε = some r → ∀ Hi0 H0 Hi H σ (Q : Option Int → Hp → Prop), EnvOk C.G C.xp Hi0 H0 Hi H σ ε → GoodT C Hi H σ Q r → t σ H Q
theorem o_no : RO C none .no := ⟨_, po_none, fun ε i h Hi0 H0 Hi H σ Q I k => by
  simp only [partD] at h
  cases rp_some h
  exact k Hi H (Step.refl I.st.s)⟩
theorem o_so (ha : RE C pa a) : RO C (some pa) (.so a) := ⟨_, po_some peU, fun ε i h Hi0 H0 Hi H σ Q I k => by
  simp only [partD] at h
  refine un1 ha h I (erT k) fun x h1 Hi1 H1 u s1 I1 e0 o1 => ?_
  obtain ⟨j, h2, h3⟩ := rbl_some h1
  cases rp_some h3
  exact ⟨j, int_of s1.s e0 o1 (asI_some h2), k Hi1 H1 s1⟩⟩
theorem cut_rep {G : Gt} {Hi : Hp} {xs : List D} {vs : List V} {lo hi : Option Int} (h : RepL G Hi xs vs) : RepL G Hi (cutD xs lo hi) (cutV vs lo hi) := by
  unfold cutD cutV
  rw [← h.length]
  exact (h.drop _).take _
/-- what a slice's rule asks, answered by the data -/
def OpOkS (G : Gt) (rr : V → Option Int → Option Int → Hp → VK → Prop) (x : Vl) (i j : Option Int) (r : Vl) : Prop := ∀ H0 Hb Hi H u (Q : VK), Ex Hi H → Ex H0 H → VlOk G H0 Hb Hi H x u → (∀ Hi' H' z, Step Hi H Hi' H' → VlOk G H0 H Hi' H' r z → Q z H') → rr u i j H Q
theorem r_sl (hk : C.X.K = C.G.K) {lo hi : Option Expr} {l h' : Epo} {p2 : Pos} (ha : RE C pa a) (hl : RO C lo l) (hh : RO C hi h') : RE C (.Subscript pa (.Slice lo hi none p2) pos) (.sl a l h') := by
  intro ε o h Hi0 H0 Hi H σ Q I k
  simp only [evalD] at h
  obtain ⟨tl, pl, kl⟩ := hl
  obtain ⟨th, ph, kh⟩ := hh
  rcases rb_some h with ⟨c, ns, ds, h0, rfl⟩ | ⟨x, h0, h1⟩
  · exact tU_of (pe_slice sl_list peU pl ph) (ha ε _ h0 Hi0 H0 Hi H σ _ I k)
  have go : ∀ rr : V → Option Int → Option Int → Hp → VK → Prop, SlR C.X rr → (∀ i j r, slD x i j = some r → OpOkS C.G rr x i j r) → tU C.X (.Subscript pa (.Slice lo hi none p2) pos) σ H Q := fun rr hrr hs => by
    refine tU_of (pe_slice hrr peU pl ph) (ha ε _ h0 Hi0 H0 Hi H σ _ I fun Hi1 H1 u s1 o1 => ?_)
    have I1 := I.step s1
    rcases rb_some h1 with ⟨c, ns, ds, h2, rfl⟩ | ⟨i, h2, h3⟩
    · exact kl ε _ h2 Hi0 H0 Hi1 H1 σ _ I1 (ErOk.step s1 k)
    refine kl ε _ h2 Hi0 H0 Hi1 H1 σ _ I1 fun Hi2 H2 s2 => ?_
    rcases rb_some h3 with ⟨c, ns, ds, h4, rfl⟩ | ⟨j, h4, h5⟩
    · exact kh ε _ h4 Hi0 H0 Hi2 H2 σ _ (I1.step s2) (ErOk.step (s1.trans s2) k)
    refine kh ε _ h4 Hi0 H0 Hi2 H2 σ _ (I1.step s2) fun Hi3 H3 s3 => ?_
    obtain ⟨r, h6, rfl⟩ := rl_some h5
    exact hs i j r h6 H0 H Hi3 H3 u Q s3.s ((I1.step s2).step s3).st.h ((o1.step s2).step s3) fun Hi' H' z st oz => k Hi' H' z (((s1.trans s2).trans s3).trans st) (oz.back ((s1.trans s2).trans s3).h)
  generalize ex : x.d = dx
  cases dx with
  | lst xs =>
    refine go _ sl_list fun i j r h6 => ?_
    unfold slD at h6
    rw [ex] at h6
    simp only at h6
    split at h6
    · rename_i hlow
      cases h6
      intro H0 Hb Hi3 H3 u Q s3 e0 o3 k3
      obtain ⟨p, vs, e1, e2, _, e3⟩ := o3.lst s3 e0 ex
      exact ⟨p, vs, e1, SqL.of e2, fun q hq => k3 Hi3 _ _ (Step.own s3 hq) (own1 (Evl.Ex.refl _) s3 hq (cut_rep (e3 hlow)))⟩
    · cases h6
  | str z =>
    refine go _ C8.sl_txt fun i j r h6 => ?_
    unfold slD at h6
    rw [ex] at h6
    simp only at h6
    split at h6
    · rename_i hz
      cases h6
      intro H0 Hb Hi3 H3 u Q s3 e0 o3 k3
      exact ⟨z, str_of s3 e0 o3 ex, sz5 hz, k3 Hi3 H3 _ (Step.refl s3) rfl⟩
    · cases h6
  | _ =>
    refine go _ sl_list fun i j r h6 => ?_
    unfold slD at h6
    rw [ex] at h6
    cases h6
/-! argument lists and displays -/
theorem a_nil : RA C [] .nil := fun ε rs h Hi0 H0 Hi H σ Q I k => by
  simp only [argsD] at h
  cases rp_some h
  exact tUA_of pa_nil (k Hi H [] (Step.refl I.st.s) rfl)
def isStar : Expr → Bool
  | .Starred _ _ => true
  | _ => false
theorem star_no {e : Expr} {es : List Expr} {env : PySem.Env} (h : isStar e = false) : starEach (e :: es) env = (false, eval e env) :: starEach es env := by
  cases e <;> first | rfl | cases h
theorem a_cons {pes : List Expr} {es : Eps} (ha : RE C pa a) (hr : RA C pes es) (hs : isStar pa = false) : RA C (pa :: pes) (.cons a es) := fun ε o h Hi0 H0 Hi H σ Q I k => by
  simp only [argsD] at h
  refine tUA_of (pa_cons peU paU (star_no hs)) (un1 ha h I (erA k) fun x h1 Hi1 H1 u s1 I1 e0 o1 => ?_)
  obtain ⟨q, h2, h3⟩ := rbl_some h1
  obtain ⟨Hi2, s2, o2⟩ := o1.arg s1 e0 h2
  refine unA hr h3 (I.step s2) (erStep s2 (erA k)) fun rs h4 Hi3 H3 xs s3 I3 o3 => ?_
  cases rp_some h4
  exact k Hi3 H3 (u :: xs) (s2.trans s3) ⟨u, xs, rfl, o2.step s3, o3⟩
theorem k_nil : RK C [] .nil := fun ε rs h Hi0 H0 Hi H σ Q I k => by
  simp only [keepsD] at h
  cases rp_some h
  exact tUA_of pa_nil (k Hi H [] (Step.refl I.st.s) rfl)
theorem k_cons {pes : List Expr} {es : Eps} (ha : RE C pa a) (hr : RK C pes es) (hs : isStar pa = false) : RK C (pa :: pes) (.cons a es) := fun ε o h Hi0 H0 Hi H σ Q I k => by
  simp only [keepsD] at h
  refine tUA_of (pa_cons peU paU (star_no hs)) (un1 ha h I (erK k) fun x h1 Hi1 H1 u s1 I1 e0 o1 => ?_)
  obtain ⟨d, h2, h3⟩ := rbl_some h1
  obtain ⟨Hi2, _, s2, o2⟩ := o1.keep s1 h2
  refine unK hr h3 (I.step s2) (erStep s2 (erK k)) fun rs h4 Hi3 H3 xs s3 I3 o3 => ?_
  cases rp_some h4
  exact k Hi3 H3 (u :: xs) (s2.trans s3) ⟨u, xs, rfl, Rep.mono s3.i d u o2, o3⟩
theorem r_tup {pes : List Expr} {es : Eps} {x1 : Nat} (h : RK C pes es) : RE C (.Tuple pes x1 pos) (.tup es) := by
  intro ε o hh Hi0 H0 Hi H σ Q I k
  simp only [evalD] at hh
  refine tU_of (pe_tup paU) (unK h hh I (erV k) fun ds h2 Hi1 H1 xs s1 I1 o1 => ?_)
  split at h2
  · rename_i hl
    cases rp_some h2
    refine ⟨sz5 (by rw [← o1.length]; omega), fun p hp => ?_⟩
    have s2 := Step.new (o := .tup xs) s1.s hp
    exact k _ _ _ (s1.trans s2) ⟨p, xs, rfl, upd_same, RepL.mono s2.i _ _ o1⟩
  · cases h2
theorem r_lst {pes : List Expr} {es : Eps} (h : RK C pes es) : RE C (.List pes pos) (.lst es) := by
  intro ε o hh Hi0 H0 Hi H σ Q I k
  simp only [evalD] at hh
  refine tU_of (pe_lst paU) (unK h hh I (erV k) fun ds h2 Hi1 H1 xs s1 I1 o1 => ?_)
  split at h2
  · rename_i hl
    cases rp_some h2
    refine ⟨sz5 (by rw [← o1.length]; omega), fun p hp => ?_⟩
    exact k _ _ _ (s1.trans (Step.own s1.s hp)) (own1 s1.h s1.s hp o1)
  · cases h2
/-- items that are kept as one's own; Hb: the heap ahead of them -/
def GoodN (C : Ctx) (m : Nat) (Hi H : Hp) (σ : L2.St) (Q : List V → Hp → Prop) : Rz (List D) → Prop
  | .ok ds => ∀ Hi' H' xs fp, Step Hi H Hi' H' → Owns C.G Hi' H' m ds xs fp → fp.Nodup → (∀ p ∈ fp, Hi' p = none ∧ H p = none) → Q xs H'
  | .er c ns ds => ErOk C Hi H σ c ns ds
def RN (C : Ctx) (m : Nat) (pes : List Expr) (es : Eps) : Prop := ∀ ε o, keepnD C.Φ m es ε = some o → ∀ Hi0 H0 Hi H σ (Q : List V → Hp → Prop), EnvOk C.G C.xp Hi0 H0 Hi H σ ε → GoodN C m Hi H σ Q o → tUA C.X pes σ H Q
theorem n_nil {m : Nat} : RN C m [] .nil := fun ε rs h Hi0 H0 Hi H σ Q I k => by
  simp only [keepnD] at h
  cases rp_some h
  exact tUA_of pa_nil (k Hi H [] [] (Step.refl I.st.s) ⟨rfl, rfl⟩ List.nodup_nil (fun p hp => nomatch hp))
theorem n_cons {m : Nat} {pes : List Expr} {es : Eps} (ha : RE C pa a) (hr : RN C m pes es) (hs : isStar pa = false) : RN C m (pa :: pes) (.cons a es) := fun ε o h Hi0 H0 Hi H σ Q I k => by
  simp only [keepnD] at h
  have ke : ∀ c ns ds, o = .er c ns ds → ErOk C Hi H σ c ns ds := fun c ns ds z => by subst z; exact k
  refine tUA_of (pa_cons peU paU (star_no hs)) (un1 ha h I ke fun x h1 Hi1 H1 u s1 I1 e0 o1 => ?_)
  obtain ⟨d, h2, h3⟩ := rbl_some h1
  obtain ⟨Hi2, _, s2, fp, o2, o3, o4⟩ := o1.keepN s1 h2
  rcases rb_some h3 with ⟨c, ns, ds, h4, h5⟩ | ⟨rs, h4, h5⟩
  · exact hr ε _ h4 Hi0 H0 Hi2 H1 σ _ (I.step s2) (ErOk.step s2 (ke c ns ds h5))
  · cases rp_some h5
    refine hr ε _ h4 Hi0 H0 Hi2 H1 σ _ (I.step s2) fun Hi3 H3 xs fq s3 q1 q2 q3 => ?_
    have st : ∀ p ∈ fp, H1 p ≠ none := Own.mem m d u fp o2
    refine k Hi3 H3 (u :: xs) (fp ++ fq) (s2.trans s3) ⟨u, xs, fp, fq, rfl, rfl, Own.keep s3.i m d u fp (fun p hp => at_of s3.h (st p hp)) o2, q1⟩ ?_ fun p hp => ?_
    · rw [List.nodup_append]
      refine ⟨o3, q2, fun x hx y hy z => ?_⟩
      subst z
      exact st x hx (q3 x hy).2
    · rcases List.mem_append.mp hp with hp | hp
      · exact ⟨s3.n p (st p hp) (o4 p hp).1, (o4 p hp).2⟩
      · exact ⟨(q3 p hp).1, Evl.fresh_back s2.h (q3 p hp).2⟩
theorem r_lstd {m : Nat} {pes : List Expr} {es : Eps} (h : RN C m pes es) : RE C (.List pes pos) (.lstd m es) := by
  intro ε o hh Hi0 H0 Hi H σ Q I k
  simp only [evalD] at hh
  refine tU_of (pe_lst paU) ?_
  rcases rb_some hh with ⟨c, ns, ds, h1, rfl⟩ | ⟨ds, h1, h2⟩
  · exact h ε _ h1 Hi0 H0 Hi H σ _ I k
  split at h2
  · rename_i hl
    cases rp_some h2
    refine h ε _ h1 Hi0 H0 Hi H σ _ I fun Hi1 H1 xs fp s1 o1 o2 o3 => ?_
    have hlen : ds.length = xs.length := (Owns.bor s1.s _ _ _ _ o1).length
    refine ⟨sz5 (by rw [← hlen]; omega), fun p hp => ?_⟩
    have hn : p ∉ fp := fun z => Owns.mem _ _ _ _ o1 p z hp
    refine k _ _ _ (s1.trans (Step.own s1.s hp)) ⟨p :: fp, ⟨p, xs, fp, rfl, upd_same, rfl, Owns.keep (Evl.Ex.refl _) _ _ _ _ (fun q hq => upd_ne (fun z => hn (z ▸ hq))) o1⟩, List.nodup_cons.mpr ⟨hn, o2⟩, fun q hq => ?_⟩
    rcases List.mem_cons.mp hq with rfl | hq
    · exact ⟨Evl.fresh_back s1.s hp, s1.fresh hp⟩
    · exact o3 q hq
  · cases h2
/-- {} -/
theorem r_dnw {t : Bool} : RE C (.Dict [] [] pos) (.dnw t) := by
  intro ε o hh Hi0 H0 Hi H σ Q I k
  simp only [evalD] at hh
  cases rp_some hh
  cases t with
  | true =>
    refine tU_of pe_dnewT fun p hp => k _ _ _ (Step.own I.st.s hp) ⟨[p], ⟨p, [], [], rfl, upd_same, rfl, rfl, rfl, rfl⟩, by simp, fun q hq => ?_⟩
    simp at hq; subst hq
    exact ⟨Evl.fresh_back I.st.s hp, hp⟩
  | false =>
    refine tU_of pe_dnewK fun p hp => k _ _ _ (Step.own I.st.s hp) ⟨[p], ⟨p, [], [], rfl, upd_same, rfl, rfl, rfl, rfl⟩, by simp, fun q hq => ?_⟩
    simp at hq; subst hq
    exact ⟨Evl.fresh_back I.st.s hp, hp⟩
end
end EG
namespace EG
open PySem L2

/-! ### the mathematics of max, min, sorted -/
theorem maxL_spec : ∀ ns : List Int, ns ≠ [] → maxL ns ∈ ns ∧ ∀ y ∈ ns, y ≤ maxL ns
  | [], h => absurd rfl h
  | [x], _ => ⟨by simp [maxL], by simp [maxL]⟩
  | x :: y :: r, _ => by
    obtain ⟨h1, h2⟩ := maxL_spec (y :: r) (by simp)
    have e : maxL (x :: y :: r) = max x (maxL (y :: r)) := rfl
    rw [e]
    refine ⟨?_, fun z hz => ?_⟩
    · by_cases c : x ≤ maxL (y :: r)
      · rw [Int.max_eq_right c]; exact List.mem_cons_of_mem _ h1
      · rw [Int.max_eq_left (by omega)]; exact List.mem_cons_self
    · rcases List.mem_cons.mp hz with rfl | hz
      · omega
      · have := h2 z hz; omega
theorem minL_spec : ∀ ns : List Int, ns ≠ [] → minL ns ∈ ns ∧ ∀ y ∈ ns, minL ns ≤ y
  | [], h => absurd rfl h
  | [x], _ => ⟨by simp [minL], by simp [minL]⟩
  | x :: y :: r, _ => by
    obtain ⟨h1, h2⟩ := minL_spec (y :: r) (by simp)
    have e : minL (x :: y :: r) = min x (minL (y :: r)) := rfl
    rw [e]
    refine ⟨?_, fun z hz => ?_⟩
    · by_cases c : x ≤ minL (y :: r)
      · rw [Int.min_eq_left c]; exact List.mem_cons_self
      · rw [Int.min_eq_right (by omega)]; exact List.mem_cons_of_mem _ h1
    · rcases List.mem_cons.mp hz with rfl | hz
      · omega
      · have := h2 z hz; omega
theorem leP_iff {p q : Int × Int} : leP p q = true ↔ (p.1 < q.1 ∨ (p.1 = q.1 ∧ p.2 ≤ q.2)) := by unfold leP; exact decide_eq_true_iff
theorem insP_perm (p : Int × Int) : ∀ l, (insP p l).Perm (p :: l)
  | [] => List.Perm.refl _
  | q :: r => by
    unfold insP
    split
    · exact List.Perm.refl _
    · exact ((insP_perm p r).cons q).trans (List.Perm.swap p q r)
theorem sortP_perm : ∀ l, (sortP l).Perm l
  | [] => List.Perm.refl _
  | p :: r => (insP_perm p (sortP r)).trans ((sortP_perm r).cons p)
theorem insP_sorted (p : Int × Int) : ∀ l : List (Int × Int), l.Pairwise (fun a b => leP a b = true) → (insP p l).Pairwise (fun a b => leP a b = true)
  | [], _ => List.pairwise_singleton _ _
  | q :: r, h => by
    unfold insP
    obtain ⟨h1, h2⟩ := List.pairwise_cons.mp h
    split
    · rename_i c
      refine List.pairwise_cons.mpr ⟨fun z hz => ?_, h⟩
      rcases List.mem_cons.mp hz with rfl | hz
      · exact c
      · have := leP_iff.mp (h1 z hz)
        have := leP_iff.mp c
        exact leP_iff.mpr (by omega)
    · rename_i c
      refine List.pairwise_cons.mpr ⟨fun z hz => ?_, insP_sorted p r h2⟩
      rcases List.mem_cons.mp ((insP_perm p r).mem_iff.mp hz) with rfl | hz
      · have c' : ¬ (z.1 < q.1 ∨ (z.1 = q.1 ∧ z.2 ≤ q.2)) := fun k => c (leP_iff.mpr k)
        exact leP_iff.mpr (by omega)
      · exact h1 z hz
theorem sortP_sorted : ∀ l, (sortP l).Pairwise (fun a b => leP a b = true)
  | [] => List.Pairwise.nil
  | p :: r => insP_sorted p _ (sortP_sorted r)
theorem sortP_uniq {l m : List (Int × Int)} (hp : l.Perm m) (hs : l.Pairwise (fun a b => leP a b = true)) : l = sortP m := by
  refine List.Perm.eq_of_pairwise (fun a b _ _ h1 h2 => ?_) hs (sortP_sorted m) (hp.trans (sortP_perm m).symm)
  have := leP_iff.mp h1
  have := leP_iff.mp h2
  exact Prod.ext (by omega) (by omega)

theorem insI_perm (p : Int) : ∀ l, (insI p l).Perm (p :: l)
  | [] => List.Perm.refl _
  | q :: r => by
    unfold insI
    split
    · exact List.Perm.refl _
    · exact ((insI_perm p r).cons q).trans (List.Perm.swap p q r)
theorem sortI_perm : ∀ l, (sortI l).Perm l
  | [] => List.Perm.refl _
  | p :: r => (insI_perm p (sortI r)).trans ((sortI_perm r).cons p)
theorem insI_sorted (p : Int) : ∀ l : List Int, l.Pairwise (· ≤ ·) → (insI p l).Pairwise (· ≤ ·)
  | [], _ => List.pairwise_singleton _ _
  | q :: r, h => by
    unfold insI
    obtain ⟨h1, h2⟩ := List.pairwise_cons.mp h
    split
    · rename_i c
      refine List.pairwise_cons.mpr ⟨fun z hz => ?_, h⟩
      rcases List.mem_cons.mp hz with rfl | hz
      · exact c
      · have := h1 z hz; omega
    · rename_i c
      refine List.pairwise_cons.mpr ⟨fun z hz => ?_, insI_sorted p r h2⟩
      rcases List.mem_cons.mp ((insI_perm p r).mem_iff.mp hz) with rfl | hz
      · omega
      · exact h1 z hz
theorem sortI_sorted : ∀ l, (sortI l).Pairwise (· ≤ ·)
  | [] => List.Pairwise.nil
  | p :: r => insI_sorted p _ (sortI_sorted r)
theorem sortI_uniq {l m : List Int} (hp : l.Perm m) (hs : l.Pairwise (· ≤ ·)) : l = sortI m :=
  List.Perm.eq_of_pairwise (fun a b _ _ h1 h2 => Int.le_antisymm h1 h2) hs (sortI_sorted m) (hp.trans (sortI_perm m).symm)
/-! texts in order -/
theorem leS_iff {x y : Str} : leS x y = true ↔ x.cps.toList ≤ y.cps.toList := by
  unfold leS
  rw [PyProof.Rows.ltCps_eq, Bool.not_eq_true', decide_eq_false_iff_not, List.not_lt]
theorem leS_trans {x y z : Str} (h1 : leS x y = true) (h2 : leS y z = true) : leS x z = true := leS_iff.mpr (List.le_trans (leS_iff.mp h1) (leS_iff.mp h2))
theorem leS_total {x y : Str} (h : ¬ leS x y = true) : leS y x = true := by
  rcases List.le_total x.cps.toList y.cps.toList with c | c
  · exact absurd (leS_iff.mpr c) h
  · exact leS_iff.mpr c
theorem leS_anti {x y : Str} (h1 : leS x y = true) (h2 : leS y x = true) : x = y := Str.ext' (Array.toList_inj.mp (List.le_antisymm (leS_iff.mp h1) (leS_iff.mp h2)))
theorem insS_perm (p : Str) : ∀ l, (insS p l).Perm (p :: l)
  | [] => List.Perm.refl _
  | q :: r => by
    unfold insS
    split
    · exact List.Perm.refl _
    · exact ((insS_perm p r).cons q).trans (List.Perm.swap p q r)
theorem sortS_perm : ∀ l, (sortS l).Perm l
  | [] => List.Perm.refl _
  | p :: r => (insS_perm p (sortS r)).trans ((sortS_perm r).cons p)
theorem insS_sorted (p : Str) : ∀ l : List Str, l.Pairwise (fun a b => leS a b = true) → (insS p l).Pairwise (fun a b => leS a b = true)
  | [], _ => List.pairwise_singleton _ _
  | q :: r, h => by
    unfold insS
    obtain ⟨h1, h2⟩ := List.pairwise_cons.mp h
    split
    · rename_i c
      refine List.pairwise_cons.mpr ⟨fun z hz => ?_, h⟩
      rcases List.mem_cons.mp hz with rfl | hz
      · exact c
      · exact leS_trans c (h1 z hz)
    · rename_i c
      refine List.pairwise_cons.mpr ⟨fun z hz => ?_, insS_sorted p r h2⟩
      rcases List.mem_cons.mp ((insS_perm p r).mem_iff.mp hz) with rfl | hz
      · exact leS_total c
      · exact h1 z hz
theorem sortS_sorted : ∀ l, (sortS l).Pairwise (fun a b => leS a b = true)
  | [] => List.Pairwise.nil
  | p :: r => insS_sorted p _ (sortS_sorted r)
theorem risingS_pw : ∀ {p : Str} {l : List Str}, PyProof.Rows.risingS p l = true → (p :: l).Pairwise (fun a b => leS a b = true)
  | p, [], _ => List.pairwise_singleton _ _
  | p, x :: r, h => by
    have h' : (leS p x && PyProof.Rows.risingS x r) = true := h
    rw [Bool.and_eq_true] at h'
    have ih := risingS_pw h'.2
    refine List.pairwise_cons.mpr ⟨fun z hz => ?_, ih⟩
    rcases List.mem_cons.mp hz with rfl | hz
    · exact h'.1
    · exact leS_trans h'.1 ((List.pairwise_cons.mp ih).1 z hz)
theorem sortedS_pw : ∀ {l : List Str}, PyProof.Rows.sortedS l = true → l.Pairwise (fun a b => leS a b = true)
  | [], _ => List.Pairwise.nil
  | _ :: _, h => risingS_pw h
theorem sortS_uniq {l m : List Str} (hp : l.Perm m) (hs : PyProof.Rows.sortedS l = true) : l = sortS m :=
  List.Perm.eq_of_pairwise (fun a b _ _ h1 h2 => leS_anti h1 h2) (sortedS_pw hs) (sortS_sorted m) (hp.trans (sortS_perm m).symm)
section
variable {G : Gt} {Hi H : Hp}
theorem strsOf_some : ∀ {ds : List D} {ns : List Str}, strsOf ds = some ns → ds = ns.map D.str
  | [], ns, h => by cases h; rfl
  | .str i :: r, ns, h => by
    simp only [strsOf, Option.map_eq_some_iff] at h
    obtain ⟨ms, h1, rfl⟩ := h
    rw [strsOf_some h1]; rfl
  | .non :: r, ns, h => by cases h
  | .bl _ :: r, ns, h => by cases h
  | .int _ :: r, ns, h => by cases h
  | .lst _ :: r, ns, h => by cases h
  | .tup _ :: r, ns, h => by cases h
  | .scr _ :: r, ns, h => by cases h
  | .obj _ _ _ :: r, ns, h => by cases h
  | .dct _ _ :: r, ns, h => by cases h
theorem strsOf_map : ∀ ns : List Str, strsOf (ns.map D.str) = some ns
  | [] => rfl
  | n :: ns => by simp [strsOf, strsOf_map ns]
theorem RepL.strs : ∀ {ns : List Str} {vs : List V}, RepL G H (ns.map D.str) vs → vs = ns.map V.str
  | [], _, h => by cases h; rfl
  | n :: ns, _, h => by
    obtain ⟨v, vs', rfl, h2, h3⟩ := h
    have h2 : v = .str n := h2
    rw [h2, RepL.strs h3]; rfl
theorem RepL.of_strs : ∀ ns : List Str, RepL G H (ns.map D.str) (ns.map V.str)
  | [] => rfl
  | n :: ns => ⟨_, _, rfl, rfl, RepL.of_strs ns⟩
open PyProof.Rows PySem.Spec in
/-- sorted of a tuple of texts -/
theorem call_sortedTS {X : Cx} : CallR X (.builtin "sorted") (fun xs H Q => ∃ (a : Addr) (ks : List Str), xs = [.ref a] ∧ SqT X.K H a (ks.map V.str) ∧ ks.length < 64 ∧
    ∀ ys p, ys.Perm ks → PyProof.Rows.sortedS ys = true → H p = none → Q (.ref p) (upd H p (.lst (ys.map V.str)))) := by
  intro pins s σ H xs us Q I r q
  obtain ⟨a, ks, ex, hd, h64, q⟩ := q
  subst ex
  obtain ⟨u, eu, rx⟩ := vals1 r
  subst eu
  cases rx
  obtain ⟨its, rv, ⟨o, ho, hc, n, hdd⟩, hz⟩ := I.tuple hd
  have hl := rv.length
  rw [List.length_map] at hl
  refine Calls.call_function_entry PyProof.Rows.kind_sorted PyProof.Rows.plain_sorted PyProof.Rows.entry_sorted (PyProof.Rows.args_sorted1 _) ?_
  unfold Builtin.«sorted»
  refine wpAny_bind (m := PySem.checkCount "sorted" 1 1 _) (wpAny_pure ?_)
  refine wpAny_bind (PySem.wpAny_collect_seq (A := X.A.in1) a (.inr rfl) ho hc hdd (fun h' hk => ?_) (by rw [List.size_toArray, ← hl, sizeLine_eq]; omega))
  have hS : StrsAre its ks := rv.strs
  have I1 : Inv X pins σ H { s with heap := h', toks := s.toks } := I.kept hk
  refine wpAny_bind (wpAny_newList ?_ (by simp only [List.toList_toArray]; rw [← hl, sizeLine_eq]; omega))
  simp only [List.toList_toArray]
  have hoL : (h'.push (seqObj "list" its.toArray 0)).get? h'.objs.size = some (seqObj "list" its.toArray 0) := Heap.get?_push_size _ rfl
  show wpAny _ _ _ _ _ { s with heap := h'.push (seqObj "list" its.toArray 0), toks := s.toks }
  refine wpAny_bind (wpAny_holding (wpAny_call_entry PyProof.Rows.slot_list_sort ⟨_, hoL, rfl⟩ PyProof.Rows.entry_list_sort
    (PyProof.Rows.list_sort_treeK PyProof.Rows.strKind_oneLt (s := { s with heap := h'.push (seqObj "list" its.toArray 0), toks := s.toks }) hoL hS.keysOf (fun v₁ v₂ rest e => PyProof.Rows.keyKind_strs (by rw [← e]; exact hS)) (by rw [← hl]; exact h64) fun st' hp hs => ⟨_, rfl, ?_⟩)
    (PyProof.Rows.args_list_sort _)))
  obtain ⟨ys, g1, g2, g3⟩ := PyProof.Rows.sorted_out_str hS hp hs
  obtain ⟨e', he'⟩ := PyProof.Rows.sortedHeap_at (vs := its) (out := (PyProof.Rows.arrOf st').map (·.2)) hoL
  have hlen : (ys.map V.str).length ≤ sizeLine := by
    rw [List.length_map, g2.length_eq]
    exact Nat.le_trans (Nat.le_of_lt h64) (by decide)
  refine wpAny_pure ⟨_, rfl, .ref h'.objs.size, upd H h'.objs.size (.lst (ys.map V.str)), I1.laid (t' := s.toks) (fun b u e => ?_) (Nat.le_refl _)
    (show ObjOk X.prog X.w _ _ _ (.lst (ys.map V.str)) from ⟨hlen, ((PyProof.Rows.arrOf st').map (·.2)).toList, e', vals_of_strs g1, by rw [Array.toArray_toList]; exact he'⟩), rfl, q ys _ g2 g3 (I1.hok.fresh (Nat.le_refl _))⟩
  have hb : b < h'.objs.size := Heap.lt_size e
  rw [PyProof.Rows.sortedHeap_old (Nat.ne_of_lt hb) (by rw [size_push']; exact Nat.lt_succ_of_lt hb)]
  exact Heap.get?_push_of_some _ e
end
section
variable {G : Gt} {Hi H : Hp}
theorem intsOf_some : ∀ {ds : List D} {ns : List Int}, intsOf ds = some ns → ds = ns.map D.int
  | [], ns, h => by cases h; rfl
  | .int i :: r, ns, h => by
    simp only [intsOf, Option.map_eq_some_iff] at h
    obtain ⟨ms, h1, rfl⟩ := h
    rw [intsOf_some h1]; rfl
  | .non :: r, ns, h => by cases h
  | .bl _ :: r, ns, h => by cases h
  | .str _ :: r, ns, h => by cases h
  | .lst _ :: r, ns, h => by cases h
  | .tup _ :: r, ns, h => by cases h
  | .scr _ :: r, ns, h => by cases h
  | .obj _ _ _ :: r, ns, h => by cases h
  | .dct _ _ :: r, ns, h => by cases h
theorem intsOf_map : ∀ ns : List Int, intsOf (ns.map D.int) = some ns
  | [] => rfl
  | n :: ns => by simp [intsOf, intsOf_map ns]
theorem blsOf_some : ∀ {ds : List D} {ns : List Bool}, blsOf ds = some ns → ds = ns.map D.bl
  | [], ns, h => by cases h; rfl
  | .bl i :: r, ns, h => by
    simp only [blsOf, Option.map_eq_some_iff] at h
    obtain ⟨ms, h1, rfl⟩ := h
    rw [blsOf_some h1]; rfl
  | .non :: r, ns, h => by cases h
  | .int _ :: r, ns, h => by cases h
  | .str _ :: r, ns, h => by cases h
  | .lst _ :: r, ns, h => by cases h
  | .tup _ :: r, ns, h => by cases h
  | .scr _ :: r, ns, h => by cases h
  | .obj _ _ _ :: r, ns, h => by cases h
  | .dct _ _ :: r, ns, h => by cases h
theorem blsOf_map : ∀ ns : List Bool, blsOf (ns.map D.bl) = some ns
  | [] => rfl
  | n :: ns => by simp [blsOf, blsOf_map ns]
theorem RepL.bls : ∀ {ns : List Bool} {vs : List V}, RepL G H (ns.map D.bl) vs → vs = ns.map V.bl
  | [], _, h => by cases h; rfl
  | n :: ns, _, h => by
    obtain ⟨v, vs', rfl, h2, h3⟩ := h
    have h2 : v = .bl n := h2
    rw [h2, RepL.bls h3]; rfl
theorem pairsOf_some : ∀ {ds : List D} {ps : List (Int × Int)}, pairsOf ds = some ps → ds = ps.map pairD
  | [], ps, h => by cases h; rfl
  | d :: r, ps, h => by
    unfold pairsOf at h
    split at h
    · rename_i heq; cases heq
    · rename_i i j r' heq
      cases heq
      simp only [Option.map_eq_some_iff] at h
      obtain ⟨qs, h1, rfl⟩ := h
      rw [pairsOf_some h1]; rfl
    · cases h
theorem pairsOf_map : ∀ ps : List (Int × Int), pairsOf (ps.map pairD) = some ps
  | [] => rfl
  | p :: ps => by simp [pairsOf, pairD, pairsOf_map ps]
/-- the two ints at an address -/
def kOf (H : Hp) : V → Int × Int
  | .ref t => (match H t with | some (.tup [.int i, .int j]) => (i, j) | _ => (0, 0))
  | _ => (0, 0)
theorem pair_at {p : Int × Int} {v : V} (e : Ex Hi H) (h : Rep G Hi (pairD p) v) : ∃ t, v = .ref t ∧ H t = some (.tup [.int (kOf H v).1, .int (kOf H v).2]) ∧ kOf H v = p := by
  obtain ⟨a, vs, rfl, h2, h3⟩ := h
  obtain ⟨x, vs1, rfl, h4, y, vs2, rfl, h5, h6⟩ := h3
  cases (show vs2 = [] from h6)
  cases (show x = .int p.1 from h4)
  cases (show y = .int p.2 from h5)
  have q : kOf H (.ref a) = p := by
    show (match H a with | some (.tup [.int i, .int j]) => (i, j) | _ => (0, 0)) = p
    rw [e _ _ h2]
  refine ⟨a, rfl, ?_, q⟩
  rw [q]
  exact e _ _ h2
theorem pairs_at (e : Ex Hi H) : ∀ {ps : List (Int × Int)} {vs : List V}, RepL G Hi (ps.map pairD) vs → vs.map (kOf H) = ps ∧ ∀ x ∈ vs, (∃ t, x = .ref t ∧ H t = some (.tup [.int (kOf H x).1, .int (kOf H x).2])) ∧ Rep G Hi (pairD (kOf H x)) x
  | [], vs, h => by cases (show vs = [] from h); exact ⟨rfl, fun x hx => nomatch hx⟩
  | p :: ps, vs, h => by
    obtain ⟨v, vs', rfl, h2, h3⟩ := h
    obtain ⟨t, e1, e2, e3⟩ := pair_at e h2
    obtain ⟨h4, h5⟩ := pairs_at e h3
    refine ⟨by rw [List.map_cons, h4, e3], fun x hx => ?_⟩
    rcases List.mem_cons.mp hx with rfl | hx
    · exact ⟨⟨t, e1, e2⟩, by rw [e3]; exact h2⟩
    · exact h5 x hx
theorem rep_pairs : ∀ {vs : List V}, (∀ x ∈ vs, Rep G Hi (pairD (kOf H x)) x) → RepL G Hi ((vs.map (kOf H)).map pairD) vs
  | [], _ => rfl
  | v :: vs, h => ⟨v, vs, rfl, h v List.mem_cons_self, rep_pairs fun x hx => h x (List.mem_cons_of_mem _ hx)⟩
end
/-! ### built-ins -/
def biV : BI → Value
  | .len => .builtin "len" | .int => .type "int" | .list => .type "list" | .tuple => .type "tuple" | .max => .builtin "max" | .min => .builtin "min"
  | .abs => .builtin "abs" | .sum => .builtin "sum" | .any => .builtin "any" | .all => .builtin "all" | .sorted => .builtin "sorted" | .repr => .builtin "repr" | .gcd => .builtin "math.gcd" | .str => .type "str"
def biName0 (x : Str) : Option BI :=
  if x = "len" then some .len else if x = "int" then some .int else if x = "list" then some .list else if x = "tuple" then some .tuple
  else if x = "max" then some .max else if x = "min" then some .min else if x = "abs" then some .abs else if x = "sum" then some .sum
  else if x = "any" then some .any else if x = "all" then some .all else if x = "sorted" then some .sorted else if x = "repr" then some .repr else none
def biName (x : Str) : Option BI := if x = "str" then some .str else biName0 x
theorem biName_boot {x : Str} {b : BI} (h : biName x = some b) : bootBuiltins x = some (biV b) ∧ b ≠ .gcd := by
  unfold biName at h
  split at h
  · rename_i hx; cases h; rw [hx]; exact ⟨by decide +kernel, fun z => nomatch z⟩
  unfold biName0 at h
  repeat' split at h
  all_goals first
    | (cases h; done)
    | (rename_i hx; cases h; rw [hx]; exact ⟨by decide +kernel, fun z => nomatch z⟩)
/-- which want that nothing is handled -/
def needCalm : BI → Bool
  | .max => true | .min => true | .sum => true | .any => true | .all => true | .list => true | _ => false
section
variable {C : Ctx} {pe pa pb pc : Expr} {a b c : Ep} {pos : Pos}
def CallOk (G : Gt) (rr : List V → Hp → VK → Prop) (as : List Vl) (r : Vl) : Prop := ∀ H0 Hi H vs (Q : VK), Ex Hi H → Ex H0 H → ArgsOk G Hi H as vs → (∀ Hi' H' z, Step Hi H Hi' H' → VlOk G H0 H Hi' H' r z → Q z H') → rr vs H Q
theorem keys_rep {G : Gt} {Hi : Hp} : ∀ ks : List Key, RepL G Hi (ks.map keyD) (ks.map kV)
  | [] => rfl
  | .inl i :: ks => ⟨_, _, rfl, rfl, keys_rep ks⟩
  | .inr x :: ks => ⟨_, _, rfl, rfl, keys_rep ks⟩
theorem args1 {G : Gt} {Hi H : Hp} {x : Vl} {vs : List V} (h : ArgsOk G Hi H [x] vs) : ∃ u, vs = [u] ∧ VlOk G H H Hi H x u := by
  obtain ⟨u, ys, rfl, h1, h2⟩ := h
  cases (show ys = [] from h2)
  exact ⟨u, rfl, h1.vl (H0 := H)⟩
theorem args2 {G : Gt} {Hi H : Hp} {x y : Vl} {vs : List V} (h : ArgsOk G Hi H [x, y] vs) : ∃ u v, vs = [u, v] ∧ VlOk G H H Hi H x u ∧ VlOk G H H Hi H y v := by
  obtain ⟨u, ys, rfl, h1, v, zs, rfl, h2, h3⟩ := h
  cases (show zs = [] from h3)
  exact ⟨u, v, rfl, h1.vl (H0 := H), h2.vl (H0 := H)⟩
theorem call_reprD {X : Cx} (hg : X.A.guards = some []) (hu : X.A.units + 65 < cLine) : CallR X (.builtin "repr") (fun xs H Q => ∃ a d, xs = [V.ref a] ∧ Dp X.K H (.ref a) d ∧ d.showable = true ∧ d.hasDict = false ∧ d.depth ≤ 60 ∧ d.shown.length ≤ sizeLine ∧ Q (.str d.shown) H) := by
  intro pins s σ H xs us Q I hv h
  obtain ⟨a, d, rfl, h1, h2, h3, h4, h5, h6⟩ := h
  obtain ⟨u, us', rfl, hr, hn⟩ : ∃ u us', us = u :: us' ∧ RelV (.ref a) u ∧ us' = [] := by
    cases hv with
    | cons r t => cases t; exact ⟨_, _, rfl, r, rfl⟩
  subst hn
  have hr' : u = .ref a := hr
  subst hr'
  obtain ⟨as, r⟩ := Dp.reads I d _ _ h1 hr
  exact repr_of_reads' r h2 (PyData.noDict_hsm h3) hg (by omega) (fun x x_1 e => e) (fun h' u tk hk => ⟨.str d.shown, H, I.turnedL (ch := []) (fun b o _ e => hk b o e) (fun b hb => nomatch hb), ⟨_, rfl⟩, h6⟩) h5
/-- a sequence's items -/
def D.kids : D → List D
  | .lst xs => xs
  | .tup xs => xs
  | _ => []
theorem biD_ok (hk : C.X.K = C.G.K) (hg : C.X.A.guards = some []) (hu : C.X.A.units + 65 < cLine) {b : BI} (hc : needCalm b = true → C.X.calm = true) {as : List Vl} {r : Vl} (h : biD b as = some r) : ∃ rr, CallR C.X (biV b) rr ∧ CallOk C.G rr as r := by
  unfold biD at h
  split at h
  · split at h
    · rename_i x ys ex
      cases h
      refine ⟨_, call_len_seq, fun H0 Hi H vs Q e e0 ha k => ?_⟩
      obtain ⟨u, rfl, o⟩ := args1 ha
      obtain ⟨p, ws, rfl, e2, e3, _⟩ := o.lst e (Evl.Ex.refl _) ex
      refine ⟨p, ws, rfl, .inl (SqL.of e2), ?_⟩
      rw [← e3.length]
      exact k Hi H _ (Step.refl e) rfl
    · rename_i x ys ex
      cases h
      refine ⟨_, call_len_seq, fun H0 Hi H vs Q e e0 ha k => ?_⟩
      obtain ⟨u, rfl, o⟩ := args1 ha
      obtain ⟨p, ws, rfl, e2, e3, _⟩ := o.tup e (Evl.Ex.refl _) ex
      refine ⟨p, ws, rfl, .inr (SqT.of e2), ?_⟩
      rw [← e3.length]
      exact k Hi H _ (Step.refl e) rfl
    · rename_i x ns ex
      cases h
      refine ⟨_, call_len_seq, fun H0 Hi H vs Q e e0 ha k => ?_⟩
      obtain ⟨u, rfl, o⟩ := args1 ha
      obtain ⟨p, rfl, e2⟩ := scr_of e (Evl.Ex.refl _) o ex
      refine ⟨p, _, rfl, .inl (by rw [hk]; exact e2), ?_⟩
      rw [List.length_map]
      exact k Hi H _ (Step.refl e) rfl
    · rename_i x ks xs ex
      cases h
      refine ⟨_, call_lenD, fun H0 Hi H vs Q e e0 ha k => ?_⟩
      obtain ⟨u, rfl, o⟩ := args1 ha
      have q := o.rep e (Evl.Ex.refl _)
      rw [ex] at q
      obtain ⟨p, ws, rfl, e2, el, e3⟩ := q
      refine ⟨p, _, rfl, e2, ?_⟩
      rw [List.length_zip, ← e3.length, ← el, show (Ky.k ks).length = ks.length from rfl, Nat.min_self]
      exact k Hi H _ (Step.refl e) rfl
    · rename_i x z ex
      split at h
      · rename_i hz
        cases h
        refine ⟨_, call_len_str, fun H0 Hi H vs Q e e0 ha k => ?_⟩
        obtain ⟨u, rfl, o⟩ := args1 ha
        rw [str_of e (Evl.Ex.refl _) o ex]
        exact ⟨z, rfl, sz5 hz, k Hi H _ (Step.refl e) rfl⟩
      · cases h
    · cases h
  · split at h
    · rename_i x i ex
      cases h
      refine ⟨_, call_int1, fun H0 Hi H vs Q e e0 ha k => ?_⟩
      obtain ⟨u, rfl, o⟩ := args1 ha
      rw [int_of e (Evl.Ex.refl _) o ex]
      exact .inl ⟨_, rfl, k Hi H _ (Step.refl e) rfl⟩
    · rename_i x i ex
      cases h
      refine ⟨_, call_int1, fun H0 Hi H vs Q e e0 ha k => ?_⟩
      obtain ⟨u, rfl, o⟩ := args1 ha
      rw [bl_of e (Evl.Ex.refl _) o ex]
      exact .inr ⟨_, rfl, k Hi H _ (Step.refl e) rfl⟩
    · cases h
  · split at h
    · rename_i hlow
      split at h
      · rename_i x ys ex
        cases h
        refine ⟨_, call_list_of, fun H0 Hi H vs Q e e0 ha k => ?_⟩
        obtain ⟨u, rfl, o⟩ := args1 ha
        obtain ⟨p, ws, rfl, e2, _, e3⟩ := o.lst e (Evl.Ex.refl _) ex
        exact ⟨p, ws, rfl, .inl (SqL.of e2), fun l hl => k Hi _ _ (Step.own e hl) (own1 (Evl.Ex.refl _) e hl (e3 hlow))⟩
      · rename_i x ys ex
        cases h
        refine ⟨_, call_list_of, fun H0 Hi H vs Q e e0 ha k => ?_⟩
        obtain ⟨u, rfl, o⟩ := args1 ha
        obtain ⟨p, ws, rfl, e2, _, e3⟩ := o.tup e (Evl.Ex.refl _) ex
        exact ⟨p, ws, rfl, .inr (SqT.of e2), fun l hl => k Hi _ _ (Step.own e hl) (own1 (Evl.Ex.refl _) e hl (e3 hlow))⟩
      · rename_i x ks xs ex
        cases h
        refine ⟨_, call_list_dK (hc rfl), fun H0 Hi H vs Q e e0 ha k => ?_⟩
        obtain ⟨u, rfl, o⟩ := args1 ha
        obtain ⟨p, ws, rfl, e2, e3, e4⟩ := o.dct e (Evl.Ex.refl _) ex hlow
        have hlz : ks.length ≤ ws.length := by
          have e5 : ks.length = xs.length := e3
          rw [e5, e4.length]; exact Nat.le_refl _
        refine ⟨p, ks.zip ws, rfl, e2, fun l hl => ?_⟩
        have em : (ks.zip ws).map (fun kv => kV kv.1) = ks.map kV := by
          rw [show (fun kv : Key × V => kV kv.1) = kV ∘ Prod.fst from rfl, ← List.map_map, List.map_fst_zip hlz]
        rw [em]
        exact k Hi _ _ (Step.own e hl) (own1 (Evl.Ex.refl _) e hl (keys_rep ks))
      · cases h
    · cases h
  · split at h
    · rename_i x ys ex
      split at h
      · rename_i hlow
        cases h
        refine ⟨_, call_tuple_of, fun H0 Hi H vs Q e e0 ha k => ?_⟩
        obtain ⟨u, rfl, o⟩ := args1 ha
        obtain ⟨p, ws, rfl, e2, _, e3⟩ := o.lst e (Evl.Ex.refl _) ex
        refine ⟨p, ws, rfl, .inl ⟨SqL.of e2, fun l hl => ?_⟩⟩
        have s := Step.new (o := .tup ws) e hl
        exact k _ _ _ s ⟨l, ws, rfl, upd_same, RepL.mono s.i _ _ (e3 hlow)⟩
      · cases h
    · rename_i x _ ys ex
      split at h
      · rename_i hsh
        cases h
        refine ⟨_, call_tuple_of, fun H0 Hi H vs Q e e0 ha k => ?_⟩
        obtain ⟨u, rfl, o⟩ := args1 ha
        have q : Rep C.G Hi (.tup ys) u := by
          cases x with
          | sh d => rw [← ex]; exact o
          | fr n d => rw [← ex]; exact o.flat e (Evl.Ex.refl _) hsh
          | bo n d => rw [← ex]; exact o.flat e (Evl.Ex.refl _) hsh
          | us n d => rw [← ex]; exact o.flat e (Evl.Ex.refl _) hsh
          | ex _ _ _ => exact o.elim
          | no _ _ _ => exact o.elim
        obtain ⟨p, ws, rfl, e2, e3⟩ := q
        exact ⟨p, ws, rfl, .inr ⟨SqT.of (e _ _ e2), k Hi H _ (Step.refl e) ⟨p, ws, rfl, e2, e3⟩⟩⟩
      · cases h
    · cases h
  · split at h
    · rename_i x i ex
      cases h
      refine ⟨_, call_abs, fun H0 Hi H vs Q e e0 ha k => ?_⟩
      obtain ⟨u, rfl, o⟩ := args1 ha
      rw [int_of e (Evl.Ex.refl _) o ex]
      exact ⟨_, rfl, k Hi H _ (Step.refl e) rfl⟩
    · cases h
  · split at h
    · rename_i x y i j ex ey
      cases h
      refine ⟨_, cr_gcd, fun H0 Hi H vs Q e e0 ha k => ?_⟩
      obtain ⟨u, v, rfl, o1, o2⟩ := args2 ha
      rw [int_of e (Evl.Ex.refl _) o1 ex, int_of e (Evl.Ex.refl _) o2 ey]
      exact ⟨_, _, rfl, k Hi H _ (Step.refl e) rfl⟩
    · cases h
  · split at h
    · rename_i x y i j ex ey
      cases h
      refine ⟨_, call_max2 (hc rfl), fun H0 Hi H vs Q e e0 ha k => ?_⟩
      obtain ⟨u, v, rfl, o1, o2⟩ := args2 ha
      rw [int_of e (Evl.Ex.refl _) o1 ex, int_of e (Evl.Ex.refl _) o2 ey]
      refine ⟨_, _, rfl, ?_⟩
      have z : (if j > i then j else i) = max i j := by split <;> omega
      rw [z]
      exact k Hi H _ (Step.refl e) rfl
    · cases h
  · split at h
    · rename_i x y i j ex ey
      cases h
      refine ⟨_, call_min2 (hc rfl), fun H0 Hi H vs Q e e0 ha k => ?_⟩
      obtain ⟨u, v, rfl, o1, o2⟩ := args2 ha
      rw [int_of e (Evl.Ex.refl _) o1 ex, int_of e (Evl.Ex.refl _) o2 ey]
      refine ⟨_, _, rfl, ?_⟩
      have z : (if j < i then j else i) = min i j := by split <;> omega
      rw [z]
      exact k Hi H _ (Step.refl e) rfl
    · cases h
  · split at h
    · rename_i x ys ex
      simp only [Option.bind_eq_some_iff] at h
      obtain ⟨ns, h1, h2⟩ := h
      split at h2
      · rename_i hn
        cases h2
        have q := intsOf_some h1
        subst q
        refine ⟨_, cr_max (hc rfl), fun H0 Hi H vs Q e e0 ha k => ?_⟩
        obtain ⟨u, rfl, o⟩ := args1 ha
        obtain ⟨p, ws, rfl, e2, e3, _⟩ := o.lst e (Evl.Ex.refl _) ex
        refine ⟨p, ns, rfl, ?_, hn, fun m hm hle => ?_⟩
        · rw [RepL.ints e3] at e2; exact SqL.of e2
        · obtain ⟨s1, s2⟩ := maxL_spec ns (by intro z; rw [z] at hn; exact absurd hn (by decide))
          have z : m = maxL ns := by have := s2 m hm; have := hle _ s1; omega
          rw [z]
          exact k Hi H _ (Step.refl e) rfl
      · cases h2
    · cases h
  · split at h
    · rename_i x ys ex
      simp only [Option.bind_eq_some_iff] at h
      obtain ⟨ns, h1, h2⟩ := h
      split at h2
      · rename_i hn
        cases h2
        have q := intsOf_some h1
        subst q
        refine ⟨_, cr_min (hc rfl), fun H0 Hi H vs Q e e0 ha k => ?_⟩
        obtain ⟨u, rfl, o⟩ := args1 ha
        obtain ⟨p, ws, rfl, e2, e3, _⟩ := o.lst e (Evl.Ex.refl _) ex
        refine ⟨p, ns, rfl, ?_, hn, fun m hm hle => ?_⟩
        · rw [RepL.ints e3] at e2; exact SqL.of e2
        · obtain ⟨s1, s2⟩ := minL_spec ns (by intro z; rw [z] at hn; exact absurd hn (by decide))
          have z : m = minL ns := by have := s2 m hm; have := hle _ s1; omega
          rw [z]
          exact k Hi H _ (Step.refl e) rfl
      · cases h2
    · cases h
  · split at h
    · rename_i x ys ex
      simp only [Option.bind_eq_some_iff] at h
      obtain ⟨ns, h1, h2⟩ := h
      cases h2
      have q := intsOf_some h1
      subst q
      refine ⟨_, cr_sum (hc rfl), fun H0 Hi H vs Q e e0 ha k => ?_⟩
      obtain ⟨u, rfl, o⟩ := args1 ha
      obtain ⟨p, ws, rfl, e2, e3, _⟩ := o.lst e (Evl.Ex.refl _) ex
      rw [RepL.ints e3] at e2
      exact ⟨p, ns, rfl, SqL.of e2, k Hi H _ (Step.refl e) rfl⟩
    · cases h
  · split at h
    · rename_i x ys ex
      simp only [Option.bind_eq_some_iff] at h
      obtain ⟨ns, h1, h2⟩ := h
      cases h2
      have q := blsOf_some h1
      subst q
      refine ⟨_, cr_any (hc rfl), fun H0 Hi H vs Q e e0 ha k => ?_⟩
      obtain ⟨u, rfl, o⟩ := args1 ha
      obtain ⟨p, ws, rfl, e2, e3, _⟩ := o.lst e (Evl.Ex.refl _) ex
      rw [RepL.bls e3] at e2
      exact ⟨p, ns, rfl, SqL.of e2, k Hi H _ (Step.refl e) rfl⟩
    · cases h
  · split at h
    · rename_i x ys ex
      simp only [Option.bind_eq_some_iff] at h
      obtain ⟨ns, h1, h2⟩ := h
      cases h2
      have q := blsOf_some h1
      subst q
      refine ⟨_, cr_all (hc rfl), fun H0 Hi H vs Q e e0 ha k => ?_⟩
      obtain ⟨u, rfl, o⟩ := args1 ha
      obtain ⟨p, ws, rfl, e2, e3, _⟩ := o.lst e (Evl.Ex.refl _) ex
      rw [RepL.bls e3] at e2
      exact ⟨p, ns, rfl, SqL.of e2, k Hi H _ (Step.refl e) rfl⟩
    · cases h
  · split at h
    · rename_i x ys ex
      split at h
      · rename_i hlow
        simp only [Option.map_eq_some_iff] at h
        obtain ⟨zs, h1, rfl⟩ := h
        unfold sortD at h1
        split at h1
        · rename_i ns h2
          cases h1
          have q := intsOf_some h2
          subst q
          refine ⟨_, cr_sortedI, fun H0 Hi H vs Q e e0 ha k => ?_⟩
          obtain ⟨u, rfl, o⟩ := args1 ha
          obtain ⟨p, ws, rfl, e2, e3, _⟩ := o.lst e (Evl.Ex.refl _) ex
          rw [RepL.ints e3] at e2
          refine ⟨p, ns, rfl, SqL.of e2, fun ns' l hp hs hl => ?_⟩
          have eq := sortI_uniq hp hs
          subst eq
          exact k Hi _ _ (Step.own e hl) (own1 (Evl.Ex.refl _) e hl (RepL.of_ints _))
        · split at h1
          case h_2 =>
            simp only [Option.bind_eq_some_iff] at h1
            obtain ⟨ns, h3, h1⟩ := h1
            split at h1
            case isFalse => cases h1
            case isTrue h64 =>
            cases h1
            have q := strsOf_some h3
            subst q
            refine ⟨_, cr_sortedS, fun H0 Hi H vs Q e e0 ha k => ?_⟩
            obtain ⟨u, rfl, o⟩ := args1 ha
            obtain ⟨p, ws, rfl, e2, e3, _⟩ := o.lst e (Evl.Ex.refl _) ex
            rw [RepL.strs e3] at e2
            refine ⟨p, ns, rfl, SqL.of e2, h64, fun ns' l hp hs hl => ?_⟩
            have eq := sortS_uniq hp hs
            subst eq
            exact k Hi _ _ (Step.own e hl) (own1 (Evl.Ex.refl _) e hl (RepL.of_strs _))
          case h_1 ps h3 =>
          cases h1
          have q := pairsOf_some h3
          subst q
          refine ⟨_, cr_sortedPO, fun H0 Hi H vs Q e e0 ha k => ?_⟩
          obtain ⟨u, rfl, o⟩ := args1 ha
          obtain ⟨p, ws, rfl, e2, _, e3⟩ := o.lst e (Evl.Ex.refl _) ex
          have e3 := e3 hlow
          obtain ⟨m1, m2⟩ := pairs_at e e3
          refine ⟨p, ws, kOf H, rfl, SqL.of e2, fun x hx => (m2 x hx).1, fun ys l hs hb hl => ?_⟩
          have pm : (ys.map (kOf H)).Perm ps := by rw [← m1]; exact hb.perm.map _
          have so : (ys.map (kOf H)).Pairwise (fun a b => leP a b = true) := by
            refine List.pairwise_map.mpr (hs.imp fun {a b} z => ?_)
            have z' : SrtO.lexB (kOf H b) (kOf H a) = false := z
            have z2 := SrtO.lexB_no.mp z'
            exact leP_iff.mpr (by omega)
          have eq := sortP_uniq pm so
          have rl : RepL C.G Hi ((sortP ps).map pairD) ys := by
            rw [← eq]
            exact rep_pairs fun x hx => (m2 x (hb.perm.mem_iff.mp hx)).2
          exact k Hi _ _ (Step.own e hl) (own1 (Evl.Ex.refl _) e hl rl)
      · cases h
    · rename_i x ys ex
      simp only [Option.bind_eq_some_iff] at h
      obtain ⟨ns, h3, h1⟩ := h
      split at h1
      case isFalse => cases h1
      case isTrue h64 =>
      cases h1
      have q := strsOf_some h3
      subst q
      refine ⟨_, call_sortedTS, fun H0 Hi H vs Q e e0 ha k => ?_⟩
      obtain ⟨u, rfl, o⟩ := args1 ha
      obtain ⟨p, ws, rfl, e2, e3, _⟩ := o.tup e (Evl.Ex.refl _) ex
      rw [RepL.strs e3] at e2
      refine ⟨p, ns, rfl, SqT.of e2, h64, fun ns' l hp hs hl => ?_⟩
      have eq := sortS_uniq hp hs
      subst eq
      exact k Hi _ _ (Step.own e hl) (own1 (Evl.Ex.refl _) e hl (RepL.of_strs _))
    · cases h
  · split at h
    · rename_i x i ex
      split at h
      · rename_i hz
        cases h
        refine ⟨_, call_str_int, fun H0 Hi H vs Q e e0 ha k => ?_⟩
        obtain ⟨u, rfl, o⟩ := args1 ha
        rw [int_of e (Evl.Ex.refl _) o ex]
        exact ⟨i, rfl, by omega, k Hi H _ (Step.refl e) rfl⟩
      · cases h
    · rename_i x z ex
      cases h
      refine ⟨_, SkE.call_str_str, fun H0 Hi H vs Q e e0 ha k => ?_⟩
      obtain ⟨u, rfl, o⟩ := args1 ha
      rw [str_of e (Evl.Ex.refl _) o ex]
      exact ⟨z, rfl, k Hi H _ (Step.refl e) rfl⟩
    · cases h
  · split at h
    · rename_i x hs
      have key : ∀ (z : D), x.d = z → (z = .lst z.kids ∨ z = .tup z.kids) → some (Vl.sh (.str (toPy x.d).shown)) = some r → ∃ rr, CallR C.X (biV .repr) rr ∧ CallOk C.G rr [x] r := fun z ex hz h => by
        cases h
        refine ⟨_, call_reprD hg hu, fun H0 Hi H vs Q e e0 ha k => ?_⟩
        obtain ⟨u, rfl, o⟩ := args1 ha
        have q := o.rep e (Evl.Ex.refl _)
        have hd := Rep.dp _ _ hs.1 q
        obtain ⟨a, rfl⟩ : ∃ a, u = .ref a := by
          rw [ex] at q
          rcases hz with hz | hz <;> (rw [hz] at q; obtain ⟨a, _, rfl, _⟩ := q; exact ⟨a, rfl⟩)
        rw [hk]
        exact ⟨a, _, rfl, hd, hs.2.1, hs.2.2.1, hs.2.2.2.1, hs.2.2.2.2, k Hi H _ (Step.refl e) rfl⟩
      split at h
      · rename_i ex; exact key _ ex (.inl rfl) h
      · rename_i ex; exact key _ ex (.inr rfl) h
      · cases h
    · cases h
  · cases h
end
end EG
namespace EG
open PySem L2

/-! ### storing -/
section
variable {G : Gt} {xp : Xp} {Hi0 H0 Hi H Hi' H' : Hp} {σ : L2.St} {ε : Env}
theorem set_get {α : Type} {l : List α} {i j : Nat} {x y : α} (h : (l.set i x)[j]? = some y) : (j = i ∧ y = x ∧ i < l.length) ∨ (j ≠ i ∧ l[j]? = some y) := by
  by_cases e : j = i
  · subst e
    by_cases hl : j < l.length
    · rw [List.getElem?_set_self hl] at h; cases h; exact .inl ⟨rfl, rfl, hl⟩
    · rw [List.getElem?_eq_none (by simpa using hl)] at h; cases h
  · rw [List.getElem?_set_ne (Ne.symm e)] at h
    exact .inr ⟨e, h⟩
/-- one slot is given anew; its own cells are new -/
theorem EnvOk.put (I : EnvOk G xp Hi0 H0 Hi H σ ε) (s : Step Hi H Hi' H') {i : Nat} {r : Option Vl} {v : Option V} {fp : List Addr} (o : SlOk G xp H0 Hi' H' fp r v) (hf : ∀ p ∈ fp, H p = none) : EnvOk G xp Hi0 H0 Hi' H' (σ.set i v) (ε.set i r) := by
  obtain ⟨F, f1, f2, f3⟩ := I.sl
  have fin : ∀ j, ∀ p ∈ F j, H p ≠ none := fun j p hp => by
    by_cases hj : j < ε.length
    · have hs : j < σ.length := by rw [I.len]; exact hj
      exact ((f1 j _ _ (List.getElem?_eq_getElem hj) (List.getElem?_eq_getElem hs)).mem p hp).1
    · rw [f3 j (by omega)] at hp; cases hp
  refine ⟨I.st.trans s, by simpa using I.len, fun j => if j = i ∧ i < ε.length then fp else F j, fun j r' v' h1 h2 => ?_, fun j k p hjk h1 h2 => ?_, fun j hj => ?_⟩
  · rcases set_get h1 with ⟨e1, e2, e3⟩ | ⟨e1, e2⟩
    · subst e1 e2
      rcases set_get h2 with ⟨_, g2, _⟩ | ⟨g1, _⟩
      · subst g2
        simp only [e3, and_self, if_true]
        exact o
      · exact absurd rfl g1
    · rcases set_get h2 with ⟨g1, _, _⟩ | ⟨_, g2⟩
      · exact absurd g1 e1
      · simp only [e1, false_and, if_false]
        exact (f1 j r' v' e2 g2).step s
  · simp only at h1 h2
    by_cases hj : j = i ∧ i < ε.length
    · rw [if_pos hj] at h1
      rw [if_neg (by omega)] at h2
      exact fin k p h2 (hf p h1)
    · rw [if_neg hj] at h1
      by_cases hk : k = i ∧ i < ε.length
      · rw [if_pos hk] at h2
        exact fin j p h1 (hf p h2)
      · rw [if_neg hk] at h2
        exact f2 j k p hjk h1 h2
  · rw [List.length_set] at hj
    simp only
    rw [if_neg (by omega)]
    exact f3 j hj
/-- what may be stored in a slot -/
def Vl.st : Vl → Bool
  | .sh _ => true
  | .fr _ _ => true
  | .bo _ _ => true
  | .us _ _ => true
  | _ => false
theorem EnvOk.set (I : EnvOk G xp Hi0 H0 Hi H σ ε) (s : Step Hi H Hi' H') {r : Vl} {x : V} (o : VlOk G H0 H Hi' H' r x) (hb : r.st = true) (i : Nat) : EnvOk G xp Hi0 H0 Hi' H' (σ.set i (some x)) (ε.set i (some r)) := by
  match r, o with
  | .sh d, o => exact I.put s (fp := []) ⟨rfl, x, rfl, o⟩ (fun p hp => nomatch hp)
  | .bo n d, o => exact I.put s (fp := []) ⟨rfl, x, rfl, o⟩ (fun p hp => nomatch hp)
  | .fr n d, ⟨fp, o1, o2, o3⟩ => exact I.put s (fp := fp) ⟨x, rfl, o1, o2, fun p hp => ⟨(o3 p hp).1, Evl.fresh_back I.st.h (o3 p hp).2⟩⟩ (fun p hp => (o3 p hp).2)
  | .us n d, o => exact I.put s (fp := []) ⟨rfl, x, rfl, o⟩ (fun p hp => nomatch hp)
theorem EnvOk.clear (I : EnvOk G xp Hi0 H0 Hi H σ ε) (i : Nat) : EnvOk G xp Hi0 H0 Hi H (σ.set i none) (ε.set i none) := I.put (Step.refl I.st.s) (fp := []) rfl (fun p hp => nomatch hp)
theorem EnvOk.wipe (I : EnvOk G xp Hi0 H0 Hi H σ ε) : ∀ vs : List Nat, EnvOk G xp Hi0 H0 Hi H (L2.wipe σ vs) (wipeE ε vs)
  | [] => I
  | v :: vs => (I.wipe vs).clear v
end
theorem wipe_comm {σ : L2.St} {i : Nat} {o : Option V} : ∀ {vs : List Nat}, i ∉ vs → wipe (σ.set i o) vs = (wipe σ vs).set i o
  | [], _ => rfl
  | v :: vs, h => by
    have h1 : i ≠ v := fun z => h (by rw [z]; exact List.mem_cons_self)
    have h2 : i ∉ vs := fun z => h (List.mem_cons_of_mem _ z)
    show (wipe (σ.set i o) vs).set v none = ((wipe σ vs).set v none).set i o
    rw [wipe_comm h2, List.set_comm _ _ h1]
theorem wipe_set {σ : L2.St} {i : Nat} {o : Option V} : ∀ {vs : List Nat}, i ∈ vs → wipe (σ.set i o) vs = wipe σ vs
  | [], h => by cases h
  | v :: vs, h => by
    show (wipe (σ.set i o) vs).set v none = (wipe σ vs).set v none
    by_cases c : i ∈ vs
    · rw [wipe_set c]
    · have e : i = v := by
        rcases List.mem_cons.mp h with e | e
        · exact e
        · exact absurd e c
      subst e
      rw [wipe_comm c, List.set_set]
theorem wipe_wipe {σ : L2.St} {ws : List Nat} : ∀ {vs : List Nat}, (∀ v ∈ vs, v ∈ ws) → wipe (wipe σ vs) ws = wipe σ ws
  | [], _ => rfl
  | v :: vs, h => by
    show wipe ((wipe σ vs).set v none) ws = _
    rw [wipe_set (h v List.mem_cons_self)]
    exact wipe_wipe fun z hz => h z (List.mem_cons_of_mem _ hz)
/-! ### targets -/
mutual
def tgT (K : PySem.W.Frag) : Tg → TG
  | .n i => gName i
  | .t ts => gTup K (tgLen ts) (gsT K ts)
def gsT (K : PySem.W.Frag) : Tgs → TGs
  | .nil => gNil
  | .cons t ts => gCons (tgT K t) (gsT K ts)
def tgLen : Tgs → Nat
  | .nil => 0
  | .cons _ ts => tgLen ts + 1
end
mutual
def tgIn (own : List Nat) : Tg → Bool
  | .n i => own.contains i
  | .t ts => tgsIn own ts
def tgsIn (own : List Nat) : Tgs → Bool
  | .nil => true
  | .cons t ts => tgIn own t && tgsIn own ts
end
section
variable {G : Gt} {xp : Xp} {Hi0 H0 Hi H Hi' H' : Hp}
theorem bindTs_len : ∀ {ts : Tgs} {rs : List Vl} {ε ε2 : Env}, bindTs ts rs ε = some ε2 → rs.length = tgLen ts
  | .nil, [], _, _, _ => rfl
  | .nil, _ :: _, _, _, h => by simp only [bindTs] at h; cases h
  | .cons _ _, [], _, _, h => by simp only [bindTs] at h; cases h
  | .cons t ts, r :: rs, ε, ε2, h => by
    simp only [bindTs, Option.bind_eq_some_iff] at h
    obtain ⟨ε1, _, h2⟩ := h
    simp [bindTs_len h2, tgLen]
theorem partsD_get {x : Vl} : ∀ {ds : List D} {rs : List Vl}, partsD x ds = some rs → rs.length = ds.length ∧ ∀ (j : Nat) (q : Vl), rs[j]? = some q → ∃ d, ds[j]? = some d ∧ x.part d = some q
  | [], rs, h => by cases h; exact ⟨rfl, fun j q hq => by simp at hq⟩
  | d :: ds, rs, h => by
    simp only [partsD, Option.bind_eq_some_iff, Option.map_eq_some_iff] at h
    obtain ⟨q0, h1, qs, h2, rfl⟩ := h
    obtain ⟨g1, g2⟩ := partsD_get h2
    refine ⟨by simp [g1], fun j q hq => ?_⟩
    cases j with
    | zero => simp at hq; subst hq; exact ⟨d, rfl, h1⟩
    | succ j => simpa using g2 j q (by simpa using hq)
/-- the parts of a list or tuple, as its holder holds it -/
theorem parts_ok {r : Vl} {x : V} {ds : List D} {rs : List Vl} {Hb : Hp} (s : Ex Hi H) (s0 : Ex H0 H) (o : VlOk G H0 Hb Hi H r x) (e : r.d = .lst ds ∨ r.d = .tup ds) (h : partsD r ds = some rs) :
    ∃ p vs, x = .ref p ∧ (r.d = .lst ds → H p = some (.lst vs)) ∧ (r.d = .tup ds → H p = some (.tup vs)) ∧ vs.length = ds.length ∧ rs.length = ds.length ∧ ∀ (j : Nat) (q : Vl), rs[j]? = some q → ∃ v, vs[j]? = some v ∧ VlOk G H0 H Hi H q v := by
  obtain ⟨g1, g2⟩ := partsD_get h
  obtain ⟨p, vs, h1, h2, h3, hl⟩ : ∃ p vs, x = .ref p ∧ (r.d = .lst ds → H p = some (.lst vs)) ∧ (r.d = .tup ds → H p = some (.tup vs)) ∧ vs.length = ds.length := by
    rcases e with e | e
    · obtain ⟨p, vs, h1, h2, h3, _⟩ := o.lst s s0 e
      exact ⟨p, vs, h1, fun _ => h2, (fun z => by rw [e] at z; cases z), h3.length.symm⟩
    · obtain ⟨p, vs, h1, h2, h3, _⟩ := o.tup s s0 e
      exact ⟨p, vs, h1, (fun z => by rw [e] at z; cases z), fun _ => h2, h3.length.symm⟩
  refine ⟨p, vs, h1, h2, h3, hl, g1, fun j q hq => ?_⟩
  obtain ⟨d, hd, hp⟩ := g2 j q hq
  obtain ⟨p', vs', v, a1, _, a3, a4, _, a6, a7⟩ := part_ok s s0 o e hd hp
  rw [h1] at a1; cases a1
  rcases e with e | e
  · have := a3 e
    rw [h2 e] at this; cases this
    exact ⟨v, a6, a7⟩
  · have := a4 e
    rw [h3 e] at this; cases this
    exact ⟨v, a6, a7⟩
mutual
theorem tgT_ok {K : PySem.W.Frag} : ∀ {t : Tg} {r : Vl} {σ : L2.St} {ε ε2 : Env} {Hi H Hi' H' : Hp} {x : V} {Q : L2.St → Hp → Prop}, bindT t r ε = some ε2 → EnvOk G xp Hi0 H0 Hi H σ ε → Step Hi H Hi' H' → VlOk G H0 H Hi' H' r x →
    (∀ σ2, EnvOk G xp Hi0 H0 Hi' H' σ2 ε2 → (∀ own : List Nat, tgIn own t = true → wipe σ2 own = wipe σ own) → Q σ2 H') → tgT K t x σ H' Q
  | .n i, r, σ, ε, ε2, Hi, H, Hi', H', x, Q, h, I, s, o, k => by
    have h' : r.st = true ∧ ε2 = ε.set i (some r) := by
      simp only [bindT] at h
      cases r with
      | sh d => exact ⟨rfl, (Option.some.inj h).symm⟩
      | fr n d => exact ⟨rfl, (Option.some.inj h).symm⟩
      | bo n d => exact ⟨rfl, (Option.some.inj h).symm⟩
      | us n d => exact ⟨rfl, (Option.some.inj h).symm⟩
      | ex _ _ _ => cases h
      | no _ _ _ => cases h
    obtain ⟨h1, rfl⟩ := h'
    exact k _ (I.set s o h1 i) fun own ho => wipe_set (by simpa [tgIn] using ho)
  | .t ts, r, σ, ε, ε2, Hi, H, Hi', H', x, Q, h, I, s, o, k => by
    simp only [bindT] at h
    split at h
    · rename_i ds e
      simp only [Option.bind_eq_some_iff] at h
      obtain ⟨rs, h1, h2⟩ := h
      have I1 := I.step s
      obtain ⟨p, vs, a1, _, a3, a4, a5, a6⟩ := parts_ok s.s I1.st.h o (.inr e) h1
      refine ⟨p, vs, a1, SqT.of (a3 e), by rw [a4, ← a5]; exact bindTs_len h2, ?_⟩
      exact gsT_ok h2 I1 (by rw [a5, a4]) (fun j q hq => a6 j q hq) fun σ2 I2 w => k σ2 I2 fun own ho => w own (by simpa [tgIn] using ho)
    · cases h
theorem gsT_ok {K : PySem.W.Frag} : ∀ {ts : Tgs} {rs : List Vl} {vs : List V} {σ : L2.St} {ε ε2 : Env} {Hi H : Hp} {Q : L2.St → Hp → Prop}, bindTs ts rs ε = some ε2 → EnvOk G xp Hi0 H0 Hi H σ ε → rs.length = vs.length → (∀ (j : Nat) (q : Vl), rs[j]? = some q → ∃ v, vs[j]? = some v ∧ VlOk G H0 H Hi H q v) →
    (∀ σ2, EnvOk G xp Hi0 H0 Hi H σ2 ε2 → (∀ own : List Nat, tgsIn own ts = true → wipe σ2 own = wipe σ own) → Q σ2 H) → gsT K ts vs σ H Q
  | .nil, rs, vs, σ, ε, ε2, Hi, H, Q, h, I, hl, ho, k => by
    cases rs with
    | nil =>
      simp only [bindTs] at h
      cases h
      have : vs = [] := List.length_eq_zero_iff.mp hl.symm
      subst this
      exact ⟨rfl, k σ I fun _ _ => rfl⟩
    | cons r rs => simp only [bindTs] at h; cases h
  | .cons t ts, rs, vs, σ, ε, ε2, Hi, H, Q, h, I, hl, ho, k => by
    cases rs with
    | nil => simp only [bindTs] at h; cases h
    | cons r rs =>
      simp only [bindTs, Option.bind_eq_some_iff] at h
      obtain ⟨ε1, h1, h2⟩ := h
      cases vs with
      | nil => simp at hl
      | cons v vs =>
        obtain ⟨v', e1, o1⟩ := ho 0 r rfl
        have e1 : v = v' := by simpa using e1
        subst e1
        refine ⟨v, vs, rfl, ?_⟩
        refine tgT_ok h1 I (Step.refl I.st.s) o1 fun σ1 I1 w1 => ?_
        refine gsT_ok h2 I1 (by simpa using hl) (fun j q hq => by simpa using ho (j + 1) q (by simpa using hq)) fun σ2 I2 w2 => k σ2 I2 fun own hown => ?_
        simp [tgsIn] at hown
        rw [w2 own hown.2, w1 own hown.1]
end
end
end EG
namespace EG
open PySem L2
/-! ### walks -/
structure Wk (G : Gt) (H0 : Hp) (J : L2.It) (g : Hp → Hp → Prop) (xs : List Vl) : Prop where
  go : ∀ i Hi H, i < xs.length → g Hi H → J.go i H
  yld : ∀ i Hi H x H', g Hi H → i < xs.length → J.yld i H x H' → ∃ Hi' q, Step Hi H Hi' H' ∧ xs[i]? = some q ∧ VlOk G H0 H Hi' H' q x
  stop : ∀ Hi H, g Hi H → J.stop xs.length H
theorem ex_trans {A B C : Hp} (h : Ex A B) (h2 : Ex B C) : Ex A C := Evl.Ex.trans h h2
section
variable {G : Gt} {H0 : Hp} {g : Hp → Hp → Prop}
theorem wk_list {p : Addr} {xs : List Vl} {vs : List V} (hs : ∀ Hi H, g Hi H → Ex Hi H) (hG : ∀ Hi H, g Hi H → SqL G.K H p vs) (hl : xs.length = vs.length) (hr : ∀ Hi H, g Hi H → ∀ (j : Nat) (q : Vl), xs[j]? = some q → ∃ v, vs[j]? = some v ∧ VlOk G H0 H Hi H q v) : Wk G H0 (Itl G.K p) g xs := by
  refine ⟨fun i Hi H hi gg => ⟨vs, vs[i]'(by omega), hG Hi H gg, by simp [show i < vs.length by omega]⟩, fun i Hi H x H' gg hi y => ?_, fun Hi H gg => ⟨vs, hG Hi H gg, by omega⟩⟩
  obtain ⟨e, y⟩ := y
  subst e
  have hq : xs[i]? = some xs[i] := List.getElem?_eq_getElem hi
  obtain ⟨v, h1, h2⟩ := hr Hi H' gg i _ hq
  have := y vs (hG Hi H' gg)
  rw [h1] at this; cases this
  exact ⟨Hi, _, Step.refl (hs Hi H' gg), hq, h2⟩
theorem wk_tup {p : Addr} {xs : List Vl} {vs : List V} (hs : ∀ Hi H, g Hi H → Ex Hi H) (hG : ∀ Hi H, g Hi H → SqT G.K H p vs) (hl : xs.length = vs.length) (hr : ∀ Hi H, g Hi H → ∀ (j : Nat) (q : Vl), xs[j]? = some q → ∃ v, vs[j]? = some v ∧ VlOk G H0 H Hi H q v) : Wk G H0 (Itt G.K p) g xs := by
  refine ⟨fun i Hi H hi gg => ⟨vs, vs[i]'(by omega), hG Hi H gg, by simp [show i < vs.length by omega]⟩, fun i Hi H x H' gg hi y => ?_, fun Hi H gg => ⟨vs, hG Hi H gg, by omega⟩⟩
  obtain ⟨e, y⟩ := y
  subst e
  have hq : xs[i]? = some xs[i] := List.getElem?_eq_getElem hi
  obtain ⟨v, h1, h2⟩ := hr Hi H' gg i _ hq
  have := y vs (hG Hi H' gg)
  rw [h1] at this; cases this
  exact ⟨Hi, _, Step.refl (hs Hi H' gg), hq, h2⟩
theorem rangeD_length (lo hi : Int) : (rangeD lo hi).length = (hi - lo).toNat := by unfold rangeD; simp
theorem wk_range {lo hi : Int} (hs : ∀ Hi H, g Hi H → Ex Hi H) : Wk G H0 (Itr lo (hi - lo).toNat) g ((rangeD lo hi).map .sh) := by
  refine ⟨fun i Hi H hi' gg => by rw [List.length_map, rangeD_length] at hi'; exact hi', fun i Hi H x H' gg hi' y => ?_, fun Hi H gg => by rw [List.length_map, rangeD_length]; exact Nat.le_refl _⟩
  obtain ⟨e, y⟩ := y
  rw [List.length_map, rangeD_length] at hi'
  subst y e
  refine ⟨Hi, .sh (.int (lo + i)), Step.refl (hs Hi H' gg), ?_, rfl⟩
  unfold rangeD
  rw [List.getElem?_map, List.getElem?_map, List.getElem?_range hi']
  rfl
theorem wk_rev {p : Addr} {ds : List D} {vs : List V} (hs : ∀ Hi H, g Hi H → Ex Hi H) (hG : ∀ Hi H, g Hi H → SqL G.K H p vs) (hr : ∀ Hi H, g Hi H → RepL G Hi ds vs) (hl : ds.length = vs.length) : Wk G H0 (Itv G.K p vs.length) g (ds.reverse.map .sh) := by
  refine ⟨fun i Hi H hi gg => ?_, fun i Hi H x H' gg hi y => ?_, fun Hi H gg => by simp only [List.length_map, List.length_reverse]; show vs.length ≤ ds.length; omega⟩
  · simp at hi
    exact ⟨by omega, vs, vs[vs.length - 1 - i]'(by omega), hG Hi H gg, by simp [show vs.length - 1 - i < vs.length by omega]⟩
  · simp at hi
    obtain ⟨e, y⟩ := y
    subst e
    obtain ⟨v, h1, h2⟩ := (hr Hi H' gg).get (i := vs.length - 1 - i) (d := ds[vs.length - 1 - i]'(by omega)) (List.getElem?_eq_getElem (by omega))
    have := y vs (hG Hi H' gg)
    rw [h1] at this; cases this
    refine ⟨Hi, .sh (ds[vs.length - 1 - i]'(by omega)), Step.refl (hs Hi H' gg), ?_, h2⟩
    rw [List.getElem?_map, List.getElem?_reverse (by omega)]
    have e : ds.length - 1 - i = vs.length - 1 - i := by omega
    rw [e, List.getElem?_eq_getElem (by omega)]
    rfl
theorem wk_enum {p : Addr} {ds : List D} {vs : List V} (hs : ∀ Hi H, g Hi H → Ex Hi H) (hG : ∀ Hi H, g Hi H → SqL G.K H p vs) (hr : ∀ Hi H, g Hi H → RepL G Hi ds vs) (hl : ds.length = vs.length) : Wk G H0 (Ite G.K p) g ((enumV ds).map .sh) := by
  have hlen : ((enumV ds).map Vl.sh).length = ds.length := by simp [enumV]
  refine ⟨fun i Hi H hi gg => ?_, fun i Hi H x H' gg hi y => ?_, fun Hi H gg => ⟨vs, hG Hi H gg, by rw [hlen]; omega⟩⟩
  · rw [hlen] at hi
    exact ⟨vs, vs[i]'(by omega), hG Hi H gg, by simp [show i < vs.length by omega]⟩
  · rw [hlen] at hi
    obtain ⟨T, z, rfl, hT, rfl, y⟩ := y
    obtain ⟨v, h1, h2⟩ := (hr Hi H gg).get (i := i) (d := ds[i]) (List.getElem?_eq_getElem hi)
    have hz := y vs (hG Hi H gg)
    rw [h1] at hz
    have hz : v = z := Option.some.inj hz
    subst hz
    have st := Step.new (o := .tup [V.int i, v]) (hs Hi H gg) hT
    refine ⟨_, .sh (.tup [.int (i : Int), ds[i]]), st, ?_, ?_⟩
    · unfold enumV
      rw [List.getElem?_map, List.getElem?_map, List.getElem?_eq_getElem (by simpa using hi)]
      simp
    · exact ⟨T, _, rfl, upd_same, _, _, rfl, rfl, _, _, rfl, Rep.mono st.i _ _ h2, rfl⟩
theorem for_wk {J : L2.It} {xs : List Vl} {gg : TG} {tb : TS} {Dn : Ends} {σ : L2.St} {H : Hp} (w : Wk G H0 J g xs) (Pv : Nat → Hp → L2.St → Hp → Prop) {Hi : Hp} (h0 : Pv 0 Hi σ H) (hG : ∀ i Hi σ H, Pv i Hi σ H → g Hi H)
    (hs : ∀ i q x Hi Hi' σ H H', xs[i]? = some q → Pv i Hi σ H → Step Hi H Hi' H' → VlOk G H0 H Hi' H' q x → gg x σ H' fun σ2 H2 => tb { Dn with nx := fun σ H => ∃ Hi, Pv (i + 1) Hi σ H, ct := fun σ H => ∃ Hi, Pv (i + 1) Hi σ H, bk := Dn.nx } σ2 H2) (hd : ∀ Hi σ H, Pv xs.length Hi σ H → Dn.nx σ H) :
    ∃ W : Nat → Nat → L2.St → Hp → Prop, (∃ m, W 0 m σ H) ∧ ∀ i m σ H, W i m σ H →
      (J.stop i H ∧ Dn.nx σ H) ∨ (J.go i H ∧ ∃ N : L2.St → Hp → Prop, (∀ σ' H', N σ' H' → ∃ m', m' < m ∧ W (i + 1) m' σ' H') ∧ ∀ x H', J.yld i H x H' → gg x σ H' fun σ2 H2 => tb { Dn with nx := N, ct := N, bk := Dn.nx } σ2 H2) := by
  refine ⟨fun i m σ H => m = xs.length - i ∧ i ≤ xs.length ∧ ∃ Hi, Pv i Hi σ H, ⟨xs.length, by simp, Nat.zero_le _, Hi, h0⟩, ?_⟩
  rintro i m σ H ⟨rfl, hi, Hi, p⟩
  have q := hG i Hi σ H p
  by_cases hlt : i < xs.length
  · refine .inr ⟨w.go i Hi H hlt q, fun σ H => ∃ Hi, Pv (i + 1) Hi σ H, fun σ' H' p' => ⟨xs.length - (i + 1), by omega, rfl, hlt, p'⟩, fun x H' y => ?_⟩
    obtain ⟨Hi', d, h1, h2, h3⟩ := w.yld i Hi H x H' q hlt y
    exact hs i d x Hi Hi' σ H H' h2 p h1 h3
  · have e : i = xs.length := by omega
    subst e
    exact .inl ⟨w.stop Hi H q, hd Hi σ H p⟩
theorem lc_wk {J : L2.It} {xs : List Vl} {gg : TG} {tt : TT} {te : TE} {vs : List Nat} {σ : L2.St} {H1 : Hp} {Dl : Addr} {Qd : Hp → Prop} (w : Wk G H0 J g xs) (Pv : Nat → Hp → Hp → Prop) {Hi : Hp} (h0 : Pv 0 Hi (upd H1 Dl (.lst []))) (hG : ∀ i Hi H, Pv i Hi H → g Hi H)
    (hs : ∀ i q x Hi Hi' H H', xs[i]? = some q → Pv i Hi H → Step Hi H Hi' H' → VlOk G H0 H Hi' H' q x → gg x (wipe σ vs) H' fun σ2 H2 => wipe σ2 vs = wipe σ vs ∧ tt σ2 H2 fun b H3 =>
      if b = true then te σ2 H3 fun y H4 => ∃ acc, H4 Dl = some (.lst acc) ∧ acc.length < sizeLine ∧ ∃ Hi, Pv (i + 1) Hi (upd H4 Dl (.lst (acc ++ [y]))) else ∃ Hi, Pv (i + 1) Hi H3) (hd : ∀ Hi H, Pv xs.length Hi H → Qd H) :
    ∃ W : Nat → Nat → Hp → Prop, (∃ m, W 0 m (upd H1 Dl (.lst []))) ∧ ∀ i m H, W i m H →
      (J.stop i H ∧ Qd H) ∨ (J.go i H ∧ ∃ Nx : Hp → Prop, (∀ H', Nx H' → ∃ m', m' < m ∧ W (i + 1) m' H') ∧ ∀ x H', J.yld i H x H' → gg x (wipe σ vs) H' fun σ2 H2 => wipe σ2 vs = wipe σ vs ∧ tt σ2 H2 fun b H3 =>
        if b = true then te σ2 H3 fun y H4 => ∃ acc, H4 Dl = some (.lst acc) ∧ acc.length < sizeLine ∧ Nx (upd H4 Dl (.lst (acc ++ [y]))) else Nx H3) := by
  refine ⟨fun i m H => m = xs.length - i ∧ i ≤ xs.length ∧ ∃ Hi, Pv i Hi H, ⟨xs.length, by simp, Nat.zero_le _, Hi, h0⟩, ?_⟩
  rintro i m H ⟨rfl, hi, Hi, p⟩
  have q := hG i Hi H p
  by_cases hlt : i < xs.length
  · refine .inr ⟨w.go i Hi H hlt q, fun H => ∃ Hi, Pv (i + 1) Hi H, fun H' p' => ⟨xs.length - (i + 1), by omega, rfl, hlt, p'⟩, fun x H' y => ?_⟩
    obtain ⟨Hi', d, h1, h2, h3⟩ := w.yld i Hi H x H' q hlt y
    exact hs i d x Hi Hi' H H' h2 p h1 h3
  · have e : i = xs.length := by omega
    subst e
    exact .inl ⟨w.stop Hi H q, hd Hi H p⟩
end
end EG
/-! enumerate over a tuple -/
namespace EG
open PySem PySem.Spec PyProof.Rows L2
/-- the tuple at a as it stands at each turn, each item in a new pair -/
def Itte (K : PySem.W.Frag) (a : Addr) : It :=
  ⟨fun i H => ∃ (xs : List V) (x : V), SqT K H a xs ∧ xs[i]? = some x, fun i H v H' => ∃ T x, v = .ref T ∧ H T = none ∧ H' = upd H T (.tup [.int (i : Nat), x]) ∧ ∀ xs, SqT K H a xs → xs[i]? = some x, fun i H => ∃ xs : List V, SqT K H a xs ∧ xs.length ≤ i⟩
theorem turn_enumT {P : Program} {w : World} {K : PySem.W.Frag} {elts : List Expr} {kk : Nat} {tpos : Pos} (a e it : Addr) (hai : a ≠ it) :
    Turn P w K (.Tuple elts kk tpos) (Itte K a) [e, it] e (fun i h => (∃ old, IsEnum h e it ((i : Nat) : Int) old) ∧ h.IsTupleIter it a i ∧ e ≠ it) where
  mem := by simp
  obj := fun i h st b hb => by
    obtain ⟨⟨old, he⟩, ⟨o, ho, hc, hd⟩, _⟩ := st
    have e' : b = e ∨ b = it := by simpa using hb
    rcases e' with z | z
    · rw [z]; exact ⟨_, he, fun v q => nomatch q⟩
    · rw [z]; exact ⟨o, ho, fun v q => by rw [hd] at q; cases q⟩
  keep := fun i h h' st k => let ⟨⟨old, he⟩, hi, hne⟩ := st; ⟨⟨old, k e (by simp) _ he⟩, hi.at fun o q => k it (by simp) o q, hne⟩
  item := by
    intro X hP hw hK hc i pins s σ H E I hf st hg
    subst hP hw hK
    obtain ⟨⟨old, he⟩, hit, hne⟩ := st
    obtain ⟨xs, x, hq, hx⟩ := hg
    obtain ⟨its, rv, p, hz⟩ := I.tuple hq
    have p : s.heap.IsTuple a its.toArray := p
    obtain ⟨u, hu, ru⟩ := rv.get hx
    have hel : e < s.heap.objs.size := Heap.lt_size he
    have hil : it < s.heap.objs.size := by obtain ⟨_, q, _⟩ := hit; exact Heap.lt_size q
    have hea : e ≠ a := fun z => by
      subst z
      obtain ⟨o, ho, hc, _⟩ := p
      rw [he] at ho; cases ho
      have hc : Value.type "enumerate" = Value.type "tuple" := hc
      injection hc with z
      exact absurd z (by decide)
    have hlt : i < its.toArray.size := by
      have := (List.getElem?_eq_some_iff.mp hu).1
      simpa using this
    have D := Draws.tuple (prog := X.prog) (w := X.w) (A := X.A.in1) (I.ok.hd hc) it a hai its.toArray
    refine wpAny_pyNext_enum_itemD D he ⟨hit, p⟩ hlt hne (by simp [hne, hea]) fun y h' tk hy ho hit' hT hsz hk => ?_
    obtain ⟨hit', p'⟩ := hit'
    have hyu : y = u := by
      have e1 : its.toArray[i]? = some u := by simpa using hu
      rw [e1] at hy; exact (Option.some.inj hy).symm
    subst hyu
    refine ⟨_, rfl, wpAny_letOwnedTupleGo_enum (s := { s with heap := h', toks := tk + 1 }) ho fun h'' he' sb => ?_⟩
    have hT2 : h''.get? s.heap.objs.size = some { cls := .type "tuple", data := .seq #[.int i tk, y] } := (sb.2 _ (Nat.ne_of_gt hel)).trans hT
    have new : ObjOk X.prog X.w (upd H s.heap.objs.size (.tup [.int (i : Nat), x])) h'' s.heap.objs.size (.tup [.int (i : Nat), x]) :=
      ⟨by show 2 ≤ sizeLine; decide, [.int i tk, y], .cons ⟨_, rfl⟩ (.cons ru .nil), ⟨_, hT2, rfl, _, rfl⟩⟩
    have I1 : Inv X pins σ (upd H s.heap.objs.size (.tup [.int (i : Nat), x])) { s with heap := h'', toks := tk + 1 } :=
      I.turnedNew (ch := [e, it]) (fun b ob hb q => (sb.2 b (fun z => hb (by simp [z]))).trans (hk b ob (fun z => hb (by simp [z])) (fun z => hb (by simp [z])) q)) hf (Nat.le_refl _) new
    refine ⟨.ref s.heap.objs.size, _, I1, rfl, ⟨_, x, rfl, I.hok.fresh (Nat.le_refl _), rfl, fun ys hy => by rw [I.tuple_inj hy hq]; exact hx⟩, ⟨⟨y, ?_⟩, hit'.at fun o q => (sb.2 it (Ne.symm hne)).trans q, hne⟩, fun b hb => ?_⟩
    · have e1 : ((i + 1 : Nat) : Int) = (i : Int) + 1 := by omega
      rw [e1]; exact he'
    · have hb' : b < s.heap.objs.size := by
        have e' : b = e ∨ b = it := by simpa using hb
        rcases e' with z | z
        · rw [z]; exact hel
        · rw [z]; exact hil
      rw [upd_ne (Nat.ne_of_lt hb')]
      exact (hf b hb).1
  done := by
    intro X hP hw hK hc i pins s σ H E I hf st hg
    subst hP hw hK
    obtain ⟨⟨old, he⟩, hit, hne⟩ := st
    obtain ⟨xs, hq, hx⟩ := hg
    obtain ⟨its, rv, p, hz⟩ := I.tuple hq
    have p : s.heap.IsTuple a its.toArray := p
    obtain ⟨f0, f1, f2, f3, f4, f5⟩ := hf it (by simp)
    have hl := rv.length
    have D : Draws X.prog X.w X.A.in1 it [it, a] i (fun _ _ => True) (fun j h => j = i ∧ h.IsTupleIter it a j ∧ h.IsTuple a its.toArray) := {
      live := fun _ _ st => let ⟨o, ho, _⟩ := st.2.1; ⟨o, ho⟩
      frame := fun _ _ _ st hk => ⟨st.1, st.2.1.at fun o e => hk it (by simp) o e, st.2.2.at fun o e => hk a (by simp) o e⟩
      item := fun j s Q E hj st hQ => by have := st.1; omega
      done := fun s Q E st hE => wpAny_nextOf_tuple_end (I.ok.hd hc) st.2.1 st.2.2 (by simp; omega) hE }
    exact wpAny_pyNext_enum_endD D he ⟨rfl, hit, p⟩ fun h' eb => ⟨rfl, I.turned (t' := s.toks) (fun b o hb q => eb b o hb q) f0 f1 f3 f4 f5⟩
  self := fun A i s Q E st h => let ⟨⟨_, he⟩, _⟩ := st; wpAny_pyIter_enum he h
set_option maxHeartbeats 1000000 in
theorem meets_enumerate_newT {v : Value} {o : Obj} {H : Heap → Prop} (B : Begins v o H) :
    Meets (Builtin.«enumerate.__new__» ⟨[.type "enumerate", v], []⟩) (fun _ R s => H s.heap ∧
      R (.ok (.ret (.ref (s.heap.push o).objs.size))) { s with heap := (s.heap.push o).push { cls := .type "enumerate", data := .fields #[.none, .bool false, .ref s.heap.objs.size, rawInt 0, .none, .none] } }) :=
  .of_wp fun prog w A R s h => by
    obtain ⟨hp, g, d, tk, os⟩ := s; obtain ⟨h1, h⟩ := h
    have hsub := sub_enumerate
    have q1 : ∀ {A' : Around} {E : Value → Shared → Prop} {Q : Value → Shared → Prop}, Q (.ref hp.objs.size) ⟨hp.push o, g, d, tk, os⟩ → wpAny (model prog w) A' (pyIter v) Q E ⟨hp, g, d, tk, os⟩ :=
      fun q => B.iter prog w _ _ ⟨hp, g, d, tk, os⟩ _ h1 q
    wp_walk using q1
    refine wpAny_stack_any fun st => wpAny_pure ?_
    split
    · rename_i c _ _ _ _ _
      cases (c == Value.type "enumerate")
      · wp_walk using q1
        exact ⟨_, rfl, h⟩
      · wp_walk using q1
        exact ⟨_, rfl, h⟩
    · wp_walk using q1
      exact ⟨_, rfl, h⟩
theorem call_enumT {prog : Program} {w : World} {A : Around} {E : Value → Shared → Prop} {s : Shared} {t : Addr} {items : Array Value} {Q : Value → Shared → Prop} (hT : s.heap.IsTuple t items)
    (h : ∀ h', IsEnum h' (s.heap.objs.size + 1) s.heap.objs.size 0 .none → h'.IsTupleIter s.heap.objs.size t 0 →
      (∀ b o, s.heap.get? b = some o → h'.get? b = some o) → Q (.ref (s.heap.objs.size + 1)) { s with heap := h' }) :
    wpAny (model prog w) A (call (.type "enumerate") [.ref t]) Q E s := by
  refine callType_new F.called_enumerate (by decide) (F.typeCall_enumerate_1 _) (F.newCall_enumerate_1 _) (fun obj => F.args_object_init_2 obj _) F.entry_enumerate_new
    (meets_enumerate_newT (begins_tuple t items)) ⟨hT, ?_⟩
  have hz : (s.heap.push { cls := .type "tuple_iterator", data := .fields #[.ref t, .int 0 0] }).objs.size = s.heap.objs.size + 1 := Heap.size_push ..
  show _ ∧ _
  rw [hz]
  have he : IsEnum ((s.heap.push { cls := .type "tuple_iterator", data := .fields #[.ref t, .int 0 0] }).push
      { cls := .type "enumerate", data := .fields #[.none, .bool false, .ref s.heap.objs.size, rawInt 0, .none, .none] }) (s.heap.objs.size + 1) s.heap.objs.size 0 .none := by
    have := Heap.get?_push_size (s.heap.push { cls := .type "tuple_iterator", data := .fields #[.ref t, .int 0 0] })
      (o := { cls := .type "enumerate", data := .fields #[.none, .bool false, .ref s.heap.objs.size, rawInt 0, .none, .none] }) rfl
    rw [hz] at this; exact this
  exact ⟨⟨_, he, rfl⟩, h _ he ⟨_, Heap.get?_push_of_some _ (Heap.get?_push_size _ rfl), rfl, rfl⟩ fun b o x => Heap.get?_push_of_some _ (Heap.get?_push_of_some _ x)⟩
def iEnumB (K : PySem.W.Frag) (ta : TA) : TI := fun σ H R => ta σ H fun vs H1 => ∃ a, vs = [.ref a] ∧ ((∃ xs, SqL K H1 a xs ∧ R (Ite K a) H1) ∨ (∃ xs, SqT K H1 a xs ∧ R (Itte K a) H1))
theorem pi_enumB {X : Cx} {e : Expr} {ta : TA} {p pos tpos : Pos} {elts : List Expr} {kk : Nat} (hg : Gl X "enumerate") (hm : X.mg "enumerate" = none) (ha : PA X [e] ta) (hs : starEach [e] X.env = [(false, eval e X.env)] := by rfl) :
    PI X (.Tuple elts kk tpos) (.Call (.Name "enumerate" p) [e] [] pos) (iEnumB X.K ta) := by
  refine ⟨fun pins s σ H R I h => ?_⟩
  refine Call_ (ld_blt I hg hm boot_enumerate (PyProof.Rows.callWith_type1 (thn (ha.run pos pins s σ H _ I h) fun us s1 ⟨vs, H1, I1, r1, q1⟩ => ?_) hs rfl))
  obtain ⟨a, ex, q⟩ := q1
  subst ex
  cases r1 with
  | cons r rr =>
    cases rr
    cases r
    have hfp : ∀ b ∈ [s1.heap.objs.size + 1, s1.heap.objs.size], s1.heap.objs.size ≤ b := fun b hb => by
      have e' : b = s1.heap.objs.size + 1 ∨ b = s1.heap.objs.size := by simpa using hb
      rcases e' with z | z
      · rw [z]; exact Nat.le_add_right _ _
      · rw [z]; exact Nat.le_refl _
    rcases q with ⟨xs, hq, q⟩ | ⟨xs, hq, q⟩
    · obtain ⟨its, rv, p', hz⟩ := I1.list hq
      refine call_enumerate_list p'.isList fun h' he hit hsz hk => wpAny_pyIter_enum he ?_
      have I2 : Inv X pins σ H1 { s1 with heap := h' } := I1.kept (t' := s1.toks) hk
      exact ⟨s1.heap.objs.size + 1, [s1.heap.objs.size + 1, s1.heap.objs.size], _, _, H1, rfl, I2, turn_enum a (s1.heap.objs.size + 1) s1.heap.objs.size, ⟨⟨.none, he⟩, hit, Nat.succ_ne_self _⟩, fun b hb => I1.fpOk (hfp b hb) (I1.hok.fresh (hfp b hb)), q⟩
    · obtain ⟨its, rv, p', hz⟩ := I1.tuple hq
      have p' : s1.heap.IsTuple a its.toArray := p'
      have hne : a ≠ s1.heap.objs.size := by
        obtain ⟨o, ho, _⟩ := p'
        exact Nat.ne_of_lt (Heap.lt_size ho)
      refine call_enumT p' fun h' he hit hk => wpAny_pyIter_enum he ?_
      have I2 : Inv X pins σ H1 { s1 with heap := h' } := I1.kept (t' := s1.toks) hk
      exact ⟨s1.heap.objs.size + 1, [s1.heap.objs.size + 1, s1.heap.objs.size], _, _, H1, rfl, I2, turn_enumT a (s1.heap.objs.size + 1) s1.heap.objs.size hne, ⟨⟨.none, he⟩, hit, Nat.succ_ne_self _⟩, fun b hb => I1.fpOk (hfp b hb) (I1.hok.fresh (hfp b hb)), q⟩
section
variable {G : Gt} {H0 : Hp} {g : Hp → Hp → Prop}
theorem wk_enumT {p : Addr} {ds : List D} {vs : List V} (hs : ∀ Hi H, g Hi H → Ex Hi H) (hG : ∀ Hi H, g Hi H → SqT G.K H p vs) (hr : ∀ Hi H, g Hi H → RepL G Hi ds vs) (hl : ds.length = vs.length) : Wk G H0 (Itte G.K p) g ((enumV ds).map .sh) := by
  have hlen : ((enumV ds).map Vl.sh).length = ds.length := by simp [enumV]
  refine ⟨fun i Hi H hi gg => ?_, fun i Hi H x H' gg hi y => ?_, fun Hi H gg => ⟨vs, hG Hi H gg, by rw [hlen]; omega⟩⟩
  · rw [hlen] at hi
    exact ⟨vs, vs[i]'(by omega), hG Hi H gg, by simp [show i < vs.length by omega]⟩
  · rw [hlen] at hi
    obtain ⟨T, z, rfl, hT, rfl, y⟩ := y
    obtain ⟨v, h1, h2⟩ := (hr Hi H gg).get (i := i) (d := ds[i]) (List.getElem?_eq_getElem hi)
    have hz := y vs (hG Hi H gg)
    rw [h1] at hz
    have hz : v = z := Option.some.inj hz
    subst hz
    have st := Step.new (o := .tup [V.int i, v]) (hs Hi H gg) hT
    refine ⟨_, .sh (.tup [.int (i : Int), ds[i]]), st, ?_, ?_⟩
    · unfold enumV
      rw [List.getElem?_map, List.getElem?_map, List.getElem?_eq_getElem (by simpa using hi)]
      simp
    · exact ⟨T, _, rfl, upd_same, _, _, rfl, rfl, _, _, rfl, Rep.mono st.i _ _ h2, rfl⟩
end
end EG
namespace EG
open PySem L2
section
variable {G : Gt} {H0 : Hp} {g : Hp → Hp → Prop}
theorem walkL {x : Vl} {u : V} {xs : List D} {rs : List Vl} {p : Addr} {vs : List V} (hx : x.d = .lst xs) (hp : partsD x xs = some rs) (hu : u = .ref p) (hl : vs.length = xs.length)
    (hg : ∀ Hi2 H2, g Hi2 H2 → Ex Hi2 H2 ∧ Ex H0 H2 ∧ H2 p = some (.lst vs) ∧ VlOk G H0 H2 Hi2 H2 x u) : Wk G H0 (Itl G.K p) g rs := by
  refine wk_list (vs := vs) (fun Hi H gg => (hg Hi H gg).1) (fun Hi H gg => SqL.of (hg Hi H gg).2.2.1) (by rw [(partsD_get hp).1, hl]) fun Hi H gg j q hq => ?_
  obtain ⟨a1, a2, a3, a4⟩ := hg Hi H gg
  obtain ⟨p', vs', b1, b2, _, _, _, b6⟩ := parts_ok a1 a2 a4 (.inl hx) hp
  rw [hu] at b1; cases b1
  have := b2 hx
  rw [a3] at this; cases this
  exact b6 j q hq
theorem walkT {x : Vl} {u : V} {xs : List D} {rs : List Vl} {p : Addr} {vs : List V} (hx : x.d = .tup xs) (hp : partsD x xs = some rs) (hu : u = .ref p) (hl : vs.length = xs.length)
    (hg : ∀ Hi2 H2, g Hi2 H2 → Ex Hi2 H2 ∧ Ex H0 H2 ∧ H2 p = some (.tup vs) ∧ VlOk G H0 H2 Hi2 H2 x u) : Wk G H0 (Itt G.K p) g rs := by
  refine wk_tup (vs := vs) (fun Hi H gg => (hg Hi H gg).1) (fun Hi H gg => SqT.of (hg Hi H gg).2.2.1) (by rw [(partsD_get hp).1, hl]) fun Hi H gg j q hq => ?_
  obtain ⟨a1, a2, a3, a4⟩ := hg Hi H gg
  obtain ⟨p', vs', b1, _, b3, _, _, b6⟩ := parts_ok a1 a2 a4 (.inr hx) hp
  rw [hu] at b1; cases b1
  have := b3 hx
  rw [a3] at this; cases this
  exact b6 j q hq
theorem walkS {ns : List Int} {p : Addr} (hg : ∀ Hi2 H2, g Hi2 H2 → Ex Hi2 H2 ∧ SqL G.K H2 p (ns.map V.int)) : Wk G H0 (Itl G.K p) g (ns.map fun n => .sh (.int n)) := by
  refine wk_list (vs := ns.map V.int) (fun Hi H gg => (hg Hi H gg).1) (fun Hi H gg => (hg Hi H gg).2) (by simp) fun Hi H gg j q hq => ?_
  rw [List.getElem?_map, Option.map_eq_some_iff] at hq
  obtain ⟨n, h1, rfl⟩ := hq
  exact ⟨.int n, by rw [List.getElem?_map, h1]; rfl, rfl⟩
/-- where a value's top cell stands, while it may be read -/
def Holds (G : Gt) (H0 : Hp) (g : Hp → Hp → Prop) (x : Vl) (u : V) : Prop := ∀ Hi2 H2, g Hi2 H2 → Ex Hi2 H2 ∧ Ex H0 H2 ∧ VlOk G H0 H2 Hi2 H2 x u
/-- the top cell stays -/
def Stays (g : Hp → Hp → Prop) (Hc : Hp) : Prop := ∀ Hi2 H2, g Hi2 H2 → Ex Hc H2
theorem top_of {x : Vl} {u : V} {Hi H : Hp} {Hb : Hp} (s : Ex Hi H) (s0 : Ex H0 H) (o : VlOk G H0 Hb Hi H x u) (hw : ∀ n d, x ≠ .fr n d) : ∃ Hc, (Hc = Hi ∨ Hc = H0 ∨ (∃ n d, x = .us n d) ∧ Hc = H) ∧
    (∀ xs, x.d = .lst xs → ∃ p vs, u = .ref p ∧ Hc p = some (.lst vs) ∧ vs.length = xs.length) ∧ (∀ xs, x.d = .tup xs → ∃ p vs, u = .ref p ∧ Hc p = some (.tup vs) ∧ vs.length = xs.length) := by
  have rp : ∀ {Hc : Hp} {d : D}, Rep G Hc d u → (∀ xs, d = .lst xs → ∃ p vs, u = .ref p ∧ Hc p = some (.lst vs) ∧ vs.length = xs.length) ∧ (∀ xs, d = .tup xs → ∃ p vs, u = .ref p ∧ Hc p = some (.tup vs) ∧ vs.length = xs.length) := fun {Hc d} h => by
    refine ⟨fun xs e => ?_, fun xs e => ?_⟩
    · subst e; obtain ⟨p, vs, h1, h2, h3⟩ := h; exact ⟨p, vs, h1, h2, h3.length.symm⟩
    · subst e; obtain ⟨p, vs, h1, h2, h3⟩ := h; exact ⟨p, vs, h1, h2, h3.length.symm⟩
  have bp : ∀ {Hc : Hp} {n : Nat} {d : D}, Bor G Hi Hc n d u → ∃ Hd, (Hd = Hi ∨ Hd = Hc) ∧ (∀ xs, d = .lst xs → ∃ p vs, u = .ref p ∧ Hd p = some (.lst vs) ∧ vs.length = xs.length) ∧ (∀ xs, d = .tup xs → ∃ p vs, u = .ref p ∧ Hd p = some (.tup vs) ∧ vs.length = xs.length) := fun {Hc n d} h => by
    cases n with
    | zero => unfold Bor at h; exact ⟨Hi, .inl rfl, rp h⟩
    | succ n =>
      by_cases hf : flatD d = true
      · exact ⟨Hi, .inl rfl, rp (h.flat hf)⟩
      · refine ⟨Hc, .inr rfl, fun xs e => ?_, fun xs e => ?_⟩
        · subst e; obtain ⟨p, vs, h1, h2, h3⟩ := h; exact ⟨p, vs, h1, h2, h3.length.symm⟩
        · subst e
          unfold Bor at h
          rw [if_neg (by simpa [flatD] using hf)] at h
          obtain ⟨p, vs, h1, h2, h3⟩ := h; exact ⟨p, vs, h1, h2, h3.length.symm⟩
  match x, o, hw with
  | .sh d, o, _ => exact ⟨Hi, .inl rfl, rp o⟩
  | .fr n d, o, hw => exact absurd rfl (hw n d)
  | .bo n d, o, _ =>
    obtain ⟨Hd, h1, h2⟩ := bp o
    exact ⟨Hd, h1.imp id .inl, h2⟩
  | .us n d, o, _ =>
    obtain ⟨Hd, h1, h2⟩ := bp o
    exact ⟨Hd, h1.imp id fun z => .inr ⟨⟨n, d, rfl⟩, z⟩, h2⟩
end
def GoodI (C : Ctx) (H0 Hi H : Hp) (σ : L2.St) (R : L2.It → Hp → Prop) (gd : Hp → Hp → Hp → Hp → Prop) : Rz (List Vl) → Prop
  | .ok xs => ∀ Hi' H' J, Step Hi H Hi' H' → Wk C.G H0 J (gd Hi' H') xs → R J H'
  | .er c ns ds => ErOk C Hi H σ c ns ds
/-- while a comprehension walks -/
def gdC (Hi' H' Hi2 H2 : Hp) : Prop := Ex Hi' Hi2 ∧ Ex Hi2 H2 ∧ Ex H' H2
/-- while a for walks -/
def gdL (H0 Hi' _H' Hi2 H2 : Hp) : Prop := Ex Hi' Hi2 ∧ Ex Hi2 H2 ∧ Ex H0 H2
def RI (C : Ctx) (tg pit : Expr) (it : Epi) : Prop := ∀ ε o, iterD C.Φ it ε = some o → ∀ Hi0 H0 Hi H σ (R : L2.It → Hp → Prop), EnvOk C.G C.xp Hi0 H0 Hi H σ ε → GoodI C H0 Hi H σ R gdC o → tUI C.X tg pit σ H R
def RL (C : Ctx) (tg pit : Expr) (it : Epi) : Prop := ∀ ε o, loopD C.Φ it ε = some o → ∀ Hi0 H0 Hi H σ (R : L2.It → Hp → Prop), EnvOk C.G C.xp Hi0 H0 Hi H σ ε → GoodI C H0 Hi H σ R (gdL H0) o → tUI C.X tg pit σ H R
section
variable {C : Ctx} {pe pa pb pc tg : Expr} {a b c : Ep} {pos : Pos}
theorem erI {H0 Hi H : Hp} {σ : L2.St} {R : L2.It → Hp → Prop} {gd} {o : Rz (List Vl)} (h : GoodI C H0 Hi H σ R gd o) : ∀ c ns ds, o = .er c ns ds → ErOk C Hi H σ c ns ds := fun c ns ds z => by subst z; exact h
/-- the walk over a value that may be read while g -/
theorem over_walk (hk : C.X.K = C.G.K) {x : Vl} {rs : List Vl} {u : V} {Hi1 H1 H0 : Hp} {gd : Hp → Hp → Prop} {R : L2.It → Hp → Prop} (hns : ∀ z, x.d ≠ .str z) (hx : itemsD x = some rs) (s : Ex Hi1 H1) (s0 : Ex H0 H1) {Hb : Hp} (o : VlOk C.G H0 Hb Hi1 H1 x u) (hw : ∀ n d, x ≠ .fr n d)
    (hold : Holds C.G H0 gd x u) (hHi : ∀ Hi2 H2, gd Hi2 H2 → Ex Hi1 H2) (hH0 : ∀ Hi2 H2, gd Hi2 H2 → Ex H0 H2) (hus : (∃ n d, x = .us n d) → ∀ Hi2 H2, gd Hi2 H2 → Ex H1 H2) (k : ∀ J, Wk C.G H0 J gd rs → R J H1) :
    ((∀ ys, x.d ≠ .tup ys) ∧ ∃ a, u = .ref a ∧ (∃ xs, SqL C.X.K H1 a xs) ∧ R (Itl C.X.K a) H1) ∨ ((∃ ys, x.d = .tup ys) ∧ ∃ a, u = .ref a ∧ (∃ xs, SqT C.X.K H1 a xs) ∧ R (Itt C.X.K a) H1) := by
  obtain ⟨Hc, hc, tl, tt⟩ := top_of s s0 o hw
  have hcs : ∀ Hi2 H2, gd Hi2 H2 → Ex Hc H2 := fun Hi2 H2 gg => by
    rcases hc with rfl | rfl | ⟨z, rfl⟩
    · exact hHi Hi2 H2 gg
    · exact hH0 Hi2 H2 gg
    · exact hus z Hi2 H2 gg
  have hc1 : Ex Hc H1 := by
    rcases hc with rfl | rfl | ⟨z, rfl⟩
    · exact s
    · exact s0
    · exact Evl.Ex.refl _
  rw [hk]
  unfold itemsD at hx
  split at hx
  · rename_i xs ex
    obtain ⟨p, vs, e1, e2, e3⟩ := tl xs ex
    refine .inl ⟨(fun ys z => by rw [ex] at z; cases z), p, e1, ⟨vs, SqL.of (hc1 _ _ e2)⟩, k _ (walkL ex hx e1 e3 fun Hi2 H2 gg => ?_)⟩
    obtain ⟨b1, b2, b3⟩ := hold Hi2 H2 gg
    exact ⟨b1, b2, hcs Hi2 H2 gg _ _ e2, b3⟩
  · rename_i xs ex
    obtain ⟨p, vs, e1, e2, e3⟩ := tt xs ex
    refine .inr ⟨⟨xs, ex⟩, p, e1, ⟨vs, SqT.of (hc1 _ _ e2)⟩, k _ (walkT ex hx e1 e3 fun Hi2 H2 gg => ?_)⟩
    obtain ⟨b1, b2, b3⟩ := hold Hi2 H2 gg
    exact ⟨b1, b2, hcs Hi2 H2 gg _ _ e2, b3⟩
  · rename_i ns ex
    cases hx
    obtain ⟨p, e1, e2⟩ := scr_of s s0 o ex
    refine .inl ⟨(fun ys z => by rw [ex] at z; cases z), p, e1, ⟨_, e2⟩, k _ (walkS fun Hi2 H2 gg => ?_)⟩
    obtain ⟨b1, b2, b3⟩ := hold Hi2 H2 gg
    obtain ⟨p', f1, f2⟩ := scr_of b1 b2 b3 ex
    rw [e1] at f1; cases f1
    exact ⟨b1, f2⟩
  · rename_i z ex; exact absurd ex (hns z)
  · cases hx
theorem VlOk.up {G : Gt} {H0 Hb Hc Hi H Hi2 H2 : Hp} {q : Vl} {x : V} (hq : ∀ n d, q ≠ .fr n d) (ei : Ex Hi Hi2) (eh : (∃ n d, q = .us n d) → Ex H H2) (h : VlOk G H0 Hb Hi H q x) : VlOk G H0 Hc Hi2 H2 q x := by
  match q, h, hq, eh with
  | .sh d, h, _, _ => exact Rep.mono ei d x h
  | .fr n d, h, hq, _ => exact absurd rfl (hq n d)
  | .bo n d, h, _, _ => exact Bor.mono ei (Evl.Ex.refl _) n d x h
  | .us n d, h, _, eh => exact Bor.mono ei (eh ⟨n, d, rfl⟩) n d x h
/-- a new value is read as one that is one's own -/
def asUs : Vl → Vl
  | .fr n d => .us n d
  | r => r
theorem asUs_d (x : Vl) : (asUs x).d = x.d := by cases x <;> rfl
theorem asUs_items (x : Vl) : itemsD (asUs x) = itemsD x := by
  cases x with
  | fr n d =>
    unfold itemsD
    show (match d with | .lst xs => partsD (.us n d) xs | .tup xs => partsD (.us n d) xs | .scr ns => _ | .str z => _ | _ => _) = (match d with | .lst xs => partsD (.fr n d) xs | .tup xs => partsD (.fr n d) xs | .scr ns => _ | .str z => _ | _ => _)
    have : ∀ xs : List D, partsD (.us n d) xs = partsD (.fr n d) xs := fun xs => by
      induction xs with
      | nil => rfl
      | cons y ys ih => simp only [partsD, ih, Vl.part]
    cases d <;> simp [this]
  | _ => rfl
theorem asUs_ok {G : Gt} {H0 Hb Hi H : Hp} {x : Vl} {u : V} (s : Ex Hi H) (h : VlOk G H0 Hb Hi H x u) : VlOk G H0 Hb Hi H (asUs x) u := by
  cases x with
  | fr n d => obtain ⟨fp, h1, _, _⟩ := h; exact Own.bor s n d u fp h1
  | _ => exact h
theorem asUs_nf (x : Vl) : ∀ n d, asUs x ≠ .fr n d := by cases x <;> exact fun n d z => nomatch z
theorem wk_str {G : Gt} {H0 : Hp} {g : Hp → Hp → Prop} {z : Str} (hg : ∀ Hi H, g Hi H → Ex Hi H) : Wk G H0 (Its z) g (z.cps.toList.map fun c => Vl.sh (.str ⟨#[c]⟩)) := by
  refine ⟨fun i Hi H hi _ => ?_, fun i Hi H x H' gg hi y => ?_, fun Hi H _ => ?_⟩
  · rw [List.length_map, Array.length_toList] at hi; exact hi
  · obtain ⟨e, c, h1, rfl⟩ := y
    subst e
    refine ⟨Hi, .sh (.str ⟨#[c]⟩), Step.refl (hg _ _ gg), ?_, (show Rep G Hi (.str ⟨#[c]⟩) (.str ⟨#[c]⟩) from rfl)⟩
    rw [List.getElem?_map, Array.getElem?_toList, h1]; rfl
  · show z.cps.size ≤ _
    rw [List.length_map, Array.length_toList]; exact Nat.le_refl _
theorem items_str {x : Vl} {z : Str} {rs : List Vl} (e : x.d = .str z) (h : itemsD x = some rs) : rs = z.cps.toList.map fun c => Vl.sh (.str ⟨#[c]⟩) := by
  unfold itemsD at h
  rw [e] at h
  cases h; rfl
theorem i_over (hk : C.X.K = C.G.K) (ha : RE C pa a) : RI C tg pa (.over a) := by
  intro ε o h Hi0 H0 Hi H σ R I k
  simp only [iterD] at h
  rcases rb_some h with ⟨c, ns, ds, h1, rfl⟩ | ⟨x, h1, h2⟩
  · exact tUI_of (pi_list peU) (ha ε _ h1 Hi0 H0 Hi H σ _ I k)
  · obtain ⟨rs, h3, rfl⟩ := rl_some h2
    by_cases hst : ∃ z, x.d = .str z
    · obtain ⟨z, ez⟩ := hst
      refine tUI_of (pi_str peU) (ha ε _ h1 Hi0 H0 Hi H σ _ I fun Hi1 H1 u s1 o1 => ?_)
      refine ⟨z, str_of s1.s (I.step s1).st.h o1 ez, k Hi1 H1 _ s1 ?_⟩
      rw [items_str ez h3]
      exact wk_str fun _ _ gg => gg.2.1
    have hns : ∀ z, x.d ≠ .str z := fun z e => hst ⟨z, e⟩
    have key : ∀ Hi1 H1 u, Step Hi H Hi1 H1 → VlOk C.G H0 H Hi1 H1 x u → ((∀ ys, x.d ≠ .tup ys) ∧ ∃ a, u = .ref a ∧ (∃ xs, SqL C.X.K H1 a xs) ∧ R (Itl C.X.K a) H1) ∨ ((∃ ys, x.d = .tup ys) ∧ ∃ a, u = .ref a ∧ (∃ xs, SqT C.X.K H1 a xs) ∧ R (Itt C.X.K a) H1) := fun Hi1 H1 u s1 o1 => by
      have e0 := (I.step s1).st.h
      have o2 := asUs_ok s1.s o1
      rw [← asUs_d x]
      refine over_walk hk (gd := gdC Hi1 H1) (by rw [asUs_d]; exact hns) (by rw [asUs_items]; exact h3) s1.s e0 o2 (asUs_nf x) (fun Hi2 H2 gg => ⟨gg.2.1, ex_trans e0 gg.2.2, o2.up (asUs_nf x) gg.1 fun _ => gg.2.2⟩) (fun Hi2 H2 gg => ex_trans gg.1 gg.2.1) (fun Hi2 H2 gg => ex_trans e0 gg.2.2) (fun _ Hi2 H2 gg => gg.2.2) fun J w => k Hi1 H1 J s1 w
    by_cases ht : ∃ ys, x.d = .tup ys
    · refine tUI_of (pi_tup peU) (ha ε _ h1 Hi0 H0 Hi H σ _ I fun Hi1 H1 u s1 o1 => ?_)
      rcases key Hi1 H1 u s1 o1 with ⟨z, _⟩ | ⟨_, q⟩
      · obtain ⟨ys, e⟩ := ht; exact absurd e (z ys)
      · exact q
    · refine tUI_of (pi_list peU) (ha ε _ h1 Hi0 H0 Hi H σ _ I fun Hi1 H1 u s1 o1 => ?_)
      rcases key Hi1 H1 u s1 o1 with ⟨_, q⟩ | ⟨z, _⟩
      · exact q
      · exact absurd z ht
/-- what stands still while a for walks -/
theorem still_ok {G : Gt} {H0 Hb Hi0 Hi H : Hp} {x q : Vl} {u : V} (a : Step Hi0 Hb Hi H) (h : VlOk G H0 Hb Hi H x u) (e : stillV x = some q) : ∃ Hi2, Step Hi0 Hb Hi2 H ∧ VlOk G H0 Hb Hi2 H q u ∧ (∀ n d, q ≠ .fr n d) ∧ (∀ n d, q ≠ .us n d) ∧ q.d = x.d := by
  match x, h with
  | .sh d, h => cases e; exact ⟨Hi, a, h, (fun _ _ z => nomatch z), (fun _ _ z => nomatch z), rfl⟩
  | .bo n d, h => cases e; exact ⟨Hi, a, h, (fun _ _ z => nomatch z), (fun _ _ z => nomatch z), rfl⟩
  | .fr n d, h =>
    cases e
    obtain ⟨Hi2, _, a2, h2⟩ := h.keep a rfl
    exact ⟨Hi2, a2, h2, (fun _ _ z => nomatch z), (fun _ _ z => nomatch z), rfl⟩
  | .us n d, h => cases e
theorem l_over (hk : C.X.K = C.G.K) (ha : RE C pa a) : RL C tg pa (.over a) := by
  intro ε o h Hi0 H0 Hi H σ R I k
  simp only [loopD, loopE] at h
  rcases rb_some h with ⟨c, ns, ds, h1, rfl⟩ | ⟨q, h1, h2⟩
  · rcases rb_some h1 with ⟨c', ns', ds', h3, h4⟩ | ⟨x, h3, h4⟩
    · cases h4
      exact tUI_of (pi_list peU) (ha ε _ h3 Hi0 H0 Hi H σ _ I k)
    · obtain ⟨_, _, h5⟩ := rl_some h4; cases h5
  · obtain ⟨rs, h3, rfl⟩ := rl_some h2
    rcases rb_some h1 with ⟨c', ns', ds', h4, h5⟩ | ⟨x, h4, h5⟩
    · cases h5
    · obtain ⟨q', h6, h7⟩ := rl_some h5
      cases h7
      by_cases hst : ∃ z, x.d = .str z
      · obtain ⟨z, ez⟩ := hst
        have eq : q.d = x.d := by cases x <;> cases h6 <;> rfl
        refine tUI_of (pi_str peU) (ha ε _ h4 Hi0 H0 Hi H σ _ I fun Hi1 H1 u s1 o1 => ?_)
        refine ⟨z, str_of s1.s (I.step s1).st.h o1 ez, k Hi1 H1 _ s1 ?_⟩
        rw [items_str (eq.trans ez) h3]
        exact wk_str fun _ _ gg => gg.2.1
      have hns : ∀ z, x.d ≠ .str z := fun z e => hst ⟨z, e⟩
      have key : ∀ Hi1 H1 u, Step Hi H Hi1 H1 → VlOk C.G H0 H Hi1 H1 x u → ((∀ ys, x.d ≠ .tup ys) ∧ ∃ a, u = .ref a ∧ (∃ xs, SqL C.X.K H1 a xs) ∧ R (Itl C.X.K a) H1) ∨ ((∃ ys, x.d = .tup ys) ∧ ∃ a, u = .ref a ∧ (∃ xs, SqT C.X.K H1 a xs) ∧ R (Itt C.X.K a) H1) := fun Hi1 H1 u s1 o1 => by
        obtain ⟨Hi2, s2, o2, n1, n2, ed⟩ := still_ok s1 o1 h6
        have e0 := (I.step s1).st.h
        rw [← ed]
        refine over_walk hk (gd := gdL H0 Hi2 H1) (by rw [ed]; exact hns) h3 s2.s e0 o2 n1 (fun Hi3 H3 gg => ⟨gg.2.1, gg.2.2, o2.up n1 gg.1 fun ⟨n, d, z⟩ => absurd z (n2 n d)⟩) (fun Hi3 H3 gg => ex_trans gg.1 gg.2.1) (fun Hi3 H3 gg => gg.2.2) (fun ⟨n, d, z⟩ => absurd z (n2 n d)) fun J w => k Hi2 H1 J s2 w
      by_cases ht : ∃ ys, x.d = .tup ys
      · refine tUI_of (pi_tup peU) (ha ε _ h4 Hi0 H0 Hi H σ _ I fun Hi1 H1 u s1 o1 => ?_)
        rcases key Hi1 H1 u s1 o1 with ⟨z, _⟩ | ⟨_, w⟩
        · obtain ⟨ys, e⟩ := ht; exact absurd e (z ys)
        · exact w
      · refine tUI_of (pi_list peU) (ha ε _ h4 Hi0 H0 Hi H σ _ I fun Hi1 H1 u s1 o1 => ?_)
        rcases key Hi1 H1 u s1 o1 with ⟨_, w⟩ | ⟨z, _⟩
        · exact w
        · exact absurd z ht
theorem smallI_ok {i : Int} (h : smallI i = true) : -(2 ^ 62) ≤ i ∧ i < 2 ^ 62 := by
  unfold smallI at h
  exact of_decide_eq_true (p := -(2 ^ 62) ≤ i ∧ i < 2 ^ 62) h
theorem r1_ok {p : Pos} (hg : Gl C.X "range") (hm : C.X.mg "range" = none) (hs : isStar pa = false) (ha : RE C pa a) {gd : Hp → Hp → Hp → Hp → Prop} (hgd : ∀ a b c d, gd a b c d → Ex c d) {ε : Env} {o : Rz (List Vl)} (h : iterD C.Φ (.r1 a) ε = some o) {Hi0 H0 Hi H : Hp} {σ : L2.St} {R : L2.It → Hp → Prop} (I : EnvOk C.G C.xp Hi0 H0 Hi H σ ε)
    (k : GoodI C H0 Hi H σ R gd o) : tUI C.X tg (.Call (.Name "range" p) [pa] [] pos) σ H R := by
  simp only [iterD] at h
  refine tUI_of (pi_range1 hg hm (pa_cons peU pa_nil (star_no hs)) (star_no hs)) (un1 ha h I (erI k) fun x h1 Hi1 H1 u s1 I1 e0 o1 => ?_)
  obtain ⟨n, h2, h3⟩ := rbl_some h1
  split at h3
  · rename_i hn
    cases rp_some h3
    refine ⟨n, by rw [int_of s1.s e0 o1 (asI_some h2)], (smallI_ok hn).1, (smallI_ok hn).2, k Hi1 H1 _ s1 ?_⟩
    have w := wk_range (G := C.G) (H0 := H0) (g := gd Hi1 H1) (lo := 0) (hi := n) (hgd _ _)
    rw [Int.sub_zero] at w
    exact w
  · cases h3
theorem r2_ok {p : Pos} (hg : Gl C.X "range") (hm : C.X.mg "range" = none) (hs : isStar pa = false) (hs2 : isStar pb = false) (ha : RE C pa a) (hb : RE C pb b) {gd : Hp → Hp → Hp → Hp → Prop} (hgd : ∀ a b c d, gd a b c d → Ex c d) {ε : Env} {o : Rz (List Vl)} (h : iterD C.Φ (.r2 a b) ε = some o) {Hi0 H0 Hi H : Hp} {σ : L2.St} {R : L2.It → Hp → Prop} (I : EnvOk C.G C.xp Hi0 H0 Hi H σ ε)
    (k : GoodI C H0 Hi H σ R gd o) : tUI C.X tg (.Call (.Name "range" p) [pa, pb] [] pos) σ H R := by
  simp only [iterD] at h
  have pr := pi_range2 (tg := tg) (p := p) (pos := pos) hg hm (pa_cons (peU (X := C.X) (e := pa)) (pa_cons (peU (X := C.X) (e := pb)) pa_nil (star_no hs2)) (star_no hs)) (by rw [star_no hs, star_no hs2]; rfl) (star_no hs2)
  rcases two_cases h with ⟨c, ns, ds, rfl, h1⟩ | ⟨x, y, h1, h2, h3⟩
  · exact tUI_of pr (two_er ha hb h1 I k)
  · obtain ⟨l, h4, h5⟩ := rbl_some h3
    obtain ⟨n, h6, h7⟩ := rbl_some h5
    split at h7
    · rename_i hn
      cases rp_some h7
      refine tUI_of pr (two_ok ha hb h1 h2 I fun Hi1 H1 u v s1 I1 e0 o1 o2 => ?_)
      exact ⟨l, n, by rw [int_of s1.s e0 o1 (asI_some h4), int_of s1.s e0 o2 (asI_some h6)], ⟨(smallI_ok hn.1).1, (smallI_ok hn.1).2, (smallI_ok hn.2).1, (smallI_ok hn.2).2⟩, k Hi1 H1 _ s1 (wk_range (hgd _ _))⟩
    · cases h7
theorem gdC_ex (a b c d : Hp) (h : gdC a b c d) : Ex c d := h.2.1
theorem gdL_ex {H0 : Hp} (a b c d : Hp) (h : gdL H0 a b c d) : Ex c d := h.2.1
theorem lowD_some {x : Vl} {xs : List D} (h : lowD x = some xs) : x.low = true ∧ x.d = .lst xs := by
  unfold lowD at h
  split at h
  · rename_i hl
    split at h
    · rename_i e; cases h; exact ⟨hl, e⟩
    · cases h
  · cases h
/-- a list whose parts are shared: its cell, while it may be read -/
theorem low_cell {G : Gt} {H0 Hb Hi H : Hp} {x : Vl} {u : V} {xs : List D} (s : Ex Hi H) (s0 : Ex H0 H) (o : VlOk G H0 Hb Hi H x u) (hl : x.low = true) (e : x.d = .lst xs) (hw : ∀ n d, x ≠ .fr n d) : ∃ Hc p vs, (Hc = Hi ∨ Hc = H0 ∨ (∃ n d, x = .us n d) ∧ Hc = H) ∧ u = .ref p ∧ Hc p = some (.lst vs) ∧ RepL G Hi xs vs := by
  obtain ⟨Hc, hc, tl, _⟩ := top_of s s0 o hw
  obtain ⟨p, vs, e1, e2, e3⟩ := tl xs e
  obtain ⟨p', vs', f1, f2, _, f4⟩ := o.lst s s0 e
  rw [e1] at f1; cases f1
  have hcH : Ex Hc H := by
    rcases hc with rfl | rfl | ⟨z, rfl⟩
    · exact s
    · exact s0
    · exact Evl.Ex.refl _
  have := hcH _ _ e2
  rw [f2] at this; cases this
  exact ⟨Hc, p, vs, hc, e1, e2, f4 hl⟩
theorem asUs_low (x : Vl) : (asUs x).low = x.low := by cases x <;> rfl
theorem seqD_some {x : Vl} {xs : List D} (h : seqD x = some xs) : x = .sh (.tup xs) ∨ lowD x = some xs := by
  unfold seqD at h
  split at h
  · cases h; exact .inl rfl
  · exact .inr h
theorem i_enum {p : Pos} {elts : List Expr} {kk : Nat} {tpos : Pos} (hk : C.X.K = C.G.K) (hg : Gl C.X "enumerate") (hm : C.X.mg "enumerate" = none) (hs : isStar pa = false) (ha : RE C pa a) : RI C (.Tuple elts kk tpos) (.Call (.Name "enumerate" p) [pa] [] pos) (.enum a) := by
  intro ε o h Hi0 H0 Hi H σ R I k
  simp only [iterD] at h
  refine tUI_of (pi_enumB hg hm (pa_cons peU pa_nil (star_no hs)) (star_no hs)) (un1 ha h I (erI k) fun x h1 Hi1 H1 u s1 I1 e0 o1 => ?_)
  obtain ⟨xs, h2, h3⟩ := rbl_some h1
  cases rp_some h3
  rw [hk]
  rcases seqD_some h2 with rfl | h2
  · obtain ⟨q, vs, e1, e2, e3⟩ := o1
    exact ⟨q, by rw [e1], .inr ⟨vs, SqT.of (s1.s _ _ e2), k Hi1 H1 _ s1 (wk_enumT (gdC_ex _ _) (fun Hi2 H2 gg => SqT.of (gg.2.1 _ _ (gg.1 _ _ e2))) (fun Hi2 H2 gg => RepL.mono gg.1 _ _ e3) e3.length)⟩⟩
  obtain ⟨hl, ed⟩ := lowD_some h2
  obtain ⟨Hc, q, vs, hc, e1, e2, e3⟩ := low_cell s1.s e0 (asUs_ok s1.s o1) (by rw [asUs_low]; exact hl) (by rw [asUs_d]; exact ed) (asUs_nf x)
  have hcH : Ex Hc H1 := by
    rcases hc with rfl | rfl | ⟨z, rfl⟩
    · exact s1.s
    · exact e0
    · exact Evl.Ex.refl _
  exact ⟨q, by rw [e1], .inl ⟨vs, SqL.of (hcH _ _ e2), k Hi1 H1 _ s1 (wk_enum (gdC_ex _ _) (fun Hi2 H2 gg => SqL.of (gg.2.2 _ _ (hcH _ _ e2))) (fun Hi2 H2 gg => RepL.mono gg.1 _ _ e3) e3.length)⟩⟩
theorem i_rev {p : Pos} (hk : C.X.K = C.G.K) (hg : Gl C.X "reversed") (hm : C.X.mg "reversed" = none) (hs : isStar pa = false) (ha : RE C pa a) : RI C tg (.Call (.Name "reversed" p) [pa] [] pos) (.rev a) := by
  intro ε o h Hi0 H0 Hi H σ R I k
  simp only [iterD] at h
  refine tUI_of (pi_reversed hg hm (pa_cons peU pa_nil (star_no hs)) (star_no hs)) (un1 ha h I (erI k) fun x h1 Hi1 H1 u s1 I1 e0 o1 => ?_)
  obtain ⟨xs, h2, h3⟩ := rbl_some h1
  cases rp_some h3
  obtain ⟨hl, ed⟩ := lowD_some h2
  obtain ⟨Hc, q, vs, hc, e1, e2, e3⟩ := low_cell s1.s e0 (asUs_ok s1.s o1) (by rw [asUs_low]; exact hl) (by rw [asUs_d]; exact ed) (asUs_nf x)
  have hcH : Ex Hc H1 := by
    rcases hc with rfl | rfl | ⟨z, rfl⟩
    · exact s1.s
    · exact e0
    · exact Evl.Ex.refl _
  rw [hk]
  exact ⟨q, vs, by rw [e1], SqL.of (hcH _ _ e2), k Hi1 H1 _ s1 (wk_rev (gdC_ex _ _) (fun Hi2 H2 gg => SqL.of (gg.2.2 _ _ (hcH _ _ e2))) (fun Hi2 H2 gg => RepL.mono gg.1 _ _ e3) e3.length)⟩
theorem un1S (ha : RE C pa a) {ε : Env} {α : Type} {f : Vl → Rs α} {o : Rz α} (h : rb (loopE C.Φ a ε) f = some o) {Hi0 H0 Hi H : Hp} {σ : L2.St} {R : VK} (I : EnvOk C.G C.xp Hi0 H0 Hi H σ ε)
    (ke : ∀ c ns ds, o = .er c ns ds → ErOk C Hi H σ c ns ds) (k : ∀ q, f q = some o → ∀ Hi1 H1 u, Step Hi H Hi1 H1 → Ex H0 H1 → VlOk C.G H0 H Hi1 H1 q u → (∀ n d, q ≠ .fr n d) → (∀ n d, q ≠ .us n d) → R u H1) : tU C.X pa σ H R := by
  rcases rb_some h with ⟨c, ns, ds, h1, h2⟩ | ⟨q, h1, h2⟩
  · unfold loopE at h1
    rcases rb_some h1 with ⟨c', ns', ds', h3, h4⟩ | ⟨x, h3, h4⟩
    · cases h4
      exact ha ε _ h3 Hi0 H0 Hi H σ R I (ke c ns ds h2)
    · obtain ⟨_, _, h5⟩ := rl_some h4; cases h5
  · unfold loopE at h1
    rcases rb_some h1 with ⟨c', ns', ds', h3, h4⟩ | ⟨x, h3, h4⟩
    · cases h4
    · obtain ⟨q', h5, h6⟩ := rl_some h4
      cases h6
      refine ha ε _ h3 Hi0 H0 Hi H σ R I fun Hi1 H1 u s1 o1 => ?_
      obtain ⟨Hi2, s2, o2, n1, n2, _⟩ := still_ok s1 o1 h5
      exact k q h2 Hi2 H1 u s2 (I.step s1).st.h o2 n1 n2
theorem l_enum {p : Pos} {elts : List Expr} {kk : Nat} {tpos : Pos} (hk : C.X.K = C.G.K) (hg : Gl C.X "enumerate") (hm : C.X.mg "enumerate" = none) (hs : isStar pa = false) (ha : RE C pa a) : RL C (.Tuple elts kk tpos) (.Call (.Name "enumerate" p) [pa] [] pos) (.enum a) := by
  intro ε o h Hi0 H0 Hi H σ R I k
  simp only [loopD] at h
  refine tUI_of (pi_enumB hg hm (pa_cons peU pa_nil (star_no hs)) (star_no hs)) (un1S ha h I (erI k) fun x h1 Hi1 H1 u s1 e0 o1 n1 n2 => ?_)
  obtain ⟨xs, h2, h3⟩ := rbl_some h1
  cases rp_some h3
  rw [hk]
  rcases seqD_some h2 with rfl | h2
  · obtain ⟨q, vs, e1, e2, e3⟩ := o1
    exact ⟨q, by rw [e1], .inr ⟨vs, SqT.of (s1.s _ _ e2), k Hi1 H1 _ s1 (wk_enumT (gdL_ex _ _) (fun Hi2 H2 gg => SqT.of (gg.2.1 _ _ (gg.1 _ _ e2))) (fun Hi2 H2 gg => RepL.mono gg.1 _ _ e3) e3.length)⟩⟩
  obtain ⟨hl, ed⟩ := lowD_some h2
  obtain ⟨Hc, q, vs, hc, e1, e2, e3⟩ := low_cell s1.s e0 o1 hl ed n1
  have hcH : ∀ Hi2 H2, gdL H0 Hi1 H1 Hi2 H2 → Ex Hc H2 := fun Hi2 H2 gg => by
    rcases hc with rfl | rfl | ⟨⟨n, d, z⟩, rfl⟩
    · exact ex_trans gg.1 gg.2.1
    · exact gg.2.2
    · exact absurd z (n2 n d)
  exact ⟨q, by rw [e1], .inl ⟨vs, SqL.of (hcH Hi1 H1 ⟨Evl.Ex.refl _, s1.s, e0⟩ _ _ e2), k Hi1 H1 _ s1 (wk_enum (gdL_ex _ _) (fun Hi2 H2 gg => SqL.of (hcH Hi2 H2 gg _ _ e2)) (fun Hi2 H2 gg => RepL.mono gg.1 _ _ e3) e3.length)⟩⟩
theorem l_rev {p : Pos} (hk : C.X.K = C.G.K) (hg : Gl C.X "reversed") (hm : C.X.mg "reversed" = none) (hs : isStar pa = false) (ha : RE C pa a) : RL C tg (.Call (.Name "reversed" p) [pa] [] pos) (.rev a) := by
  intro ε o h Hi0 H0 Hi H σ R I k
  simp only [loopD] at h
  refine tUI_of (pi_reversed hg hm (pa_cons peU pa_nil (star_no hs)) (star_no hs)) (un1S ha h I (erI k) fun x h1 Hi1 H1 u s1 e0 o1 n1 n2 => ?_)
  obtain ⟨xs, h2, h3⟩ := rbl_some h1
  cases rp_some h3
  obtain ⟨hl, ed⟩ := lowD_some h2
  obtain ⟨Hc, q, vs, hc, e1, e2, e3⟩ := low_cell s1.s e0 o1 hl ed n1
  have hcH : ∀ Hi2 H2, gdL H0 Hi1 H1 Hi2 H2 → Ex Hc H2 := fun Hi2 H2 gg => by
    rcases hc with rfl | rfl | ⟨⟨n, d, z⟩, rfl⟩
    · exact ex_trans gg.1 gg.2.1
    · exact gg.2.2
    · exact absurd z (n2 n d)
  rw [hk]
  exact ⟨q, vs, by rw [e1], SqL.of (hcH Hi1 H1 ⟨Evl.Ex.refl _, s1.s, e0⟩ _ _ e2), k Hi1 H1 _ s1 (wk_rev (gdL_ex _ _) (fun Hi2 H2 gg => SqL.of (hcH Hi2 H2 gg _ _ e2)) (fun Hi2 H2 gg => RepL.mono gg.1 _ _ e3) e3.length)⟩
end
end EG
namespace EG
open PySem L2
/-! ### comprehensions -/
theorem lcGo_snoc {f : Vl → Option (Option D)} : ∀ (l : List Vl) (x : Vl), lcGo f (l ++ [x]) = (lcGo f l).bind fun zs => (f x).bind fun o => some (zs ++ o.toList)
  | [], x => by
    simp only [List.nil_append, lcGo, Option.bind_some]
    cases f x with
    | none => rfl
    | some o => cases o <;> rfl
  | y :: l, x => by
    simp only [List.cons_append, lcGo, lcGo_snoc l x]
    cases f y with
    | none => rfl
    | some o =>
      simp only [Option.bind_some]
      cases lcGo f l with
      | none => rfl
      | some zs =>
        simp only [Option.bind_some]
        cases f x with
        | none => rfl
        | some o2 => cases o <;> simp
theorem lcGo_take {f : Vl → Option (Option D)} : ∀ {xs : List Vl} {ys : List D}, lcGo f xs = some ys → ∀ i, ∃ zs, lcGo f (xs.take i) = some zs
  | [], ys, h, i => ⟨[], by simp [lcGo]⟩
  | x :: xs, ys, h, 0 => ⟨[], rfl⟩
  | x :: xs, ys, h, i + 1 => by
    simp only [lcGo, Option.bind_eq_some_iff] at h
    obtain ⟨o, h1, zs, h2, _⟩ := h
    obtain ⟨ws, h3⟩ := lcGo_take h2 i
    exact ⟨_, by simp [lcGo, h1, h3]; rfl⟩
theorem okO_some {α : Type} {o : Rs α} {a : α} (h : okO o = some a) : o = some (.ok a) := by
  match o, h with
  | some (.ok b), h => cases h; rfl
  | some (.er _ _ _), h => cases h
  | none, h => cases h
/-- within a comprehension: nothing is raised -/
def Ctx.blk (C : Ctx) (s : Shared) (H : Hp) (scope : Scope) (cl : List (Str × Addr)) (Ca : Addr) (fp : List Addr) : Ctx := ⟨C.X.blk s H scope (compEnvC scope cl Ca C.X.env) fp, C.G, fun _ _ _ _ => False, C.xp, C.Φ⟩
section
variable {C : Ctx} {pe pa pb pc tg : Expr} {a b c : Ep} {pos : Pos}
def tUTs (X : Cx) (ifs : List Expr) : TT := fun σ H Q => ∀ pins s, Inv X pins σ H s →
  wpAny (model X.prog X.w) X.A (forIn ifs true fun c r => if r = true then do let ok ← isTrue c X.env (eval c X.env); pure (ForInStep.yield ok) else pure (ForInStep.yield r)) (TP X pins σ Q) X.xe s
def RTs (C : Ctx) (ifs : List Expr) (cs : Eps) : Prop := ∀ ε o, testsD C.Φ cs ε = some o → ∀ Hi0 H0 Hi H σ (Q : Bool → Hp → Prop), EnvOk C.G C.xp Hi0 H0 Hi H σ ε → GoodT C Hi H σ Q o → tUTs C.X ifs σ H Q
theorem ts_nil : RTs C [] .nil := fun ε b h Hi0 H0 Hi H σ Q I k => by
  simp only [testsD] at h
  cases rp_some h
  exact fun pins s J => pts_nil.run pins s σ H Q J (k Hi H (Step.refl I.st.s))
theorem ts_one (hc : RT C pc c) : RTs C [pc] (.cons c .nil) := fun ε o h Hi0 H0 Hi H σ Q I k => by
  simp only [testsD] at h
  have e : testD C.Φ c ε = some o := by
    rcases rb_some h with ⟨c', ns, ds, h1, rfl⟩ | ⟨b, h1, h2⟩
    · exact h1
    · cases b with
      | true => rw [if_pos rfl] at h2; cases rp_some h2; exact h1
      | false => rw [if_neg (by decide)] at h2; cases rp_some h2; exact h1
  exact fun pins s J => (pts_one ptU).run pins s σ H Q J (hc ε o e Hi0 H0 Hi H σ Q I k)
theorem r_lcd {m : Nat} {scope : Scope} {own : List (Str × Nat)} {e it : Expr} {ifs : List Expr} {t : Tg} {i : Epi} {cs : Eps} {x : Ep} (hi : RI C tg it i)
    (htg : tgIn (own.map (·.2)) t = true) (ht : ∀ s H Ca cl fp, RTs (C.blk s H scope cl Ca fp) ifs cs)
    (he : ∀ s H Ca cl fp, RE (C.blk s H scope cl Ca fp) e x) :
    ∀ ε o, evalD C.Φ (.lcd m t i cs x (own.map (·.2))) ε = some o → ∀ Hi0 H0 Hi H σ (Q : VK), EnvOk C.G C.xp Hi0 H0 Hi H σ ε → GoodV C H0 Hi H σ Q o →
      tLc (tUI C.X tg it) (tgT C.X.K t) (fun σ H Q => ∀ s Hb Ca cl fp, tUTs (C.blk s Hb scope cl Ca fp).X ifs σ H Q) (fun σ H Q => ∀ s Hb Ca cl fp, tU (C.blk s Hb scope cl Ca fp).X e σ H Q) (own.map (·.2)) σ H Q := by
  intro ε o h Hi0 H0 Hi H σ Q I k
  generalize hvs : own.map (·.2) = vs at *
  simp only [evalD] at h
  rcases rb_some h with ⟨c, ns, ds, h1, rfl⟩ | ⟨xs, h1, h2⟩
  · exact hi ε _ h1 Hi0 H0 Hi H σ _ I k
  split at h2
  case isFalse => cases h2
  case isTrue hlen =>
  obtain ⟨r, h3, rfl⟩ := rl_some h2
  simp only [Option.map_eq_some_iff] at h3
  obtain ⟨ys, h4, rfl⟩ := h3
  generalize hf : (fun x' => (bindT t x' (wipeE ε vs)).bind fun ε2 => (okO (testsD C.Φ cs ε2)).bind fun tb =>
        if tb = true then (okO (evalD C.Φ x ε2)).bind fun r => (r.keepN m).map some else some none) = f at h4
  refine hi ε _ h1 Hi0 H0 Hi H σ _ I fun Hi1 H1 J s1 w Dl hDl => ?_
  have I1 := I.step s1
  refine lc_wk (gg := tgT C.X.K t) (tt := fun σ H Q => ∀ s Hb Ca cl fp, tUTs (C.blk s Hb scope cl Ca fp).X ifs σ H Q) (te := fun σ H Q => ∀ s Hb Ca cl fp, tU (C.blk s Hb scope cl Ca fp).X e σ H Q)
    (vs := vs) (σ := σ) (H1 := H1) (Dl := Dl) (Qd := Q (.ref Dl)) w (fun n Hi' H' => ∃ acc zs fps, lcGo f (xs.take n) = some zs ∧ Step Hi1 H1 Hi' H' ∧ H' Dl = some (.lst acc) ∧ Hi' Dl = none ∧ Owns C.G Hi' H' m zs acc fps ∧ fps.Nodup ∧ (∀ p ∈ fps, Hi' p = none ∧ H1 p = none ∧ p ≠ Dl) ∧ acc.length ≤ n ∧ n ≤ xs.length)
    (Hi := Hi1) ⟨[], [], [], rfl, Step.own s1.s hDl, upd_same, Evl.fresh_back s1.s hDl, ⟨rfl, rfl⟩, List.nodup_nil, (fun p hp => nomatch hp), Nat.le_refl _, Nat.zero_le _⟩ (fun n Hi' H' ⟨acc, zs, fps, _, s2, _⟩ => ⟨s2.i, s2.s, s2.h⟩) ?_ ?_
  · rintro n q u Hi' Hi'' H' H'' hd ⟨acc, zs, fps, z1, s2, z2, z3, z4, z6, z7, z5, _⟩ sy oy
    have hn : n < xs.length := (List.getElem?_eq_some_iff.mp hd).1
    obtain ⟨ws, hw⟩ := lcGo_take h4 (n + 1)
    have hsn : xs.take (n + 1) = xs.take n ++ [q] := by rw [List.take_add_one, hd]; rfl
    rw [hsn, lcGo_snoc, z1] at hw
    simp only [Option.bind_some, Option.bind_eq_some_iff] at hw
    obtain ⟨o, hfo, hws⟩ := hw
    have hsnoc : lcGo f (xs.take (n + 1)) = some (zs ++ o.toList) := by rw [hsn, lcGo_snoc, z1]; simp [hfo]
    have hfo' := hfo
    rw [← hf] at hfo'
    simp only [Option.bind_eq_some_iff] at hfo'
    obtain ⟨ε2, b1, tb, b2, b3⟩ := hfo'
    have b2 := okO_some b2
    have Iw := (I1.step s2).wipe vs
    have z2' := sy.h _ _ z2
    have z3' : Hi'' Dl = none := sy.n Dl (by rw [z2]; exact fun z => nomatch z) z3
    have zm : ∀ p ∈ fps, H' p ≠ none := Owns.mem m zs acc fps z4
    refine tgT_ok b1 Iw sy oy fun σ2 I2 wi => ⟨?_, fun s Hb Ca cl fp => ?_⟩
    · rw [wi vs htg]
      exact wipe_wipe fun _ hz => hz
    · refine ht s Hb Ca cl fp ε2 _ b2 Hi0 H0 Hi'' H'' σ2 _ I2 fun Hi2 H2 s3 => ?_
      have sz := sy.trans s3
      cases tb with
      | false =>
        rw [if_neg (by decide)] at b3 ⊢
        cases b3
        refine ⟨Hi2, acc, zs ++ (none : Option D).toList, fps, hsnoc, (s2.trans sy).trans s3, s3.h _ _ z2', s3.n Dl (by rw [z2']; exact fun z => nomatch z) z3', ?_, z6, fun p hp => ⟨sz.n p (zm p hp) (z7 p hp).1, (z7 p hp).2⟩, by omega, hn⟩
        show Owns C.G Hi2 H2 m (zs ++ []) acc fps
        rw [List.append_nil]
        exact Owns.keep sz.i m zs acc fps (fun p hp => at_of sz.h (zm p hp)) z4
      | true =>
        rw [if_pos rfl] at b3 ⊢
        simp only [Option.bind_eq_some_iff, Option.map_eq_some_iff] at b3
        obtain ⟨r, b4, dd, b5, rfl⟩ := b3
        have b4 := okO_some b4
        intro s' Hb' Ca' cl' fp'
        refine he s' Hb' Ca' cl' fp' ε2 _ b4 Hi0 H0 Hi2 H2 σ2 _ (I2.step s3) fun Hi3 H3 y s4 o4 => ?_
        obtain ⟨Hi4, e4, s5, fq, q1, q2, q3⟩ := o4.keepN s4 b5
        have s25 := (sy.trans s3).trans s5
        have sA := s2.trans s25
        have hD3 : H3 Dl = some (.lst acc) := s25.h _ _ z2
        have hD4 : Hi4 Dl = none := s25.n Dl (by rw [z2]; exact fun z => nomatch z) z3
        have nq : ∀ p ∈ fq, p ≠ Dl := fun p hp z => by
          have e1 := (q3 p hp).2
          rw [z, sz.h _ _ z2] at e1
          cases e1
        have q1n : ∀ p ∈ fq, H1 p = none := fun p hp => Evl.fresh_back (s2.trans sz).h (q3 p hp).2
        refine ⟨acc, hD3, Nat.lt_of_le_of_lt (Nat.le_trans z5 (Nat.le_of_lt hn)) (Nat.lt_of_le_of_lt hlen (by decide)), Hi4, acc ++ [y], zs ++ [dd], fps ++ fq, hsnoc, ⟨sA.i, Evl.Ex.mut sA.h hDl, Evl.Ex.mut sA.s hD4, sA.n⟩, upd_same, hD4, ?_, ?_, fun p hp => ?_, by simp; omega, hn⟩
        · refine Owns.append (Owns.keep s25.i m zs acc fps (fun p hp => ?_) z4) ⟨y, [], fq, [], rfl, by simp, Own.keep (Evl.Ex.refl _) m dd y fq (fun p hp => upd_ne (nq p hp)) q1, rfl, rfl⟩
          rw [upd_ne (z7 p hp).2.2]
          exact at_of s25.h (zm p hp)
        · rw [List.nodup_append]
          refine ⟨z6, q2, fun a ha b hb z => ?_⟩
          subst z
          exact zm a ha (Evl.fresh_back sz.h (q3 a hb).2)
        · rcases List.mem_append.mp hp with hp | hp
          · exact ⟨s25.n p (zm p hp) (z7 p hp).1, (z7 p hp).2⟩
          · exact ⟨(q3 p hp).1, q1n p hp, nq p hp⟩
  · rintro Hi' H' ⟨acc, zs, fps, z1, s2, z2, z3, z4, z6, z7, z5, _⟩
    rw [List.take_length, h4] at z1
    cases z1
    refine k Hi' H' _ (s1.trans s2) ⟨Dl :: fps, ⟨Dl, acc, fps, rfl, z2, rfl, z4⟩, List.nodup_cons.mpr ⟨fun z => (z7 _ z).2.2 rfl, z6⟩, fun p hp => ?_⟩
    rcases List.mem_cons.mp hp with rfl | hp
    · exact ⟨z3, s1.fresh hDl⟩
    · exact ⟨(z7 p hp).1, s1.fresh (z7 p hp).2.1⟩
theorem r_lc {scope : Scope} {own : List (Str × Nat)} {e it : Expr} {ifs : List Expr} {t : Tg} {i : Epi} {cs : Eps} {x : Ep} (hi : RI C tg it i)
    (htg : tgIn (own.map (·.2)) t = true) (ht : ∀ s H Ca cl fp, RTs (C.blk s H scope cl Ca fp) ifs cs)
    (he : ∀ s H Ca cl fp, RE (C.blk s H scope cl Ca fp) e x) :
    ∀ ε o, evalD C.Φ (.lc t i cs x (own.map (·.2))) ε = some o → ∀ Hi0 H0 Hi H σ (Q : VK), EnvOk C.G C.xp Hi0 H0 Hi H σ ε → GoodV C H0 Hi H σ Q o →
      tLc (tUI C.X tg it) (tgT C.X.K t) (fun σ H Q => ∀ s Hb Ca cl fp, tUTs (C.blk s Hb scope cl Ca fp).X ifs σ H Q) (fun σ H Q => ∀ s Hb Ca cl fp, tU (C.blk s Hb scope cl Ca fp).X e σ H Q) (own.map (·.2)) σ H Q := by
  intro ε o h
  have h' : evalD C.Φ (.lcd 0 t i cs x (own.map (·.2))) ε = some o := by
    simp only [evalD] at h ⊢
    exact h
  exact r_lcd hi htg ht he ε o h'
end
end EG
namespace EG
open PySem PySem.Spec PyProof.Rows L2
/-! ### sets of ints, made by a comprehension with one or two clauses -/
/-- a set with one number more -/
def addS (S : Int → Bool) (k : Int) : Int → Bool := fun j => S j || decide (j = k)
def addN (S : Int → Bool) (k : Int) (n : Nat) : Nat := if S k = true then n else n + 1
section
variable {P : Program} {w : World} {A : Around} {R : Result → Shared → Prop} {env : PySem.Env}
/-- errors go on to R -/
abbrev Nb (P : Program) (w : World) (A : Around) (env : PySem.Env) (R : Result → Shared → Prop) : Value → Shared → Prop := notedBy (model P w) A env fun x s => R (.error x) s
/-- one clause's turn up to its tests; T: what the rest of the turn must show, K: the turn's end -/
def Turn1 (P : Program) (w : World) (A : Around) (env : PySem.Env) (R : Result → Shared → Prop) (tg : Expr) (ifs : List Expr) (it : Value) (T : (Shared → Prop) → Shared → Prop) (Z K : Shared → Prop) (s : Shared) : Prop :=
  wpAny (model P w) A (pyNext it) (fun o a1 => match o with
    | none => Z a1
    | some v => wpAny (model P w) A (letOwnedTupleGo tg it v) (fun _ a2 => wpAny (model P w) A (assign tg env v) (fun _ a3 =>
        wpAny (model P w) A (forIn ifs true fun c r => if r = true then do let ok ← PySem.isTrue c env (eval c env); pure (ForInStep.yield ok) else pure (ForInStep.yield r))
          (fun ok a4 => if ok = true then T K a4 else K a4) (Nb P w A env R) a3) (Nb P w A env R) a2) (Nb P w A env R) a1) (Nb P w A env R) s
/-- the last clause's rest: the element goes into the set -/
def Put1 (P : Program) (w : World) (A : Around) (env : PySem.Env) (R : Result → Shared → Prop) (elt : Expr) (acc : Value) (K : Shared → Prop) (s : Shared) : Prop :=
  wpAny (model P w) A (eval elt env) (fun x a1 => wpAny (model P w) A (call (.builtin "set.add") [acc, x]) (fun _ a2 => K a2) (Nb P w A env R) a1) (Nb P w A env R) s
/-- the first clause's rest, where a second one follows -/
def Down (P : Program) (w : World) (A : Around) (env : PySem.Env) (R : Result → Shared → Prop) (E i1 : Expr) (acc : Value) (K : Shared → Prop) (s : Shared) : Prop :=
  wpAny (model P w) A (eval i1 env) (fun x a1 => wpAny (model P w) A (pyIter x) (fun it1 a2 =>
    codeAny (model P w) A (.compStart E 1 it1 acc env) (fun r a3 => match r with | .ok _ => K a3 | .error _ => False) a2) (Nb P w A env R) a1) (Nb P w A env R) s
def sc1 (elt tg it : Expr) (ifs : List Expr) (scope : Scope) (pos : Pos) : Expr := .SetComp elt [⟨tg, it, ifs, 0⟩] scope pos
def sc2 (elt tg it : Expr) (ifs : List Expr) (tg1 it1 : Expr) (ifs1 : List Expr) (scope : Scope) (pos : Pos) : Expr := .SetComp elt [⟨tg, it, ifs, 0⟩, ⟨tg1, it1, ifs1, 0⟩] scope pos
theorem loop1_ok {elt tg iter : Expr} {ifs : List Expr} {scope : Scope} {pos : Pos} {it acc : Value} (I : Nat → Shared → Prop)
    (turn : ∀ n s, I n s → Turn1 P w A env R tg ifs it (Put1 P w A env R elt acc) (R (.ok .next)) (fun s' => ∃ m, m < n ∧ I m s') s) (n : Nat) {s : Shared} (h : I n s) :
    codeAny (model P w) A (.compLoop (sc1 elt tg iter ifs scope pos) 0 it acc env) R s := PpSet.compLoopS_any I turn n h
/-- the machine's turn of the first of two clauses -/
theorem turn2_out (elt t0 i0 t1 i1 : Expr) (f0 f1 : List Expr) (scope : Scope) (pos : Pos) (it acc : Value) (env : PySem.Env) :
    compTurn (sc2 elt t0 i0 f0 t1 i1 f1 scope pos) 0 it acc env = (standAt i0.pos >>= fun _ => pyNext it >>= fun o => match o with
      | none => pure (.done .next)
      | some v => letOwnedTupleGo t0 it v >>= fun _ => assign t0 env v >>= fun _ => (forIn f0 true fun c r => if r = true then do let ok ← PySem.isTrue c env (eval c env); pure (ForInStep.yield ok) else pure (ForInStep.yield r)) >>= fun ok =>
          if ok = true then (eval i1 env >>= fun x => standAt i1.pos >>= fun _ => foldedSetIterable i1 env x >>= fun y => (holding [y] (pyIter y)) >>= fun z => runOwn (.compStart (sc2 elt t0 i0 f0 t1 i1 f1 scope pos) 1 z acc env) env >>= fun _ => again (.compLoop (sc2 elt t0 i0 f0 t1 i1 f1 scope pos) 0 it acc env))
          else again (.compLoop (sc2 elt t0 i0 f0 t1 i1 f1 scope pos) 0 it acc env)) := by rfl
theorem turn2_in (elt t0 i0 t1 i1 : Expr) (f0 f1 : List Expr) (scope : Scope) (pos : Pos) (it acc : Value) (env : PySem.Env) :
    compTurn (sc2 elt t0 i0 f0 t1 i1 f1 scope pos) 1 it acc env = (standAt i1.pos >>= fun _ => pyNext it >>= fun o => match o with
      | none => pure (.done .next)
      | some v => letOwnedTupleGo t1 it v >>= fun _ => assign t1 env v >>= fun _ => (forIn f1 true fun c r => if r = true then do let ok ← PySem.isTrue c env (eval c env); pure (ForInStep.yield ok) else pure (ForInStep.yield r)) >>= fun ok =>
          if ok = true then ((do let x ← eval elt env; standAt elt.pos; let _ ← call (.builtin "set.add") [acc, x]) >>= fun _ => again (.compLoop (sc2 elt t0 i0 f0 t1 i1 f1 scope pos) 1 it acc env))
          else again (.compLoop (sc2 elt t0 i0 f0 t1 i1 f1 scope pos) 1 it acc env)) := by rfl
/-- what a loop's round comes to, told by its parts -/
theorem round {elt : Expr} {gs : List Comprehension} {scope : Scope} {cp : Pos} {j : Nat} {tg : Expr} {ifs : List Expr} {it acc : Value} {T : (Shared → Prop) → Shared → Prop} {go : Sem Fin} {pp : Pos}
    (ht : compTurn (.SetComp elt gs scope cp) j it acc env = (standAt pp >>= fun _ => pyNext it >>= fun o => match o with
      | none => pure (.done .next)
      | some v => letOwnedTupleGo tg it v >>= fun _ => assign tg env v >>= fun _ => (forIn ifs true fun c r => if r = true then do let ok ← PySem.isTrue c env (eval c env); pure (ForInStep.yield ok) else pure (ForInStep.yield r)) >>= fun ok =>
          if ok = true then go else again (.compLoop (.SetComp elt gs scope cp) j it acc env)))
    (hgo : ∀ K s, T K s → wpAny (model P w) A go (fun r s' => r = .again (.compLoop (.SetComp elt gs scope cp) j it acc env) ∧ K s') (Nb P w A env R) s)
    (I : Nat → Shared → Prop) (turn : ∀ n s, I n s → Turn1 P w A env R tg ifs it T (R (.ok .next)) (fun s' => ∃ m, m < n ∧ I m s') s) (n : Nat) {s : Shared} (h : I n s) :
    codeAny (model P w) A (.compLoop (.SetComp elt gs scope cp) j it acc env) R s := by
  refine codeAny_loop rfl I (fun n s q => ?_) n h
  show wpAny _ A ((compTurn (.SetComp elt gs scope cp) j it acc env).onRaise (fun x => do noteFrame x env; theTreesLotGoes x)) _ _ s
  refine wpAny_noted ?_
  rw [ht]
  have q := turn n s q
  unfold Turn1 at q
  refine wpAny_bind (wpAny_standAt (wpAny_bind (wpAny_mono q (fun o a1 b1 => ?_) fun _ _ z => z)))
  match o, b1 with
  | none, b1 => exact wpAny_pure b1
  | some v, b1 =>
    refine wpAny_bind (wpAny_mono b1 (fun _ a2 b2 => wpAny_bind (wpAny_mono b2 (fun _ a3 b3 => wpAny_bind (wpAny_mono b3 (fun ok a4 b4 => ?_) fun _ _ z => z)) fun _ _ z => z)) fun _ _ z => z)
    cases ok with
    | false => exact wpAny_pure ⟨rfl, b4⟩
    | true => exact wpAny_mono (hgo _ _ b4) (fun r a5 b5 => by rw [b5.1]; exact ⟨rfl, b5.2⟩) fun _ _ z => z
theorem put_ok {elt : Expr} {acc : Value} {c : Code} {K : Shared → Prop} {s : Shared} (h : Put1 P w A env R elt acc K s) :
    wpAny (model P w) A ((do let x ← eval elt env; standAt elt.pos; let _ ← call (.builtin "set.add") [acc, x]) >>= fun _ => again c) (fun r s' => r = .again c ∧ K s') (Nb P w A env R) s := by
  unfold Put1 at h
  exact wpAny_bind (wpAny_bind (wpAny_mono h (fun x a1 b1 => wpAny_bind (wpAny_standAt (wpAny_bind (wpAny_mono b1 (fun _ a2 b2 => wpAny_pure (wpAny_pure ⟨rfl, b2⟩)) fun _ _ z => z)))) fun _ _ z => z))
theorem down_ok {E i1 : Expr} {acc : Value} {c : Code} {K : Shared → Prop} {s : Shared} (hf : ∀ x, foldedSetIterable i1 env x = pure x) (h : Down P w A env R E i1 acc K s) :
    wpAny (model P w) A (eval i1 env >>= fun x => standAt i1.pos >>= fun _ => foldedSetIterable i1 env x >>= fun y => (holding [y] (pyIter y)) >>= fun z => runOwn (.compStart E 1 z acc env) env >>= fun _ => again c) (fun r s' => r = .again c ∧ K s') (Nb P w A env R) s := by
  unfold Down at h
  refine wpAny_bind (wpAny_mono h (fun x a1 b1 => ?_) fun _ _ z => z)
  refine wpAny_bind (wpAny_standAt (wpAny_bind (wpAny_of_eq (hf x) (wpAny_bind (wpAny_holding (wpAny_mono b1 (fun it1 a2 b2 => ?_) fun _ _ z => z))))))
  refine wpAny_bind (wpAny_runOwn ?_)
  rw [Around.mark_none]
  refine codeAny_mono b2 fun r a3 b3 => ?_
  match r, b3 with
  | .ok f, b3 => exact wpAny_pure ⟨rfl, b3⟩
  | .error x, b3 => exact b3.elim
theorem loop2_ok {elt t0 i0 t1 i1 : Expr} {f0 f1 : List Expr} {scope : Scope} {pos : Pos} {it acc : Value} (hf : ∀ x, foldedSetIterable i1 env x = pure x) (I : Nat → Shared → Prop)
    (turn : ∀ n s, I n s → Turn1 P w A env R t0 f0 it (Down P w A env R (sc2 elt t0 i0 f0 t1 i1 f1 scope pos) i1 acc) (R (.ok .next)) (fun s' => ∃ m, m < n ∧ I m s') s) (n : Nat) {s : Shared} (h : I n s) :
    codeAny (model P w) A (.compLoop (sc2 elt t0 i0 f0 t1 i1 f1 scope pos) 0 it acc env) R s :=
  round (turn2_out elt t0 i0 t1 i1 f0 f1 scope pos it acc env) (fun K s q => down_ok hf q) I turn n h
theorem loop2in_ok {elt t0 i0 t1 i1 : Expr} {f0 f1 : List Expr} {scope : Scope} {pos : Pos} {it acc : Value} (I : Nat → Shared → Prop)
    (turn : ∀ n s, I n s → Turn1 P w A env R t1 f1 it (Put1 P w A env R elt acc) (R (.ok .next)) (fun s' => ∃ m, m < n ∧ I m s') s) (n : Nat) {s : Shared} (h : I n s) :
    codeAny (model P w) A (.compLoop (sc2 elt t0 i0 f0 t1 i1 f1 scope pos) 1 it acc env) R s :=
  round (turn2_in elt t0 i0 t1 i1 f0 f1 scope pos it acc env) (fun K s q => put_ok q) I turn n h
/-- the second clause is entered -/
theorem start2_ok {elt t0 i0 t1 i1 : Expr} {f0 f1 : List Expr} {scope : Scope} {pos : Pos} {it acc : Value} {s : Shared}
    (h0 : codeAny (model P w) A (.compLoop (sc2 elt t0 i0 f0 t1 i1 f1 scope pos) 1 it acc env) R s)
    (h : wpAny (model P w) A (pyIter it) (fun z s' => codeAny (model P w) A (.compLoop (sc2 elt t0 i0 f0 t1 i1 f1 scope pos) 1 z acc env) R s') (Nb P w A env R) s) :
    codeAny (model P w) A (.compStart (sc2 elt t0 i0 f0 t1 i1 f1 scope pos) 1 it acc env) R s := by
  refine codeAny_of_tree ?_
  show wpAny _ _ ((compStart (sc2 elt t0 i0 f0 t1 i1 f1 scope pos) 1 it acc env).onRaise (fun x => do noteFrame x env; standAt theWindowsPlace)) _ _ s
  refine wpAny_notedAt ?_
  unfold compStart sc2
  show wpAny _ _ (ask >>= _) _ _ s
  refine wpAny_bind (wpAny_askSetting (wpAny_ite ?_))
  split
  · first
      | exact wpAny_pure ⟨rfl, h0⟩
      | exact wpAny_bind (wpAny_pure (wpAny_pure ⟨rfl, h0⟩))
  · first
      | exact wpAny_bind (wpAny_rule (wpAny_bind (wpAny_standAt (wpAny_bind (wpAny_mono h (fun z s' q => wpAny_pure ⟨rfl, q⟩) fun _ _ x => x)))))
      | (refine wpAny_bind (wpAny_rule ?_)
         show wpAny _ _ (standAt i1.pos >>= _) _ _ s
         exact wpAny_bind (wpAny_standAt (wpAny_bind (wpAny_mono h (fun z s' q => wpAny_pure ⟨rfl, q⟩) fun _ _ x => x))))
end
section
variable {X : Cx}
/-- the reading: wi the source, g the store, tt the tests, tl the rest of a turn in the set at D -/
def tSet (w : World) (wi : TI) (g : TG) (tt : TT) (tl : Addr → L2.St → Hp → (Hp → Prop) → Prop) (vs : List Nat) : TE := fun σ H Q =>
  wi σ H fun J H1 => ∀ D, H1 D = none → ∃ W : Nat → Nat → Hp → Prop, (∃ m, W 0 m (upd H1 D (SetO w D (fun _ => false) 0))) ∧ ∀ i m H, W i m H →
    (J.stop i H ∧ Q (.ref D) H) ∨ (J.go i H ∧ ∃ Nx : Hp → Prop, (∀ H', Nx H' → ∃ m', m' < m ∧ W (i + 1) m' H') ∧ ∀ x H', J.yld i H x H' →
      g x (wipe σ vs) H' fun σ2 H2 => wipe σ2 vs = wipe σ vs ∧ tt σ2 H2 fun b H3 => if b = true then tl D σ2 H3 Nx else Nx H3)
/-- a block of the comprehension -/
abbrev bk (X : Cx) (scope : Scope) (s : Shared) (H : Hp) (C : Addr) (cl : List (Str × Addr)) (fp : List Addr) : Cx := X.blk s H scope (compEnvC scope cl C X.env) fp
/-- what the rest of a turn is to do -/
def TailOk (X : Cx) (scope : Scope) (vs1 : List Nat) (tl : Addr → L2.St → Hp → (Hp → Prop) → Prop) (T : PySem.Env → (Result → Shared → Prop) → Value → (Shared → Prop) → Shared → Prop) : Prop :=
  ∀ s H C cl fp pins σ' H' s' D R (Nx : Hp → Prop) (K : Shared → Prop), Inv (bk X scope s H C cl fp) pins σ' H' s' → tl D σ' H' Nx →
    (∀ σ2 H2 s2, Inv (bk X scope s H C cl fp) pins σ2 H2 s2 → σ2.length = σ'.length → (∀ (j : Nat) (v : V), (wipe σ' vs1)[j]? = some (some v) → σ2[j]? = some (some v)) → Nx H2 → K s2) → T (compEnvC scope cl C X.env) R (.ref D) K s'
theorem set_core {pins : List (Addr × Obj)} {s : Shared} {σ : L2.St} {H : Hp} {Q : VK} {elt tg iter : Expr} {ifs : List Expr} {rest : List Comprehension} {scope : Scope} {own : List (Str × Nat)} {vs1 : List Nat} {pos : Pos} {wi : TI} {g : TG} {tt : TT} {tl : Addr → L2.St → Hp → (Hp → Prop) → Prop}
    {T : PySem.Env → (Result → Shared → Prop) → Value → (Shared → Prop) → Shared → Prop}
    (hc : X.calm = true) (hN : X.N.Nodup) (I : Inv X pins σ H s) (hi : PI X tg iter wi) (ok : BlkOk X.N X.env.scope scope own) (hv : ∀ i ∈ vs1, i ∈ own.map (·.2))
    (hg : ∀ s H C cl fp, PG (bk X scope s H C cl fp) tg g) (ht : ∀ s H C cl fp, PTs (bk X scope s H C cl fp) ifs tt) (hs : ∀ x, foldedSetIterable iter X.env x = pure x)
    (hl : ∀ (ce : PySem.Env) (R : Result → Shared → Prop) (it acc : Value) (J : Nat → Shared → Prop), (∀ n s, J n s → Turn1 X.prog X.w X.A ce R tg ifs it (T ce R acc) (R (.ok .next)) (fun s' => ∃ m, m < n ∧ J m s') s) → ∀ n s, J n s → codeAny (model X.prog X.w) X.A (.compLoop (.SetComp elt (⟨tg, iter, ifs, 0⟩ :: rest) scope pos) 0 it acc ce) R s)
    (htl : TailOk X scope vs1 tl T) (h : tSet X.w wi g tt tl (own.map (·.2)) σ H Q) :
    wpAny (model X.prog X.w) X.A (eval (.SetComp elt (⟨tg, iter, ifs, 0⟩ :: rest) scope pos) X.env) (EP X pins σ Q) X.xe s := by
  rw [PpSet.eval_SetComp]
  have free : ∀ y ∈ scope.names, y.2 = .free → ∃ c, X.env.cells.lookup y.1 = some c := fun y hy e => (ok.free y hy e).elim (fun k => I.ok.has _ (.inl k)) fun k => I.ok.has _ (.inr k)
  refine wpAny_comprehension_free rfl hs (closure_ok free) ok.kind (fun y hy e => by rw [ok.uniq y hy, e]) (thn (hi.run pins s σ H _ I h) fun _ a1 b1 => thn b1 fun _ a2 b2 => ?_)
  obtain ⟨it, fp, tn, J, Ha, rfl, Ia, Tn, sta, fpa, q⟩ := b2
  refine PpSet.newSet_ok (newEnv_comp ?_)
  generalize hD : a2.heap.objs.size = D
  have hDn : Ha D = none := Ia.hok.fresh (Nat.le_of_eq hD)
  obtain ⟨W, ⟨m0, w0⟩, turn⟩ := q D hDn
  -- the heap with the new set
  generalize ho : ({ cls := .type "set", dict := none, data := .set #[] 0 (.fresh 0 0 (!X.w.params.followText "set-order")) } : Obj) = obj
  generalize hHb : upd Ha D (SetO X.w D (fun _ => false) 0) = Hb at w0
  generalize ha3 : ({ a2 with heap := a2.heap.push obj } : Shared) = a3
  have hp3 : a3.heap = a2.heap.push obj := by rw [← ha3]
  have keep3 : ∀ b o, a2.heap.get? b = some o → a3.heap.get? b = some o := fun b o e => by rw [hp3]; exact Heap.get?_push_of_some _ e
  have Ib : Inv X pins σ Hb a3 := by
    rw [← hHb, ← ha3]
    refine Ia.laid (t' := a2.toks) (fun b o e => Heap.get?_push_of_some _ e) (Nat.le_of_eq hD) ?_
    rw [← hD, ← ho]
    exact setO_new (setR_fresh X.w)
  have small : ∀ b ∈ fp, b < a2.heap.objs.size := fun b hb => by
    obtain ⟨o, e, _⟩ := Tn.obj _ _ sta b hb
    exact Heap.lt_size e
  have fpb : ∀ b ∈ fp, FpOk X pins Hb b ∧ b < a3.heap.objs.size := fun b hb => by
    have hlt := small b hb
    refine ⟨⟨?_, (fpa b hb).2⟩, by rw [hp3, Heap.size_push]; exact Nat.lt_succ_of_lt hlt⟩
    rw [← hHb, upd_ne (hD ▸ Nat.ne_of_lt hlt)]
    exact (fpa b hb).1
  have stb : tn 0 a3.heap := Tn.keep _ _ _ sta fun b _ o e => keep3 b o e
  have Ic := block_start Ib ok hN fpb
  generalize hn : a3.heap.objs.size = nb at Ic
  have pg := hg a3 Hb nb (cellsFrom (nb + 1) scope.names (cloFrom X.env.cells scope.names [])) fp
  have pt := ht a3 Hb nb (cellsFrom (nb + 1) scope.names (cloFrom X.env.cells scope.names [])) fp
  have ptl := fun pins σ' H' s' => htl a3 Hb nb (cellsFrom (nb + 1) scope.names (cloFrom X.env.cells scope.names [])) fp pins σ' H' s'
  have hlp := hl (compEnvC scope (cellsFrom (nb + 1) scope.names (cloFrom X.env.cells scope.names [])) nb X.env)
  generalize hcl : cellsFrom (nb + 1) scope.names (cloFrom X.env.cells scope.names []) = cl at Ic pg pt ptl hlp ⊢
  show codeAny _ _ (.compStart (.SetComp elt (⟨tg, iter, ifs, 0⟩ :: rest) scope pos) 0 (.ref it) (.ref D) (compEnvC scope cl nb X.env)) (compPost (model X.prog X.w) X.A X.xe none (EP X pins σ Q) (.ref D) nb) { a3 with heap := pushCells (a3.heap.push { cls := .type "dict", data := .dict #[] }) scope.names }
  have own0 : ∀ b ∈ fp, Hb b = none := fun b hb => (fpb b hb).1.1
  generalize ha4 : ({ a3 with heap := pushCells (a3.heap.push { cls := .type "dict", data := .dict #[] }) scope.names } : Shared) = a4 at Ic ⊢
  have st4 : tn 0 a4.heap := Tn.keep _ _ _ stb fun b _ o e => by rw [← ha4]; exact pushCells_keeps _ _ _ _ (Heap.get?_push_of_some _ e)
  have still : ∀ {σ' : L2.St} {H' : Hp} {s' : Shared}, Inv (X.blk a3 Hb scope (compEnvC scope cl nb X.env) fp) [] σ' H' s' → (∀ b ∈ fp, H' b = none) → ∀ b ∈ fp, FpOk (X.blk a3 Hb scope (compEnvC scope cl nb X.env) fp) [] H' b := fun J' hn b hb =>
    ⟨hn b hb, (J'.ok.exf b hb).1, J'.ok.exfs b hb, .inl hb, fun x c e => (J'.ok.exf b hb).2 x c e, fun p hp => by simp at hp⟩
  have all : codeAny (model X.prog X.w) X.A (.compLoop (.SetComp elt (⟨tg, iter, ifs, 0⟩ :: rest) scope pos) 0 (.ref it) (.ref D) (compEnvC scope cl nb X.env)) (compPost (model X.prog X.w) X.A X.xe none (EP X pins σ Q) (.ref D) nb) a4 := by
    refine hlp _ (.ref it) (.ref D) (fun n s' => ∃ i H', Inv (X.blk a3 Hb scope (compEnvC scope cl nb X.env) fp) [] (wipe σ (own.map (·.2))) H' s' ∧ tn i s'.heap ∧ (∀ b ∈ fp, H' b = none) ∧ W i n H') ?_ m0 a4 ⟨0, Hb, Ic, st4, own0, w0⟩
    rintro n a5 ⟨i, H5, I5, st5, n5, w5⟩
    unfold Turn1
    rcases turn i n H5 w5 with ⟨stop, qq⟩ | ⟨go, Nx, hNx, step⟩
    · refine thnF (Tn.done (X.blk a3 Hb scope (compEnvC scope cl nb X.env) fp) rfl rfl rfl hc i [] a5 _ H5 (fun _ _ => False) I5 (still I5 n5) st5 stop) fun r a6 ⟨hr, I6⟩ => ?_
      subst hr
      have I7 : Inv X pins σ H5 a6 := Ib.call' (ch := fp) I6.os I6.base I6.hok I6.bare fun b hb => ⟨(fpb b hb).1.2.2.2.1, (fpb b hb).1.2.1, (fpb b hb).1.2.2.2.2.1, (fpb b hb).1.2.2.2.2.2⟩
      have nl : H5 nb = none := I6.free
      obtain ⟨m, hm, _⟩ := I6.loc
      have fp7 := Ib.fpOk (Nat.le_of_eq hn) nl
      obtain ⟨f0, f1, f2, f3, f4, f5⟩ := fp7
      exact ⟨m, hm, fun h'' sb => ⟨.ref D, H5, I7.turned (t' := a6.toks) (fun b o hb e => (sb.2 b hb).trans e) f0 f1 f3 f4 f5, rfl, qq⟩⟩
    · refine thnF (Tn.item (X.blk a3 Hb scope (compEnvC scope cl nb X.env) fp) rfl rfl rfl hc i [] a5 _ H5 (fun _ _ => False) I5 (still I5 n5) st5 go) fun r a6 ⟨u, hr, b6⟩ => ?_
      subst hr
      refine thnF b6 fun _ a7 ⟨x, H7, I7, r7, y7, st7, n7⟩ => ?_
      have I7' := I7.pinned (still I7 n7) (Tn.obj _ _ st7)
      refine thnF (pg.run _ a7 _ H7 x u _ I7' r7 (step x H7 y7)) fun _ a8 ⟨σ8, H8, I8, hw8, q8⟩ => ?_
      refine thnF (pt.run _ a8 σ8 H8 _ I8 q8) fun b a9 ⟨H9, I9, q9⟩ => ?_
      have back : ∀ {σ9 : L2.St} {s' : Shared} {H' : Hp}, Inv (X.blk a3 Hb scope (compEnvC scope cl nb X.env) fp) ([] ++ pinsAt fp a7.heap) σ9 H' s' → σ9.length = σ8.length → (∀ (j : Nat) (v : V), (wipe σ (own.map (·.2)))[j]? = some (some v) → σ9[j]? = some (some v)) → Nx H' →
          ∃ m, m < n ∧ ∃ i H', Inv (X.blk a3 Hb scope (compEnvC scope cl nb X.env) fp) [] (wipe σ (own.map (·.2))) H' s' ∧ tn i s'.heap ∧ (∀ b ∈ fp, H' b = none) ∧ W i m H' := fun {σ9 s' H'} J' l9 k9 nx => by
        obtain ⟨m', hm, w'⟩ := hNx H' nx
        have pinned : ∀ b ∈ fp, ∀ o, a7.heap.get? b = some o → s'.heap.get? b = some o ∧ H' b = none := fun b hb o e => by
          have z := J'.pin (b, o) (List.mem_append_right _ (List.mem_append_right _ (mem_pinsAt hb e)))
          exact ⟨z.1, z.2.1⟩
        refine ⟨m', hm, i + 1, H', (J'.unpinned (pins := [])).weak (by rw [l9, ← hw8, wipe_length]) k9, Tn.keep _ _ _ st7 fun b hb o e => (pinned b hb o e).1, fun b hb => ?_, w'⟩
        obtain ⟨o, e, _⟩ := Tn.obj _ _ st7 b hb
        exact (pinned b hb o e).2
      have k8 : ∀ (j : Nat) (v : V), (wipe σ (own.map (·.2)))[j]? = some (some v) → σ8[j]? = some (some v) ∧ j ∉ own.map (·.2) := fun j v e => by
        rw [← hw8] at e
        exact wipe_some e
      cases b with
      | false =>
        rw [if_neg (by decide)] at q9 ⊢
        exact back I9 rfl (fun j v e => (k8 j v e).1) q9
      | true =>
        rw [if_pos rfl] at q9 ⊢
        refine ptl _ σ8 H9 a9 D _ Nx _ I9 q9 fun σ9 H10 a10 I10 l10 kk nx => back I10 l10 (fun j v e => kk j v ?_) nx
        obtain ⟨e1, e2⟩ := k8 j v e
        rw [wipe_out fun z => e2 (hv j z)]
        exact e1
  exact PpSet.codeAny_compStart_set all (Tn.self X.A 0 _ _ _ st4 all)
/-- the element goes into the set -/
def tPut (w : World) (te : TE) (D : Addr) (σ : L2.St) (H : Hp) (Nx : Hp → Prop) : Prop :=
  te σ H fun y H4 => ∃ (c : Int) (S : Int → Bool) (n : Nat), y = .int c ∧ H4 D = some (SetO w D S n) ∧ n + 1 < scanBound ∧ Nx (upd H4 D (SetO w D (addS S c) (addN S c n)))
theorem put_run {Xb : Cx} {R : Result → Shared → Prop} {env : PySem.Env} {elt : Expr} {te : TE} (hx : Xb.xe = fun _ _ => False) (he : PE Xb elt te) (hen : Xb.env = env) {pins : List (Addr × Obj)} {σ : L2.St} {H : Hp} {s : Shared} {D : Addr} {Nx : Hp → Prop} {K : Shared → Prop}
    (I : Inv Xb pins σ H s) (q : tPut Xb.w te D σ H Nx) (k : ∀ H2 s2, Inv Xb pins σ H2 s2 → Nx H2 → K s2) : Put1 Xb.prog Xb.w Xb.A env R elt (.ref D) K s := by
  subst hen
  unfold Put1
  have r1 := he.run pins s σ H _ I q
  rw [hx] at r1
  refine thnF r1 fun z a1 ⟨y, H4, I4, r4, c, S, n, ey, hD, hn, nx⟩ => ?_
  subst ey
  have r2 := mt_sadd (X := Xb) pins a1 σ H4 (.ref D) [.int c] (.ref D) [z] (fun _ H' => Nx H') I4 rfl (.cons r4 .nil) ⟨D, c, S, n, rfl, rfl, hD, hn, nx⟩
  rw [hx] at r2
  exact thnF r2 fun _ a2 ⟨_, H5, I5, _, nx5⟩ => k H5 a2 I5 nx5
theorem tail1 {elt : Expr} {te : TE} {scope : Scope} (he : ∀ s H C cl fp, PE (bk X scope s H C cl fp) elt te) : TailOk X scope [] (tPut X.w te) (fun env R acc K s => Put1 X.prog X.w X.A env R elt acc K s) := by
  intro s H C cl fp pins σ' H' s' D R Nx K I q k
  exact put_run (Xb := bk X scope s H C cl fp) rfl (he s H C cl fp) rfl I q fun H2 s2 I2 nx => k σ' H2 s2 I2 rfl (fun j v e => e) nx
/-- the second clause -/
def tIn (w : World) (wi1 : TI) (g1 : TG) (tt1 : TT) (te : TE) (vs1 : List Nat) (D : Addr) (σ2 : L2.St) (H3 : Hp) (Nx : Hp → Prop) : Prop :=
  wi1 σ2 H3 fun J1 H4 => ∃ W1 : Nat → Nat → Hp → Prop, (∃ m, W1 0 m H4) ∧ ∀ j k H, W1 j k H → (J1.stop j H ∧ Nx H) ∨
    (J1.go j H ∧ ∃ Nx1 : Hp → Prop, (∀ H', Nx1 H' → ∃ k', k' < k ∧ W1 (j + 1) k' H') ∧ ∀ x H', J1.yld j H x H' → g1 x (wipe σ2 vs1) H' fun σ3 H5 => wipe σ3 vs1 = wipe σ2 vs1 ∧ tt1 σ3 H5 fun b H6 => if b = true then tPut w te D σ3 H6 Nx1 else Nx1 H6)
theorem tail2 {elt tg iter tg1 iter1 : Expr} {ifs ifs1 : List Expr} {scope : Scope} {pos : Pos} {wi1 : TI} {g1 : TG} {tt1 : TT} {te : TE} {vs1 : List Nat} (hc : X.calm = true) (he : ∀ s H C cl fp, PE (bk X scope s H C cl fp) elt te)
    (hi1 : ∀ s H C cl fp, PI (bk X scope s H C cl fp) tg1 iter1 wi1) (hg1 : ∀ s H C cl fp, PG (bk X scope s H C cl fp) tg1 g1) (ht1 : ∀ s H C cl fp, PTs (bk X scope s H C cl fp) ifs1 tt1) :
    TailOk X scope vs1 (tIn X.w wi1 g1 tt1 te vs1) (fun env R acc K s => Down X.prog X.w X.A env R (sc2 elt tg iter ifs tg1 iter1 ifs1 scope pos) iter1 acc K s) := by
  intro s H C cl fp pins σ8 H9 a9 D R Nx K I9 q k
  have pe := he s H C cl fp
  have pi1 := hi1 s H C cl fp
  have pg1 := hg1 s H C cl fp
  have pt1 := ht1 s H C cl fp
  generalize hB : bk X scope s H C cl fp = B at *
  have hen : B.env = compEnvC scope cl C X.env := by rw [← hB]
  have hP : B.prog = X.prog := by rw [← hB]
  have hw : B.w = X.w := by rw [← hB]
  have hA : B.A = X.A := by rw [← hB]
  have hK : B.K = X.K := by rw [← hB]
  have hx : B.xe = fun _ _ => False := by rw [← hB]
  have hc' : B.calm = true := by rw [← hB]; exact hc
  rw [← hen, ← hP, ← hw, ← hA]
  rw [← hw] at q

  clear he hi1 hg1 ht1
  unfold Down
  have r1 := pi1.run pins a9 σ8 H9 _ I9 q
  rw [hx] at r1
  refine thnF r1 fun _ a10 b10 => thnF b10 fun _ a11 b11 => ?_
  obtain ⟨it1, fp1, tn1, J1, H11, rfl, I11, T1, st11, f11, W1, ⟨m1, w1⟩, turn1⟩ := b11
  have still : ∀ {H' : Hp}, (∀ b ∈ fp1, H' b = none) → ∀ b ∈ fp1, FpOk B pins H' b := fun hn b hb => ⟨hn b hb, (f11 b hb).2⟩
  have len8 : (wipe σ8 vs1).length = σ8.length := wipe_length _ _
  have all : codeAny (model B.prog B.w) B.A (.compLoop (sc2 elt tg iter ifs tg1 iter1 ifs1 scope pos) 1 (.ref it1) (.ref D) B.env) (fun r a3 => match r with | .ok _ => K a3 | .error _ => False) a11 := by
    refine loop2in_ok (fun n s' => ∃ j H', Inv B pins (wipe σ8 vs1) H' s' ∧ tn1 j s'.heap ∧ (∀ b ∈ fp1, H' b = none) ∧ W1 j n H') ?_ m1 ⟨0, H11, I11.weak len8 (fun j v e => (wipe_some e).1), st11, fun b hb => (f11 b hb).1, w1⟩
    rintro n a12 ⟨j, H12, I12, st12, n12, w12⟩
    unfold Turn1
    rcases turn1 j n H12 w12 with ⟨stop1, nx1⟩ | ⟨go1, Nx1, hNx1, step1⟩
    · refine thnF (T1.done B rfl rfl rfl hc' j pins a12 (wipe σ8 vs1) H12 (fun _ _ => False) I12 (still n12) st12 stop1) fun r a13 ⟨hr, I13⟩ => ?_
      subst hr
      exact k _ _ _ I13 len8 (fun j v e => e) nx1
    · refine thnF (T1.item B rfl rfl rfl hc' j pins a12 (wipe σ8 vs1) H12 (fun _ _ => False) I12 (still n12) st12 go1) fun r a13 ⟨u1, hr, b13⟩ => ?_
      subst hr
      refine thnF b13 fun _ a14 ⟨x1, H14, I14, r14, y14, st14, n14⟩ => ?_
      have I14' := I14.pinned (still n14) (T1.obj _ _ st14)
      have r2 := pg1.run _ a14 (wipe σ8 vs1) H14 x1 u1 _ I14' r14 (step1 x1 H14 y14)
      rw [hx] at r2
      refine thnF r2 fun _ a15 ⟨σ15, H15, I15, hw15, q15⟩ => ?_
      have r3 := pt1.run _ a15 σ15 H15 _ I15 q15
      rw [hx] at r3
      refine thnF r3 fun b1 a16 ⟨H16, I16, q16⟩ => ?_
      have back : ∀ H' s', Inv B (pins ++ pinsAt fp1 a14.heap) σ15 H' s' → Nx1 H' → ∃ m, m < n ∧ ∃ j H', Inv B pins (wipe σ8 vs1) H' s' ∧ tn1 j s'.heap ∧ (∀ b ∈ fp1, H' b = none) ∧ W1 j m H' := fun H' s' J' nx => by
        obtain ⟨m', hm, w'⟩ := hNx1 H' nx
        have pinned : ∀ b ∈ fp1, ∀ o, a14.heap.get? b = some o → s'.heap.get? b = some o ∧ H' b = none := fun b hb o e => by
          have z := J'.pin (b, o) (List.mem_append_right _ (List.mem_append_right _ (mem_pinsAt hb e)))
          exact ⟨z.1, z.2.1⟩
        refine ⟨m', hm, j + 1, H', J'.unpinned.weak (by rw [← hw15, wipe_length]) (fun j v e => by rw [← hw15] at e; exact (wipe_some e).1), T1.keep _ _ _ st14 fun b hb o e => (pinned b hb o e).1, fun b hb => ?_, w'⟩
        obtain ⟨o, e, _⟩ := T1.obj _ _ st14 b hb
        exact (pinned b hb o e).2
      cases b1 with
      | false =>
        rw [if_neg (by decide)] at q16 ⊢
        exact back _ _ I16 q16
      | true =>
        rw [if_pos rfl] at q16 ⊢
        exact put_run hx pe rfl I16 q16 fun H2 s2 I2 nx => back H2 s2 I2 nx
  exact start2_ok all (T1.self B.A 0 _ _ _ st11 all)
theorem pe_set1 {elt tg iter : Expr} {ifs : List Expr} {scope : Scope} {own : List (Str × Nat)} {pos : Pos} {wi : TI} {g : TG} {tt : TT} {te : TE} (hc : X.calm = true) (hN : X.N.Nodup) (hi : PI X tg iter wi) (ok : BlkOk X.N X.env.scope scope own)
    (hg : ∀ s H C cl fp, PG (bk X scope s H C cl fp) tg g) (ht : ∀ s H C cl fp, PTs (bk X scope s H C cl fp) ifs tt) (he : ∀ s H C cl fp, PE (bk X scope s H C cl fp) elt te) (hs : ∀ x, foldedSetIterable iter X.env x = pure x) :
    PE X (sc1 elt tg iter ifs scope pos) (tSet X.w wi g tt (tPut X.w te) (own.map (·.2))) :=
  ⟨fun pins s σ H Q I h => set_core hc hN I hi ok (vs1 := []) (fun _ z => nomatch z) hg ht hs (fun ce R it acc J turn n s hJ => loop1_ok J turn n hJ) (tail1 he) h⟩
theorem pe_set2 {elt tg iter tg1 iter1 : Expr} {ifs ifs1 : List Expr} {scope : Scope} {own : List (Str × Nat)} {vs1 : List Nat} {pos : Pos} {wi wi1 : TI} {g g1 : TG} {tt tt1 : TT} {te : TE} (hc : X.calm = true) (hN : X.N.Nodup) (hi : PI X tg iter wi) (ok : BlkOk X.N X.env.scope scope own) (hv : ∀ i ∈ vs1, i ∈ own.map (·.2))
    (hg : ∀ s H C cl fp, PG (bk X scope s H C cl fp) tg g) (ht : ∀ s H C cl fp, PTs (bk X scope s H C cl fp) ifs tt) (he : ∀ s H C cl fp, PE (bk X scope s H C cl fp) elt te) (hs : ∀ x, foldedSetIterable iter X.env x = pure x)
    (hi1 : ∀ s H C cl fp, PI (bk X scope s H C cl fp) tg1 iter1 wi1) (hg1 : ∀ s H C cl fp, PG (bk X scope s H C cl fp) tg1 g1) (ht1 : ∀ s H C cl fp, PTs (bk X scope s H C cl fp) ifs1 tt1) (hs1 : ∀ env x, foldedSetIterable iter1 env x = pure x) :
    PE X (sc2 elt tg iter ifs tg1 iter1 ifs1 scope pos) (tSet X.w wi g tt (tIn X.w wi1 g1 tt1 te vs1) (own.map (·.2))) :=
  ⟨fun pins s σ H Q I h => set_core hc hN I hi ok hv hg ht hs (fun ce R it acc J turn n s hJ => loop2_ok (hs1 ce) J turn n hJ) (tail2 hc he hi1 hg1 ht1) h⟩
end
end EG
namespace EG
open PySem L2
/-! ### comprehensions with two clauses; sorted sets -/
theorem catGo_snoc {α : Type} {f : Vl → Option (List α)} : ∀ (l : List Vl) (x : Vl), catGo f (l ++ [x]) = (catGo f l).bind fun zs => (f x).map fun ys => zs ++ ys
  | [], x => by
    simp only [List.nil_append, catGo, Option.bind_some]
    cases f x <;> simp
  | y :: l, x => by
    simp only [List.cons_append, catGo, catGo_snoc l x]
    cases f y with
    | none => rfl
    | some a =>
      simp only [Option.bind_some]
      cases catGo f l with
      | none => rfl
      | some b =>
        simp only [Option.bind_some, Option.map_some]
        cases f x <;> simp
theorem catGo_take {α : Type} {f : Vl → Option (List α)} : ∀ {xs : List Vl} {ys : List α}, catGo f xs = some ys → ∀ i, ∃ zs ws, catGo f (xs.take i) = some zs ∧ ys = zs ++ ws
  | [], ys, h, i => ⟨[], ys, by simp [catGo], rfl⟩
  | x :: xs, ys, h, 0 => ⟨[], ys, rfl, rfl⟩
  | x :: xs, ys, h, i + 1 => by
    simp only [catGo, Option.bind_eq_some_iff, Option.map_eq_some_iff] at h
    obtain ⟨a, h1, zs, h2, rfl⟩ := h
    obtain ⟨b, c, h3, rfl⟩ := catGo_take h2 i
    exact ⟨a ++ b, c, by simp [catGo, h1, h3], by simp⟩
theorem wipeE_comm {ε : Env} {i : Nat} {o : Option Vl} : ∀ {vs : List Nat}, i ∉ vs → wipeE (ε.set i o) vs = (wipeE ε vs).set i o
  | [], _ => rfl
  | v :: vs, h => by
    have h1 : i ≠ v := fun z => h (by rw [z]; exact List.mem_cons_self)
    have h2 : i ∉ vs := fun z => h (List.mem_cons_of_mem _ z)
    show (wipeE (ε.set i o) vs).set v none = ((wipeE ε vs).set v none).set i o
    rw [wipeE_comm h2, List.set_comm _ _ h1]
theorem wipeE_set {ε : Env} {i : Nat} {o : Option Vl} : ∀ {vs : List Nat}, i ∈ vs → wipeE (ε.set i o) vs = wipeE ε vs
  | [], h => by cases h
  | v :: vs, h => by
    show (wipeE (ε.set i o) vs).set v none = (wipeE ε vs).set v none
    by_cases c : i ∈ vs
    · rw [wipeE_set c]
    · have e : i = v := by
        rcases List.mem_cons.mp h with e | e
        · exact e
        · exact absurd e c
      subst e
      rw [wipeE_comm c, List.set_set]
theorem wipeE_wipeE {ε : Env} {ws : List Nat} : ∀ {vs : List Nat}, (∀ v ∈ vs, v ∈ ws) → wipeE (wipeE ε vs) ws = wipeE ε ws
  | [], _ => rfl
  | v :: vs, h => by
    show wipeE ((wipeE ε vs).set v none) ws = _
    rw [wipeE_set (h v List.mem_cons_self)]
    exact wipeE_wipeE fun z hz => h z (List.mem_cons_of_mem _ hz)
theorem wipeE_len (ε : Env) : ∀ vs : List Nat, (wipeE ε vs).length = ε.length
  | [] => rfl
  | v :: vs => by show ((wipeE ε vs).set v none).length = _; rw [List.length_set, wipeE_len ε vs]
theorem wipeE_out {ε : Env} {i : Nat} : ∀ {vs : List Nat}, i ∉ vs → (wipeE ε vs)[i]? = ε[i]?
  | [], _ => rfl
  | v :: vs, h => by
    have h1 : v ≠ i := fun z => h (by rw [z]; exact List.mem_cons_self)
    show ((wipeE ε vs).set v none)[i]? = _
    rw [List.getElem?_set_ne h1, wipeE_out fun z => h (List.mem_cons_of_mem _ z)]
mutual
theorem bindT_wipe {vs : List Nat} : ∀ {t : Tg} {r : Vl} {ε ε2 : Env}, bindT t r ε = some ε2 → tgIn vs t = true → wipeE ε2 vs = wipeE ε vs
  | .n i, r, ε, ε2, h, ht => by
    have hi : i ∈ vs := by simpa [tgIn] using ht
    have : ∃ o, ε2 = ε.set i o := by
      simp only [bindT] at h
      cases r with
      | sh d => exact ⟨_, (Option.some.inj h).symm⟩
      | fr n d => exact ⟨_, (Option.some.inj h).symm⟩
      | bo n d => exact ⟨_, (Option.some.inj h).symm⟩
      | us n d => exact ⟨_, (Option.some.inj h).symm⟩
      | ex _ _ _ => cases h
      | no _ _ _ => cases h
    obtain ⟨o, rfl⟩ := this
    exact wipeE_set hi
  | .t ts, r, ε, ε2, h, ht => by
    simp only [bindT] at h
    split at h
    · simp only [Option.bind_eq_some_iff] at h
      obtain ⟨rs, _, h2⟩ := h
      exact bindTs_wipe h2 (by simpa [tgIn] using ht)
    · cases h
theorem bindTs_wipe {vs : List Nat} : ∀ {ts : Tgs} {rs : List Vl} {ε ε2 : Env}, bindTs ts rs ε = some ε2 → tgsIn vs ts = true → wipeE ε2 vs = wipeE ε vs
  | .nil, [], ε, ε2, h, _ => by simp only [bindTs] at h; cases h; rfl
  | .nil, _ :: _, ε, ε2, h, _ => by simp only [bindTs] at h; cases h
  | .cons t ts, [], ε, ε2, h, _ => by simp only [bindTs] at h; cases h
  | .cons t ts, r :: rs, ε, ε2, h, ht => by
    simp only [bindTs, Option.bind_eq_some_iff] at h
    obtain ⟨ε1, h1, h2⟩ := h
    simp only [tgsIn, Bool.and_eq_true] at ht
    rw [bindTs_wipe h2 ht.2, bindT_wipe h1 ht.1]
end
/-- the slots of a clause, at a later heap -/
theorem rebase {G : Gt} {xp : Xp} {Hi0 H0 Hj Hk Hi3 H3 : Hp} {σ σ2 : L2.St} {ε ε2 : Env} {vs : List Nat} (Ib : EnvOk G xp Hi0 H0 Hj Hk σ ε) (I2 : EnvOk G xp Hi0 H0 Hi3 H3 σ2 ε2) (hw : wipe σ2 vs = wipe σ vs) (he : wipeE ε2 vs = wipeE ε vs) (hs : shOn ε2 vs = true) (e : Ex Hi3 Hj) :
    EnvOk G xp Hi0 H0 Hj Hk σ2 ε2 := by
  obtain ⟨F, f1, f2, f3⟩ := Ib.sl
  obtain ⟨F2, g1, _, _⟩ := I2.sl
  have hl : ε2.length = ε.length := by rw [← wipeE_len ε2 vs, he, wipeE_len]
  refine ⟨Ib.st, I2.len, fun i => if i ∈ vs then [] else F i, fun i r v e1 e2 => ?_, fun i j p hij h1 h2 => ?_, fun i hi => ?_⟩
  · dsimp only
    by_cases c : i ∈ vs
    · rw [if_pos c]
      have q := List.all_eq_true.mp hs i c
      have gi : getS ε2 i = r := by unfold getS; rw [e1]; rfl
      rw [gi] at q
      match r, q with
      | none, _ => rfl
      | some (.sh d), _ =>
        obtain ⟨_, x, h1, h2⟩ := g1 i _ _ e1 e2
        exact ⟨rfl, x, h1, Rep.mono e d x h2⟩
    · rw [if_neg c]
      refine f1 i r v ?_ ?_
      · rw [← wipeE_out c, ← he, wipeE_out c]; exact e1
      · rw [← wipe_out c, ← hw, wipe_out c]; exact e2
  · dsimp only at h1 h2
    split at h1
    · cases h1
    · split at h2
      · cases h2
      · exact f2 i j p hij h1 h2
  · dsimp only
    split
    · rfl
    · exact f3 i (by omega)
/-- a walk whose turns are told by Bd -/
theorem any_wk {G : Gt} {H0 : Hp} {g : Hp → Hp → Prop} {J : L2.It} {xs : List Vl} {Bd : V → Hp → (Hp → Prop) → Prop} {Hs : Hp} {Qd : Hp → Prop} (w : Wk G H0 J g xs) (Pv : Nat → Hp → Hp → Prop) {Hi : Hp} (h0 : Pv 0 Hi Hs) (hG : ∀ i Hi H, Pv i Hi H → g Hi H)
    (hs : ∀ i q x Hi Hi' H H', xs[i]? = some q → Pv i Hi H → Step Hi H Hi' H' → VlOk G H0 H Hi' H' q x → Bd x H' (fun H2 => ∃ Hi2, Pv (i + 1) Hi2 H2)) (hd : ∀ Hi H, Pv xs.length Hi H → Qd H) :
    ∃ W : Nat → Nat → Hp → Prop, (∃ m, W 0 m Hs) ∧ ∀ i m H, W i m H → (J.stop i H ∧ Qd H) ∨ (J.go i H ∧ ∃ Nx : Hp → Prop, (∀ H', Nx H' → ∃ m', m' < m ∧ W (i + 1) m' H') ∧ ∀ x H', J.yld i H x H' → Bd x H' Nx) := by
  refine ⟨fun i m H => m = xs.length - i ∧ i ≤ xs.length ∧ ∃ Hi, Pv i Hi H, ⟨xs.length, by simp, Nat.zero_le _, Hi, h0⟩, ?_⟩
  rintro i m H ⟨rfl, hi, Hi, p⟩
  have q := hG i Hi H p
  rcases Nat.lt_or_ge i xs.length with hlt | hge
  · refine .inr ⟨w.go i Hi H hlt q, _, fun H' p' => ⟨xs.length - (i + 1), by omega, rfl, hlt, p'⟩, fun x H' y => ?_⟩
    obtain ⟨Hi', d, h1, h2, h3⟩ := w.yld i Hi H x H' q hlt y
    exact hs i d x Hi Hi' H H' h2 p h1 h3
  · have e : i = xs.length := by omega
    subst e
    exact .inl ⟨w.stop Hi H q, hd Hi H p⟩
section
variable {C : Ctx}
/-- one clause -/
theorem clause {α : Type} {Hi0 H0 Hib Hs : Hp} {σ : L2.St} {ε : Env} {vs : List Nat} {J : L2.It} {xs : List Vl} {g : Hp → Hp → Prop} (w : Wk C.G H0 J g xs) (St : List α → Hp → Hp → Prop)
    (hst : ∀ l Hi H Hi' H', St l Hi H → Step Hi H Hi' H' → St l Hi' H') (base : ∀ l Hi H, St l Hi H → Ex Hib Hi → EnvOk C.G C.xp Hi0 H0 Hi H σ ε) (hg : ∀ l Hi H, St l Hi H → Ex Hib Hi → g Hi H)
    (P : Env → Option (List α)) (tl : L2.St → Hp → (Hp → Prop) → Prop) {t : Tg} {cs : Eps} {ifs : List Expr} {scope : Scope} (htg : tgIn vs t = true) (ht : ∀ s H Ca cl fp, RTs (C.blk s H scope cl Ca fp) ifs cs)
    {l0 zs : List α} (h0 : St l0 Hib Hs) (hz : catGo (fun x => (bindT t x (wipeE ε vs)).bind fun ε2 => (okO (testsD C.Φ cs ε2)).bind fun tb => if tb = true then P ε2 else some []) xs = some zs)
    (htl : ∀ ε2 ys pre post σ2 Hi H, P ε2 = some ys → zs = pre ++ ys ++ post → wipe σ2 vs = wipe σ vs → wipeE ε2 vs = wipeE ε vs → Ex Hib Hi → EnvOk C.G C.xp Hi0 H0 Hi H σ2 ε2 → St (l0 ++ pre) Hi H → ∀ Nx : Hp → Prop, (∀ Hi' H', Ex Hi Hi' → St (l0 ++ pre ++ ys) Hi' H' → Nx H') → tl σ2 H Nx)
    {Qd : Hp → Prop} (hd : ∀ Hi H, Ex Hib Hi → St (l0 ++ zs) Hi H → Qd H) :
    ∃ W : Nat → Nat → Hp → Prop, (∃ m, W 0 m Hs) ∧ ∀ i m H, W i m H → (J.stop i H ∧ Qd H) ∨ (J.go i H ∧ ∃ Nx : Hp → Prop, (∀ H', Nx H' → ∃ m', m' < m ∧ W (i + 1) m' H') ∧ ∀ x H', J.yld i H x H' →
      tgT C.X.K t x (wipe σ vs) H' fun σ2 H2 => wipe σ2 vs = wipe σ vs ∧ ∀ s Hb Ca cl fp, tUTs (C.blk s Hb scope cl Ca fp).X ifs σ2 H2 fun b H3 => if b = true then tl σ2 H3 Nx else Nx H3) := by
  generalize hf : (fun x => (bindT t x (wipeE ε vs)).bind fun ε2 => (okO (testsD C.Φ cs ε2)).bind fun tb => if tb = true then P ε2 else some []) = f at hz
  refine any_wk (Bd := fun x H' Nx => tgT C.X.K t x (wipe σ vs) H' fun σ2 H2 => wipe σ2 vs = wipe σ vs ∧ ∀ s Hb Ca cl fp, tUTs (C.blk s Hb scope cl Ca fp).X ifs σ2 H2 fun b H3 => if b = true then tl σ2 H3 Nx else Nx H3)
    w (fun n Hi H => Ex Hib Hi ∧ ∃ pre, catGo f (xs.take n) = some pre ∧ St (l0 ++ pre) Hi H) (Hi := Hib) ⟨Evl.Ex.refl _, [], rfl, by rw [List.append_nil]; exact h0⟩ (fun i Hi H ⟨e, pre, _, h⟩ => hg _ Hi H h e) ?_ ?_
  · rintro n q u Hi Hi' H H' hq ⟨e, pre, h1, h2⟩ sy oy
    obtain ⟨a, b, h3, h4⟩ := catGo_take hz (n + 1)
    have hsn : xs.take (n + 1) = xs.take n ++ [q] := by rw [List.take_add_one, hq]; rfl
    rw [hsn, catGo_snoc, h1] at h3
    simp only [Option.bind_some, Option.map_eq_some_iff] at h3
    obtain ⟨ys, h5, rfl⟩ := h3
    have hsnoc : catGo f (xs.take (n + 1)) = some (pre ++ ys) := by rw [hsn, catGo_snoc, h1]; simp [h5]
    have h6 := h5
    rw [← hf] at h6
    simp only [Option.bind_eq_some_iff] at h6
    obtain ⟨ε2, b1, tb, b2, b3⟩ := h6
    have b2 := okO_some b2
    have Iw := (base _ Hi H h2 e).wipe vs
    refine tgT_ok b1 Iw sy oy fun σ2 I2 wi => ?_
    have hw : wipe σ2 vs = wipe σ vs := by rw [wi vs htg]; exact wipe_wipe fun _ hz => hz
    have hwE : wipeE ε2 vs = wipeE ε vs := by rw [bindT_wipe b1 htg]; exact wipeE_wipeE fun _ hz => hz
    refine ⟨hw, fun s Hb Ca cl fp => ?_⟩
    refine ht s Hb Ca cl fp ε2 _ b2 Hi0 H0 Hi' H' σ2 _ I2 fun Hi2 H2 s3 => ?_
    have st2 := hst _ _ _ _ _ h2 (sy.trans s3)
    cases tb with
    | false =>
      rw [if_neg (by decide)] at b3 ⊢
      cases b3
      exact ⟨Hi2, ex_trans e (sy.trans s3).i, _, hsnoc, by rw [List.append_nil]; exact st2⟩
    | true =>
      rw [if_pos rfl] at b3 ⊢
      refine htl ε2 ys pre b σ2 Hi2 H2 b3 h4 hw hwE (ex_trans e (sy.trans s3).i) (I2.step s3) st2 _ fun Hi3 H3 e3 st3 => ?_
      exact ⟨Hi3, ex_trans (ex_trans e (sy.trans s3).i) e3, _, hsnoc, by rw [← List.append_assoc]; exact st3⟩
  · rintro Hi H ⟨e, pre, h1, h2⟩
    rw [List.take_length, hz] at h1
    cases h1
    exact hd Hi H e h2
/-! ### sets -/
theorem uniq_len : ∀ (m acc : List Int), acc.length ≤ (m.foldl uqI acc).length
  | [], acc => Nat.le_refl _
  | k :: m, acc => by
    have h := uniq_len m (uqI acc k)
    have : acc.length ≤ (uqI acc k).length := by unfold uqI; split <;> simp
    rw [List.foldl_cons]; omega
theorem uniq_app (l m : List Int) : (uniqI l).length ≤ (uniqI (l ++ m)).length := by unfold uniqI; rw [List.foldl_append]; exact uniq_len m _
theorem uniq_mem : ∀ (m acc : List Int) (k : Int), k ∈ m.foldl uqI acc ↔ k ∈ acc ∨ k ∈ m
  | [], acc, k => by simp
  | j :: m, acc, k => by
    rw [List.foldl_cons, uniq_mem m, List.mem_cons]
    unfold uqI
    split
    · rename_i h
      constructor
      · rintro (h1 | h1)
        · exact .inl h1
        · exact .inr (.inr h1)
      · rintro (h1 | rfl | h1)
        · exact .inl h1
        · exact .inl h
        · exact .inr h1
    · rw [List.mem_append, List.mem_singleton, or_assoc]
theorem uniqI_mem (l : List Int) (k : Int) : k ∈ uniqI l ↔ k ∈ l := by unfold uniqI; rw [uniq_mem]; simp
theorem uniq_nd : ∀ (m acc : List Int), acc.Nodup → (m.foldl uqI acc).Nodup
  | [], acc, h => h
  | j :: m, acc, h => by
    rw [List.foldl_cons]
    refine uniq_nd m _ ?_
    unfold uqI
    split
    · exact h
    · rename_i hj
      exact List.nodup_append.mpr ⟨h, by simp, fun a ha b hb e => by simp at hb; subst hb; subst e; exact hj ha⟩
theorem uniqI_nd (l : List Int) : (uniqI l).Nodup := uniq_nd l [] List.nodup_nil
theorem uniqI_snoc (l : List Int) (k : Int) : (uniqI (l ++ [k])).length = if k ∈ l then (uniqI l).length else (uniqI l).length + 1 := by
  have e : uniqI (l ++ [k]) = uqI (uniqI l) k := by unfold uniqI; rw [List.foldl_append]; rfl
  rw [e]
  unfold uqI
  by_cases c : k ∈ l
  · rw [if_pos ((uniqI_mem l k).mpr c), if_pos c]
  · rw [if_neg fun z => c ((uniqI_mem l k).mp z), if_neg c]; simp
theorem strictI : ∀ {a b : List Int}, a.Pairwise (· < ·) → b.Pairwise (· < ·) → (∀ x, x ∈ a ↔ x ∈ b) → a = b
  | [], [], _, _, _ => rfl
  | [], y :: b, _, _, h => absurd ((h y).mpr (by simp)) (by simp)
  | x :: a, [], _, _, h => absurd ((h x).mp (by simp)) (by simp)
  | x :: a, y :: b, ha, hb, h => by
    obtain ⟨a1, a2⟩ := List.pairwise_cons.mp ha
    obtain ⟨b1, b2⟩ := List.pairwise_cons.mp hb
    have e : x = y := by
      rcases List.mem_cons.mp ((h x).mp (by simp)) with e | e
      · exact e
      · rcases List.mem_cons.mp ((h y).mpr (by simp)) with f | f
        · exact f.symm
        · have := b1 x e; have := a1 y f; omega
    subst e
    congr 1
    refine strictI a2 b2 fun z => ?_
    have := h z
    simp only [List.mem_cons] at this
    constructor
    · intro hz
      rcases this.mp (.inr hz) with e | e
      · have := a1 z hz; omega
      · exact e
    · intro hz
      rcases this.mpr (.inr hz) with e | e
      · have := b1 z hz; omega
      · exact e
/-- the numbers of l, each once, ascending -/
def setI (l : List Int) : List Int := sortI (uniqI l)
theorem setI_asc (l : List Int) : (setI l).Pairwise (· < ·) := by
  have h1 : (setI l).Nodup := (sortI_perm _).nodup_iff.mpr (uniqI_nd l)
  refine (List.Pairwise.and (sortI_sorted _) h1).imp fun {x y} h => ?_
  have := h.1
  have := h.2
  omega
theorem setI_mem (l : List Int) (k : Int) : k ∈ setI l ↔ k ∈ l := by unfold setI; rw [(sortI_perm _).mem_iff, uniqI_mem]
/-- the set at D holds the numbers of l -/
def StI (C : Ctx) (Hi1 H1 : Hp) (D : Addr) (l : List Int) (Hi H : Hp) : Prop := Step Hi1 H1 Hi H ∧ H D = some (SetO C.X.w D (fun j => decide (j ∈ l)) (uniqI l).length) ∧ Hi D = none
theorem StI.step {Hi1 H1 : Hp} {D : Addr} (l : List Int) (Hi H Hi' H' : Hp) (h : StI C Hi1 H1 D l Hi H) (s : Step Hi H Hi' H') : StI C Hi1 H1 D l Hi' H' :=
  ⟨h.1.trans s, s.h _ _ h.2.1, s.n D (by rw [h.2.1]; exact fun z => nomatch z) h.2.2⟩
theorem addS_mem (l : List Int) (k : Int) : addS (fun j => decide (j ∈ l)) k = fun j => decide (j ∈ l ++ [k]) := by
  funext j
  unfold addS
  by_cases h1 : j ∈ l <;> by_cases h2 : j = k <;> simp [h1, h2]
theorem addN_mem (l : List Int) (k : Int) : addN (fun j => decide (j ∈ l)) k (uniqI l).length = (uniqI (l ++ [k])).length := by
  rw [uniqI_snoc]
  unfold addN
  by_cases h : k ∈ l <;> simp [h]
def elI (Φ : Fns) (e : Ep) (ε : Env) : Option (List Int) := (okO (evalD Φ e ε)).bind fun r => (asI r.d).map fun k => [k]
abbrev teU (C : Ctx) (scope : Scope) (e : Expr) : TE := fun σ H Q => ∀ s Hb Ca cl fp, tU (C.blk s Hb scope cl Ca fp).X e σ H Q
/-- the element goes into the set -/
theorem putI_ok {scope : Scope} {pe : Expr} {e : Ep} (he : ∀ s H Ca cl fp, RE (C.blk s H scope cl Ca fp) pe e) {Hi0 H0 Hi1 H1 Hi H : Hp} {D : Addr} {σ2 : L2.St} {ε2 : Env} {l ys : List Int} (hel : elI C.Φ e ε2 = some ys) (I2 : EnvOk C.G C.xp Hi0 H0 Hi H σ2 ε2) (h1 : H1 D = none)
    (st : StI C Hi1 H1 D l Hi H) (hb : (uniqI l).length < 1000) {Nx : Hp → Prop} (k : ∀ Hi' H', Ex Hi Hi' → StI C Hi1 H1 D (l ++ ys) Hi' H' → Nx H') : tPut C.X.w (teU C scope pe) D σ2 H Nx := by
  unfold elI at hel
  simp only [Option.bind_eq_some_iff, Option.map_eq_some_iff] at hel
  obtain ⟨r, h2, j, h3, rfl⟩ := hel
  have h2 := okO_some h2
  intro s Hb Ca cl fp
  refine he s Hb Ca cl fp ε2 _ h2 Hi0 H0 Hi H σ2 _ I2 fun Hi3 H3 y s3 o3 => ?_
  have e0 := (I2.step s3).st.h
  have hy : y = .int j := int_of s3.s e0 o3 (asI_some h3)
  obtain ⟨g1, g2, g3⟩ := StI.step l _ _ _ _ st s3
  refine ⟨j, _, _, hy, g2, Nat.lt_of_lt_of_le (Nat.succ_lt_succ hb) (by decide), k Hi3 _ s3.i ⟨⟨g1.i, Evl.Ex.mut g1.h h1, Evl.Ex.mut g1.s g3, g1.n⟩, ?_, g3⟩⟩
  rw [upd_same, addS_mem, addN_mem]
abbrev ttU (C : Ctx) (scope : Scope) (ifs : List Expr) : TT := fun σ H Q => ∀ s Hb Ca cl fp, tUTs (C.blk s Hb scope cl Ca fp).X ifs σ H Q
abbrev tiU (C : Ctx) (scope : Scope) (tg it : Expr) : TI := fun σ H R => ∀ s Hb Ca cl fp, tUI (C.blk s Hb scope cl Ca fp).X tg it σ H R
/-- the end: the numbers, sorted -/
theorem sorted_end {Hi0 H0 Hi H Hi1 H1 Hi2 H2 : Hp} {σ : L2.St} {ε : Env} {D : Addr} {ns : List Int} {Q : VK} (I : EnvOk C.G C.xp Hi0 H0 Hi H σ ε) (s1 : Step Hi H Hi1 H1) (st : StI C Hi1 H1 D ns Hi2 H2) (hl : (uniqI ns).length < 64) (k : GoodV C H0 Hi H σ Q (.ok (.fr 1 (.lst ((sortI (uniqI ns)).map .int))))) :
    rSortedSet C.X.w [.ref D] H2 Q := by
  obtain ⟨g1, g2, g3⟩ := st
  refine ⟨D, _, _, rfl, g2, hl, fun ms p h1 h2 _ hp => ?_⟩
  have e : ms = setI ns := strictI h1 (setI_asc ns) fun x => by rw [h2, setI_mem, decide_eq_true_eq]
  subst e
  have sA := s1.trans g1
  refine k Hi2 _ _ (sA.trans (Step.own sA.s hp)) (own1 sA.h sA.s hp ?_)
  show RepL C.G Hi2 ((setI ns).map .int) ((setI ns).map V.int)
  generalize setI ns = L
  induction L with
  | nil => rfl
  | cons x L ih => exact ⟨_, _, rfl, rfl, ih⟩
theorem r_sst {scope : Scope} {own : List (Str × Nat)} {pe it : Expr} {ifs : List Expr} {t : Tg} {i : Epi} {cs : Eps} {x : Ep} {tg : Expr} (hi : RI C tg it i) (htg : tgIn (own.map (·.2)) t = true) (ht : ∀ s H Ca cl fp, RTs (C.blk s H scope cl Ca fp) ifs cs) (he : ∀ s H Ca cl fp, RE (C.blk s H scope cl Ca fp) pe x) :
    ∀ ε o, evalD C.Φ (.sst t i cs x (own.map (·.2))) ε = some o → ∀ Hi0 H0 Hi H σ (Q : VK), EnvOk C.G C.xp Hi0 H0 Hi H σ ε → GoodV C H0 Hi H σ Q o →
      tSet C.X.w (tUI C.X tg it) (tgT C.X.K t) (ttU C scope ifs) (tPut C.X.w (teU C scope pe)) (own.map (·.2)) σ H (fun v H' => rSortedSet C.X.w [v] H' Q) := by
  intro ε o h Hi0 H0 Hi H σ Q I k
  generalize own.map (·.2) = vs at *
  simp only [evalD] at h
  rcases rb_some h with ⟨c, ns, ds, h1, rfl⟩ | ⟨xs, h1, h2⟩
  · exact hi ε _ h1 Hi0 H0 Hi H σ _ I k
  split at h2
  case isFalse => cases h2
  case isTrue hlen =>
  obtain ⟨r, h3, rfl⟩ := rl_some h2
  simp only [Option.bind_eq_some_iff] at h3
  obtain ⟨zs, h4, h5⟩ := h3
  split at h5
  case isFalse => cases h5
  case isTrue h64 =>
  cases h5
  refine hi ε _ h1 Hi0 H0 Hi H σ _ I fun Hi1 H1 J s1 w D hD => ?_
  have I1 := I.step s1
  exact clause w (StI C Hi1 H1 D) StI.step (fun l Hi2 H2 st _ => I1.step st.1) (fun l Hi2 H2 st _ => ⟨st.1.i, st.1.s, st.1.h⟩) (elI C.Φ x) _ htg ht (l0 := []) (zs := zs)
    ⟨Step.own s1.s hD, by rw [upd_same]; rfl, Evl.fresh_back s1.s hD⟩ h4
    (fun ε2 ys pre post σ2 Hi2 H2 p1 p2 _ _ _ I2 st Nx kk => putI_ok he p1 I2 hD st (by
      have a1 := uniq_app ([] ++ pre) (ys ++ post)
      rw [List.nil_append, ← List.append_assoc, ← p2] at a1
      rw [List.nil_append]; omega) kk)
    (fun Hi2 H2 _ st => sorted_end I s1 (by simpa using st) h64 k)
/-! ### the second clause -/
theorem inner_ok {α : Type} {Hi0 H0 Hib Hi3 H3 : Hp} {σ σ2 : L2.St} {ε ε2 : Env} {vs vs1 : List Nat} (St : List α → Hp → Hp → Prop) (hst : ∀ l Hi H Hi' H', St l Hi H → Step Hi H Hi' H' → St l Hi' H')
    (base : ∀ l Hi H, St l Hi H → Ex Hib Hi → EnvOk C.G C.xp Hi0 H0 Hi H σ ε) (hw : wipe σ2 vs = wipe σ vs) (hwE : wipeE ε2 vs = wipeE ε vs) (eb : Ex Hib Hi3) (I2 : EnvOk C.G C.xp Hi0 H0 Hi3 H3 σ2 ε2)
    {scope : Scope} {tg1 it1 : Expr} {ifs1 : List Expr} {t1 : Tg} {i1 : Epi} {cs1 : Eps} (hl1 : ∀ s H Ca cl fp, RL (C.blk s H scope cl Ca fp) tg1 it1 i1) (htg1 : tgIn vs1 t1 = true) (ht1 : ∀ s H Ca cl fp, RTs (C.blk s H scope cl Ca fp) ifs1 cs1)
    (Pe : Env → Option (List α)) (tp : L2.St → Hp → (Hp → Prop) → Prop) (B : List α → Prop) (hB : ∀ a b, B (a ++ b) → B a)
    (hput : ∀ ε3 ys l σ3 Hi H, Pe ε3 = some ys → EnvOk C.G C.xp Hi0 H0 Hi H σ3 ε3 → St l Hi H → B (l ++ ys) → ∀ Nx : Hp → Prop, (∀ Hi' H', Ex Hi Hi' → St (l ++ ys) Hi' H' → Nx H') → tp σ3 H Nx)
    {l ys : List α} (hp : (if shOn ε2 vs = true then (okO (litD C.Φ i1 ε2)).bind fun zs => catGo (fun y => (bindT t1 y (wipeE ε2 vs1)).bind fun ε3 => (okO (testsD C.Φ cs1 ε3)).bind fun tb => if tb = true then Pe ε3 else some []) zs else none) = some ys)
    (st : St l Hi3 H3) (hb : B (l ++ ys)) {Nx : Hp → Prop} (k : ∀ Hi' H', Ex Hi3 Hi' → St (l ++ ys) Hi' H' → Nx H') :
    tiU C scope tg1 it1 σ2 H3 fun J1 H4 => ∃ W1 : Nat → Nat → Hp → Prop, (∃ m, W1 0 m H4) ∧ ∀ j k H, W1 j k H → (J1.stop j H ∧ Nx H) ∨
      (J1.go j H ∧ ∃ Nx1 : Hp → Prop, (∀ H', Nx1 H' → ∃ k', k' < k ∧ W1 (j + 1) k' H') ∧ ∀ x H', J1.yld j H x H' → tgT C.X.K t1 x (wipe σ2 vs1) H' fun σ3 H5 => wipe σ3 vs1 = wipe σ2 vs1 ∧ ttU C scope ifs1 σ3 H5 fun b H6 => if b = true then tp σ3 H6 Nx1 else Nx1 H6) := by
  split at hp
  case isFalse => cases hp
  case isTrue hs =>
  simp only [Option.bind_eq_some_iff] at hp
  obtain ⟨zs, h1, h2⟩ := hp
  have h1 := okO_some h1
  rw [lit_loop] at h1
  intro s Hb Ca cl fp
  refine hl1 s Hb Ca cl fp ε2 _ h1 Hi0 H0 Hi3 H3 σ2 _ I2 fun Hi4 H4 J1 s4 w1 => ?_
  have w1 : Wk C.G H0 J1 (gdL H0 Hi4 H4) zs := w1
  exact clause (C := C) (Hib := Hi4) (Hs := H4) (ε := ε2) w1 St hst (fun l Hi H q e => rebase (base l Hi H q (ex_trans eb (ex_trans s4.i e))) I2 hw hwE hs (ex_trans s4.i e))
    (fun l Hi H q e => by
      have z := (base l Hi H q (ex_trans eb (ex_trans s4.i e))).st
      exact ⟨e, z.s, z.h⟩) Pe tp htg1 ht1 (hst _ _ _ _ _ st s4) h2
    (fun ε3 ys3 pre post σ3 Hi H p1 p2 _ _ _ I3 q Nx kk => hput ε3 ys3 _ σ3 Hi H p1 I3 q (hB _ post (by rw [p2, ← List.append_assoc, ← List.append_assoc] at hb; exact hb)) Nx kk)
    (fun Hi H e q => k Hi H (ex_trans s4.i e) q)
theorem r_sst2 {scope : Scope} {own own1 : List (Str × Nat)} {pe it it1 : Expr} {ifs ifs1 : List Expr} {t t1 : Tg} {i i1 : Epi} {cs cs1 : Eps} {x : Ep} {tg tg1 : Expr} (hi : RI C tg it i) (htg : tgIn (own.map (·.2)) t = true) (ht : ∀ s H Ca cl fp, RTs (C.blk s H scope cl Ca fp) ifs cs)
    (hl1 : ∀ s H Ca cl fp, RL (C.blk s H scope cl Ca fp) tg1 it1 i1) (htg1 : tgIn (own1.map (·.2)) t1 = true) (ht1 : ∀ s H Ca cl fp, RTs (C.blk s H scope cl Ca fp) ifs1 cs1) (he : ∀ s H Ca cl fp, RE (C.blk s H scope cl Ca fp) pe x) :
    ∀ ε o, evalD C.Φ (.sst2 t i cs t1 i1 cs1 x (own.map (·.2)) (own1.map (·.2))) ε = some o → ∀ Hi0 H0 Hi H σ (Q : VK), EnvOk C.G C.xp Hi0 H0 Hi H σ ε → GoodV C H0 Hi H σ Q o →
      tSet C.X.w (tUI C.X tg it) (tgT C.X.K t) (ttU C scope ifs) (tIn C.X.w (tiU C scope tg1 it1) (tgT C.X.K t1) (ttU C scope ifs1) (teU C scope pe) (own1.map (·.2))) (own.map (·.2)) σ H (fun v H' => rSortedSet C.X.w [v] H' Q) := by
  intro ε o h Hi0 H0 Hi H σ Q I k
  generalize own.map (·.2) = vs at *
  generalize own1.map (·.2) = vs1 at *
  simp only [evalD] at h
  rcases rb_some h with ⟨c, ns, ds, h1, rfl⟩ | ⟨xs, h1, h2⟩
  · exact hi ε _ h1 Hi0 H0 Hi H σ _ I k
  split at h2
  case isFalse => cases h2
  case isTrue hlen =>
  obtain ⟨r, h3, rfl⟩ := rl_some h2
  simp only [Option.bind_eq_some_iff] at h3
  obtain ⟨zs, h4, h5⟩ := h3
  split at h5
  case isFalse => cases h5
  case isTrue h64 =>
  cases h5
  refine hi ε _ h1 Hi0 H0 Hi H σ _ I fun Hi1 H1 J s1 w D hD => ?_
  have I1 := I.step s1
  have base : ∀ l Hi2 H2, StI C Hi1 H1 D l Hi2 H2 → Ex Hi1 Hi2 → EnvOk C.G C.xp Hi0 H0 Hi2 H2 σ ε := fun l Hi2 H2 st _ => I1.step st.1
  exact clause w (StI C Hi1 H1 D) StI.step base (fun l Hi2 H2 st _ => ⟨st.1.i, st.1.s, st.1.h⟩) _ _ htg ht (l0 := []) (zs := zs)
    ⟨Step.own s1.s hD, by rw [upd_same]; rfl, Evl.fresh_back s1.s hD⟩ h4
    (fun ε2 ys pre post σ2 Hi2 H2 p1 p2 hw hwE eb I2 st Nx kk => inner_ok (StI C Hi1 H1 D) StI.step base hw hwE eb I2 hl1 htg1 ht1 (elI C.Φ x) (tPut C.X.w (teU C scope pe) D) (fun l => (uniqI l).length < 64)
      (fun a b z => Nat.lt_of_le_of_lt (uniq_app a b) z) (fun ε3 ys3 l σ3 Hi3 H3 q1 I3 q2 q3 Nx3 k3 => putI_ok he q1 I3 hD q2 (by have := uniq_app l ys3; omega) k3) p1 st (by
        have a1 := uniq_app ([] ++ pre ++ ys) post
        rw [List.nil_append, ← p2] at a1
        rw [List.nil_append]; omega) kk)
    (fun Hi2 H2 _ st => sorted_end I s1 (by simpa using st) h64 k)
/-! ### lists -/
def StL (C : Ctx) (Hi1 H1 : Hp) (D : Addr) (l : List EG.D) (Hi H : Hp) : Prop := Step Hi1 H1 Hi H ∧ (∃ acc, H D = some (.lst acc) ∧ RepL C.G Hi l acc) ∧ Hi D = none
theorem StL.step {Hi1 H1 : Hp} {D : Addr} (l : List EG.D) (Hi H Hi' H' : Hp) (h : StL C Hi1 H1 D l Hi H) (s : Step Hi H Hi' H') : StL C Hi1 H1 D l Hi' H' := by
  obtain ⟨h1, ⟨acc, h2, h3⟩, h4⟩ := h
  exact ⟨h1.trans s, ⟨acc, s.h _ _ h2, RepL.mono s.i _ _ h3⟩, s.n D (by rw [h2]; exact fun z => nomatch z) h4⟩
def elK (Φ : Fns) (e : Ep) (ε : Env) : Option (List D) := (okO (evalD Φ e ε)).bind fun r => r.keep.map fun d => [d]
def tPutL (te : TE) (D : Addr) (σ : L2.St) (H : Hp) (Nx : Hp → Prop) : Prop := te σ H fun y H7 => ∃ acc, H7 D = some (.lst acc) ∧ acc.length < sizeLine ∧ Nx (upd H7 D (.lst (acc ++ [y])))
theorem putL_ok {scope : Scope} {pe : Expr} {e : Ep} (he : ∀ s H Ca cl fp, RE (C.blk s H scope cl Ca fp) pe e) {Hi0 H0 Hi1 H1 Hi H : Hp} {D : Addr} {σ2 : L2.St} {ε2 : Env} {l ys : List EG.D} (hel : elK C.Φ e ε2 = some ys) (I2 : EnvOk C.G C.xp Hi0 H0 Hi H σ2 ε2) (h1 : H1 D = none)
    (st : StL C Hi1 H1 D l Hi H) (hb : l.length < sizeLine) {Nx : Hp → Prop} (k : ∀ Hi' H', Ex Hi Hi' → StL C Hi1 H1 D (l ++ ys) Hi' H' → Nx H') : tPutL (teU C scope pe) D σ2 H Nx := by
  unfold elK at hel
  simp only [Option.bind_eq_some_iff, Option.map_eq_some_iff] at hel
  obtain ⟨r, h2, d, h3, rfl⟩ := hel
  have h2 := okO_some h2
  intro s Hb Ca cl fp
  refine he s Hb Ca cl fp ε2 _ h2 Hi0 H0 Hi H σ2 _ I2 fun Hi3 H3 y s3 o3 => ?_
  obtain ⟨Hi4, e4, s5, r4⟩ := o3.keep s3 h3
  obtain ⟨g1, ⟨acc, g2, g5⟩, g3⟩ := StL.step l _ _ _ _ st s5
  have hla : acc.length < sizeLine := by rw [← g5.length]; exact hb
  refine ⟨acc, g2, hla, k Hi4 _ s5.i ⟨⟨g1.i, Evl.Ex.mut g1.h h1, Evl.Ex.mut g1.s g3, g1.n⟩, ⟨acc ++ [y], upd_same, g5.append (RepL.cons r4 rfl)⟩, g3⟩⟩
theorem r_lc2 {scope : Scope} {own own1 : List (Str × Nat)} {pe it it1 : Expr} {ifs ifs1 : List Expr} {t t1 : Tg} {i i1 : Epi} {cs cs1 : Eps} {x : Ep} {tg tg1 : Expr} (hi : RI C tg it i) (htg : tgIn (own.map (·.2)) t = true) (ht : ∀ s H Ca cl fp, RTs (C.blk s H scope cl Ca fp) ifs cs)
    (hl1 : ∀ s H Ca cl fp, RL (C.blk s H scope cl Ca fp) tg1 it1 i1) (htg1 : tgIn (own1.map (·.2)) t1 = true) (ht1 : ∀ s H Ca cl fp, RTs (C.blk s H scope cl Ca fp) ifs1 cs1) (he : ∀ s H Ca cl fp, RE (C.blk s H scope cl Ca fp) pe x) :
    ∀ ε o, evalD C.Φ (.lc2 t i cs t1 i1 cs1 x (own.map (·.2)) (own1.map (·.2))) ε = some o → ∀ Hi0 H0 Hi H σ (Q : VK), EnvOk C.G C.xp Hi0 H0 Hi H σ ε → GoodV C H0 Hi H σ Q o →
      tLc2 (tUI C.X tg it) (tgT C.X.K t) (ttU C scope ifs) (tiU C scope tg1 it1) (tgT C.X.K t1) (ttU C scope ifs1) (teU C scope pe) (own.map (·.2)) (own1.map (·.2)) σ H Q := by
  intro ε o h Hi0 H0 Hi H σ Q I k
  generalize own.map (·.2) = vs at *
  generalize own1.map (·.2) = vs1 at *
  simp only [evalD] at h
  rcases rb_some h with ⟨c, ns, ds, h1, rfl⟩ | ⟨xs, h1, h2⟩
  · exact hi ε _ h1 Hi0 H0 Hi H σ _ I k
  split at h2
  case isFalse => cases h2
  case isTrue hlen =>
  obtain ⟨r, h3, rfl⟩ := rl_some h2
  simp only [Option.bind_eq_some_iff] at h3
  obtain ⟨zs, h4, h5⟩ := h3
  split at h5
  case isFalse => cases h5
  case isTrue hz =>
  cases h5
  refine hi ε _ h1 Hi0 H0 Hi H σ _ I fun Hi1 H1 J s1 w D hD => ?_
  have I1 := I.step s1
  have base : ∀ l Hi2 H2, StL C Hi1 H1 D l Hi2 H2 → Ex Hi1 Hi2 → EnvOk C.G C.xp Hi0 H0 Hi2 H2 σ ε := fun l Hi2 H2 st _ => I1.step st.1
  exact clause w (StL C Hi1 H1 D) StL.step base (fun l Hi2 H2 st _ => ⟨st.1.i, st.1.s, st.1.h⟩) _ _ htg ht (l0 := []) (zs := zs)
    ⟨Step.own s1.s hD, ⟨[], upd_same, rfl⟩, Evl.fresh_back s1.s hD⟩ h4
    (fun ε2 ys pre post σ2 Hi2 H2 p1 p2 hw hwE eb I2 st Nx kk => inner_ok (StL C Hi1 H1 D) StL.step base hw hwE eb I2 hl1 htg1 ht1 (elK C.Φ x) (tPutL (teU C scope pe) D) (fun l => l.length ≤ 100000)
      (fun a b z => by rw [List.length_append] at z; omega) (fun ε3 ys3 l σ3 Hi3 H3 q1 I3 q2 q3 Nx3 k3 => putL_ok he q1 I3 hD q2 (Nat.lt_of_le_of_lt (by rw [List.length_append] at q3; omega : l.length ≤ 100000) (by decide)) k3) p1 st (by
        have a1 := congrArg List.length p2
        simp only [List.length_append, List.nil_append] at a1 ⊢
        omega) kk)
    (fun Hi2 H2 _ st => by
      obtain ⟨g1, ⟨acc, g2, g3⟩, g4⟩ := st
      rw [List.nil_append] at g3
      exact k Hi2 H2 _ (s1.trans g1) ⟨[D], ⟨D, acc, [], rfl, g2, rfl, Owns.ofZero g3⟩, by simp, fun q hq => by simp at hq; subst hq; exact ⟨g4, s1.fresh hD⟩⟩)
end
end EG
namespace EG
open PySem L2 L2H
/-! ### defs and their promises -/
structure RoomE (k : Nat) (A : Around) : Prop where
  dp : A.depth + 3 * k + 5 < recursionLimit
  un : A.units + 16 * k + 200 < cLine
  gd : A.guards = some []
theorem RoomE.deeper {k : Nat} {A : Around} (r : RoomE (k + 1) A) (env : PySem.Env) : RoomE k (A.deeper env) := by
  refine ⟨?_, ?_, r.gd⟩
  · have := r.dp; show A.depth + 1 + 3 * k + 5 < recursionLimit; omega
  · have := r.un; show A.units + 3 + 16 * k + 200 < cLine; omega
theorem RoomE.depth {k : Nat} {A : Around} (r : RoomE k A) : A.depth < recursionLimit := by have := r.dp; omega
theorem RoomE.mono {k j : Nat} {A : Around} (r : RoomE k A) (h : j ≤ k) : RoomE j A := ⟨by have := r.dp; omega, by have := r.un; omega, r.gd⟩
/-- may a def be called so? -/
def HotP (hot : Bool) (A : Around) (outer : List PySem.Env) (H : Hp) (s : Shared) : Prop := A.handled = none ∨ (hot = true ∧ ∃ p, PinOk outer H s p)
structure FnE (P : Program) (w : World) (K : PySem.W.Frag) (mg : Str → Option Value) (base : Heap) (hot : Bool) (k : Nat) (f : Addr) (fd : FuncData) (ps : List Str) (sp : Sp) : Prop where
  len : ∀ vs H Q E, sp vs H Q E → vs.length = ps.length
  run : ∀ (A : Around) (outer : List PySem.Env) (s : Shared) (H : Hp) (args : Args) (us : List Value) (vs : List V) (Q : VK) (E : XK), RoomE k A → HotP hot A outer H s → Env0 P w K mg base A outer s H → BindsTo s fd args (ps.zip us) → Vals vs us → sp vs H Q E →
    codeAny (model P w) A (Code.call (Value.ref f) args) (CR (CX P w) outer P w H s Q E) s
section
variable {P : Program} {w : World} {K : PySem.W.Frag} {mg : Str → Option Value} {base : Heap} {k : Nat} {f : Addr} {name qual : Str} {params : Arguments} {body : List Stmt} {scope : Scope} {dV kV doc pm cdv ct oc : Value}
  {an od : Option Addr} {osl : Array (Option Value)} {N ps : List Str} {sp : Sp}
theorem fnE_of (lk : List.lookup f K = some { cls := oc, dict := od, data := Data.func (PySem.W.fnOf name qual params body scope dV kV doc pm an cdv ct), slots := osl }) (hcd : PySem.W.codeIn K cdv qual = true) (S : FnScope N ps scope)
    (len : ∀ vs H Q E, sp vs H Q E → vs.length = ps.length)
    (hbody : ∀ (A : Around) (outer : List PySem.Env) (s : Shared) (H : Hp) (vs : List V) (Q : VK) (E : XK), A.handled = none → RoomE k (A.deeper (PyProof.Rows.envOfC qual scope s.heap.objs.size f cdv)) → sp vs H Q E →
      ∃ t, PSs (cxOf (CX P w) P w K mg base N qual scope f cdv A outer s H E) body t ∧ t { nx := fun x H' => Q V.non H', rt := Q } (L2.start N vs) H) :
    FnE P w K mg base false (k + 1) f (PySem.W.fnOf name qual params body scope dV kV doc pm an cdv ct) ps sp := by
  refine ⟨len, fun A outer s H args us vs Q E hr hh e0 hb r hsp => ?_⟩
  have hd : A.handled = none := hh.elim id fun z => absurd z.1 (by decide)
  have hl := len vs H Q E hsp
  have KX := PySem.W.Frag.In.keeps e0.mod.kin fun b o e => (e0.bs b o e).left
  have lim := Heap.NoLimit.keeps e0.mod.nolimit fun b o e => (e0.bs b o e).left
  refine codeAny_call_function hr.depth (KX f _ lk) rfl S.co S.gen rfl (PySem.W.codeRec_of KX hcd) (hb (model P w) A.in1 _ _ ?_)
  refine wpAny_newFunctionEnv_cells S.kind ?_ fun env he s1 x => ?_
  · rintro ⟨n, v⟩ hy
    rcases S.par n (List.of_mem_zip hy).1 with q | q
    · exact .inl q
    · exact .inr ⟨q, PySem.W.cellsFrom_some scope.names (s.heap.objs.size + 1) [] (.inl q)⟩
  · subst he
    refine ⟨Heap.NoLimit.keeps lim x.toInCall.keep, codeAny_func ?_⟩
    obtain ⟨t, ht, hq⟩ := hbody A outer s H vs Q E hd (hr.deeper _) hsp
    have I := inv_start (CX := CX P w) (E := E) S hd e0 hl r x
    refine wpAny_mono (ht.run [] s1 (L2.start N vs) H _ I hq) (fun fl s' hs => ?_) (fun e s' hs => hs)
    cases fl with
    | next => obtain ⟨σ', H', J, q⟩ := hs; exact ⟨V.non, H', J.os, J.bare, J.base, J.hok, (rfl : RelV V.non Value.none), q⟩
    | ret u => obtain ⟨v, σ', H', J, rv, q⟩ := hs; exact ⟨v, H', J.os, J.bare, J.base, J.hok, rv, q⟩
    | brk => obtain ⟨σ', H', J, q⟩ := hs; exact q.elim
    | cont => obtain ⟨σ', H', J, q⟩ := hs; exact q.elim
/-- a def that may be called in an except suite, too -/
theorem fnE_ofH (lk : List.lookup f K = some { cls := oc, dict := od, data := Data.func (PySem.W.fnOf name qual params body scope dV kV doc pm an cdv ct), slots := osl }) (hcd : PySem.W.codeIn K cdv qual = true) (S : FnScope N ps scope)
    (len : ∀ vs H Q E, sp vs H Q E → vs.length = ps.length)
    (hbody : ∀ (A : Around) (outer : List PySem.Env) (s : Shared) (H : Hp) (vs : List V) (Q : VK) (E : XK), A.handled = none → RoomE k (A.deeper (PyProof.Rows.envOfC qual scope s.heap.objs.size f cdv)) → sp vs H Q E →
      ∃ t, PSs (cxOf (CX P w) P w K mg base N qual scope f cdv A outer s H E) body t ∧ t { nx := fun x H' => Q V.non H', rt := Q } (L2.start N vs) H)
    (hbodyH : ∀ (A : Around) (outer : List PySem.Env) (s : Shared) (H : Hp) (vs : List V) (Q : VK) (E : XK) (p : Addr × Obj), RoomE k (A.deeper (PyProof.Rows.envOfC qual scope s.heap.objs.size f cdv)) → sp vs H Q E →
      ∃ t, PSs (cxH (CX P w) P w K mg base N qual scope f cdv A outer s H E p) body t ∧ t { nx := fun x H' => Q V.non H', rt := Q } (L2.start N vs) H) :
    FnE P w K mg base true (k + 1) f (PySem.W.fnOf name qual params body scope dV kV doc pm an cdv ct) ps sp := by
  have F0 := fnE_of (base := base) lk hcd S len hbody
  refine ⟨len, fun A outer s H args us vs Q E hr hh e0 hb r hsp => ?_⟩
  rcases hh with hh | ⟨_, p, hpin⟩
  · exact F0.run A outer s H args us vs Q E hr (.inl hh) e0 hb r hsp
  have hl := len vs H Q E hsp
  have KX := PySem.W.Frag.In.keeps e0.mod.kin fun b o e => (e0.bs b o e).left
  have lim := Heap.NoLimit.keeps e0.mod.nolimit fun b o e => (e0.bs b o e).left
  refine codeAny_call_function hr.depth (KX f _ lk) rfl S.co S.gen rfl (PySem.W.codeRec_of KX hcd) (hb (model P w) A.in1 _ _ ?_)
  refine wpAny_newFunctionEnv_cells S.kind ?_ fun env he s1 x => ?_
  · rintro ⟨n, v⟩ hy
    rcases S.par n (List.of_mem_zip hy).1 with q | q
    · exact .inl q
    · exact .inr ⟨q, PySem.W.cellsFrom_some scope.names (s.heap.objs.size + 1) [] (.inl q)⟩
  · subst he
    refine ⟨Heap.NoLimit.keeps lim x.toInCall.keep, codeAny_func ?_⟩
    obtain ⟨t, ht, hq⟩ := hbodyH A outer s H vs Q E p (hr.deeper _) hsp
    have I := inv_startH (CX := CX P w) (E := E) S hpin e0 hl r x
    refine wpAny_mono (ht.run [] s1 (L2.start N vs) H _ I hq) (fun fl s' hs => ?_) (fun e s' hs => hs)
    cases fl with
    | next => obtain ⟨σ', H', J, q⟩ := hs; exact ⟨V.non, H', J.os, J.bare, J.base, J.hok, (rfl : RelV V.non Value.none), q⟩
    | ret u => obtain ⟨v, σ', H', J, rv, q⟩ := hs; exact ⟨v, H', J.os, J.bare, J.base, J.hok, rv, q⟩
    | brk => obtain ⟨σ', H', J, q⟩ := hs; exact q.elim
    | cont => obtain ⟨σ', H', J, q⟩ := hs; exact q.elim
end
/-! ### calls -/
/-- what a def promises: it gives what φ gives, or raises what φ raises -/
def spD (G : Gt) (φ : List Vl → Rs Vl) (n : Nat) : Sp := fun vs H Q E => vs.length = n ∧ ∃ Hi as o, φ as = some o ∧ Ex Hi H ∧ ArgsOk G Hi H as vs ∧
  (match o with
  | .ok r => ∀ Hi' H' x, Step Hi H Hi' H' → VlOk G H H Hi' H' r x → Q x H'
  | .er c ns ds => ∀ Hi' H' cls d, Step Hi H Hi' H' → ExOk G Hi' c ns ds cls d → E cls d H')
section
variable {X : Cx}
theorem run_fnE {hot : Bool} {k : Nat} {f : Addr} {fd : FuncData} {ps : List Str} {sp : Sp} {W : WX} {pins : List (Addr × Obj)} {σ : L2.St} {H : Hp} {s : Shared} {Q : VK} {us : List Value} {vs : List V} (F : FnE X.prog X.w X.K X.mg X.base hot k f fd ps sp) (hr : RoomE k X.A)
    (hh : HotP hot X.A X.stack H s) (hb : Binds X.K fd ps []) (tk : Takes X W) (I : Inv X pins σ H s) (r : Vals vs us) (h : sp vs H Q (WE W σ)) : wpAny (model X.prog X.w) X.A (call (Value.ref f) us) (EP X pins σ Q) X.xe s := by
  have hl : us.length = ps.length := by rw [← F.len vs H Q (WE W σ) h]; exact (Vals.length r).symm
  have b := hb s us (Inv.kIn I) (by rw [List.append_nil]; exact hl)
  rw [List.append_nil] at b
  refine wpAny_call (codeAny_mono (F.run X.A X.stack s H { pos := us } us vs Q (WE W σ) hr hh (Inv.env0 I) b r h) fun r s' hq => ?_)
  cases r with
  | error e => exact passAt tk σ pins H s e s' I hq
  | ok fl =>
    cases fl with
    | ret u => exact Inv.after I hq
    | next => exact hq.elim
    | brk => exact hq.elim
    | cont => exact hq.elim
def tCallE (sp : Sp) (W : WX) (t : TA) : TE := fun σ H Q => t σ H fun vs H1 => sp vs H1 Q (WE W σ)
theorem pe_callE {hot : Bool} {k : Nat} {f : Addr} {fd : FuncData} {ps : List Str} {sp : Sp} {W : WX} {x : Str} {p pos : Pos} {e : Expr} {es : List Expr} {t : TA} (F : FnE X.prog X.w X.K X.mg X.base hot k f fd ps sp) (hr : RoomE k X.A)
    (hh : ∀ pins σ H s, Inv X pins σ H s → HotP hot X.A X.stack H s) (hg : Gl X x) (hm : X.mg x = some (.ref f)) (hk : PySem.W.keepIn X.K (.ref f) = true) (hb : Binds X.K fd ps []) (tk : Takes X W) (ha : PA X (e :: es) t) (hd : (x == ("__debug__" : Str)) = false)
    (he : starEach (e :: es) X.env = (false, eval e X.env) :: starEach es X.env) (hpl : (backTo pos (starEach es X.env)).any (·.1) = false) : PE X (.Call (.Name x p) (e :: es) [] pos) (tCallE sp W t) :=
  ⟨fun pins s σ H Q I h => wpAny_Call_Name_kw (ld_glob I hg hm (PySem.W.callWith_K I.ok.mod.kin hk (thn (ha.run pos pins s σ H _ I h) fun us s1 x => by
    obtain ⟨vs, H1, I1, r, q⟩ := x
    exact ⟨Inv.kIn I1, run_fnE F hr (hh _ _ _ _ I1) hb tk I1 r q⟩) he hpl) hd)⟩
/-- a method of an object -/
def tMethE (C : Addr) (m : Str) (sp : Sp) (W : WX) (ta : TE) (t : TA) : TE := fun σ H Q => ta σ H fun x H1 => ∃ a dx fs, x = .ref a ∧ H1 a = some (.ins C dx fs) ∧ fs.lookup m = none ∧ t σ H1 fun vs H2 => sp (x :: vs) H2 Q (WE W σ)
theorem pe_methE {hot : Bool} {k : Nat} {f C : Addr} {fd : FuncData} {ps : List Str} {sp : Sp} {W : WX} {m : Str} {pos apos : Pos} {o : Expr} {es : List Expr} {ta : TE} {t : TA} {pl : Sem Bool} (he : PE X o ta) (c : Cls X.K C) (hm : Meth X.K C m f) (F : FnE X.prog X.w X.K X.mg X.base hot k f fd ps sp) (hr : RoomE k X.A)
    (hh : ∀ pins σ H s, Inv X pins σ H s → HotP hot X.A X.stack H s) (hb : Binds X.K fd ps []) (tk : Takes X W) (ha : ∀ a : Addr, ∀ σ H (Q : VK) pins s, Inv X pins σ H s → t σ H (fun vs H2 => sp (.ref a :: vs) H2 Q (WE W σ)) → wpAny (model X.prog X.w) X.A (callWith pos (.ref f) [.ref a] (backTo pos (starEach es X.env)) (backToKw pos (keywordEach [] X.env))) (EP X pins σ Q) X.xe s)
    (ht : eval ((o.Attribute m apos).Call es [] pos) X.env = do
      let ov ← eval o X.env
      standAt apos.atName
      let __x ← holding [ov] (getMethod ov m pl)
      match __x with
        | (f, first) => callWith pos f first (backTo pos (starEach es X.env)) (backToKw pos (keywordEach [] X.env))) : PE X ((o.Attribute m apos).Call es [] pos) (tMethE C m sp W ta t) := by
  refine ⟨fun pins s σ H Q I h => PySem.W.methodCall_KW (thn (he.run pins s σ H _ I h) fun u s1 x => ?_) ht⟩
  obtain ⟨x, H1, I1, rx, a, dx, fs, ex, ea, l, q⟩ := x
  subst ex
  have rx' : u = .ref a := rx
  subst rx'
  exact getmeth_ok I1 ea c hm l (ha a σ H1 Q pins s1 I1 q)
end
/-! ### new objects -/
theorem RoomE.make {k : Nat} {A : Around} (r : RoomE (k + 1) A) (C : Addr) (us : List Value) (kw : List (Str × Value)) : RoomE k (A.under (Code.builtin "type.__call__" { pos := Value.ref C :: us, kw := kw })) := by
  refine ⟨?_, ?_, ?_⟩
  · have := r.dp; rw [make_depth]; omega
  · have := r.un; rw [make_units]; omega
  · show pushGuards (Code.builtin "type.__call__" { pos := Value.ref C :: us, kw := kw }).guards A.guards = some []
    rw [r.gd]; rfl
section
variable {X : Cx}
theorem run_makeE {k : Nat} {f C : Addr} {fd : FuncData} {ps : List Str} {sp : Sp} {W : WX} {pins : List (Addr × Obj)} {σ : L2.St} {H : Hp} {s : Shared} {Q : VK} {us : List Value} {vs : List V} (M : Mk X.K C f) (F : FnE X.prog X.w X.K X.mg X.base false k f fd ps sp) (hr : RoomE (k + 1) X.A)
    (hh : X.A.handled = none) (hb : Binds X.K fd ps []) (tk : Takes X W) (I : Inv X pins σ H s) (r : Vals vs us)
    (h : ∀ x dx, H x = none → H dx = none → dx ≠ x → sp (.ref x :: vs) (upd (upd H dx (.own x)) x (.ins C dx [])) (fun v H2 => v = .non ∧ Q (.ref x) H2) (WE W σ)) : wpAny (model X.prog X.w) X.A (call (Value.ref C) us) (EP X pins σ Q) X.xe s := by
  have hq := h (s.heap.objs.size + 1) s.heap.objs.size (HOk.fresh I.hok (Nat.le_succ _)) (HOk.fresh I.hok (Nat.le_refl _)) (Nat.ne_of_lt (Nat.lt_succ_self _))
  have I2 := Inv.made (C := C) I
  have r2 : Vals (V.ref (s.heap.objs.size + 1) :: vs) (Value.ref (s.heap.objs.size + 1) :: us) := Paired.cons rfl r
  have hl : (Value.ref (s.heap.objs.size + 1) :: us).length = ps.length := by
    rw [← F.len _ _ _ _ hq]; exact (Vals.length r2).symm
  have b := hb _ (Value.ref (s.heap.objs.size + 1) :: us) (Inv.kIn I2) (by rw [List.append_nil]; exact hl)
  rw [List.append_nil] at b
  refine wpAny_call (make_map (Inv.kIn I) M.makes M.init (beq_iff_eq.mp M.fn) (codeAny_mono (F.run _ X.stack _ _ _ _ _ _ (WE W σ) (hr.make C us []) (.inl hh) (Env0.make (Inv.env0 I2) C us []) b r2 hq) fun r s' hq' => ?_))
  cases r with
  | error e => exact passAt tk σ pins _ _ e s' I2 hq'
  | ok fl =>
    cases fl with
    | ret u =>
      obtain ⟨v, H', J, rv, q⟩ := Inv.after I2 hq'
      obtain ⟨q1, q2⟩ := q
      subst q1
      exact ⟨rv, .ref (s.heap.objs.size + 1), H', J, rfl, q2⟩
    | next => exact hq'.elim
    | brk => exact hq'.elim
    | cont => exact hq'.elim
def tMakeE (C : Addr) (sp : Sp) (W : WX) (t : TA) : TE := fun σ H Q => t σ H fun vs H1 => ∀ x dx, H1 x = none → H1 dx = none → dx ≠ x → sp (.ref x :: vs) (upd (upd H1 dx (.own x)) x (.ins C dx [])) (fun v H2 => v = .non ∧ Q (.ref x) H2) (WE W σ)
theorem pe_makeE {k : Nat} {f C : Addr} {fd : FuncData} {ps : List Str} {sp : Sp} {W : WX} {x : Str} {p pos : Pos} {e : Expr} {es : List Expr} {t : TA} (M : Mk X.K C f) (F : FnE X.prog X.w X.K X.mg X.base false k f fd ps sp) (hr : RoomE (k + 1) X.A)
    (hh : X.A.handled = none) (hg : Gl X x) (hm : X.mg x = some (.ref C)) (hb : Binds X.K fd ps []) (tk : Takes X W) (ha : PA X (e :: es) t) (hd : (x == ("__debug__" : Str)) = false)
    (he : starEach (e :: es) X.env = (false, eval e X.env) :: starEach es X.env) (hpl : (backTo pos (starEach es X.env)).any (·.1) = false) : PE X (.Call (.Name x p) (e :: es) [] pos) (tMakeE C sp W t) :=
  ⟨fun pins s σ H Q I h => wpAny_Call_Name_kw (ld_glob I hg hm (PySem.W.callWith_K I.ok.mod.kin M.kp (thn (ha.run pos pins s σ H _ I h) fun us s1 x => by
    obtain ⟨vs, H1, I1, r, q⟩ := x
    exact ⟨Inv.kIn I1, run_makeE M F hr hh hb tk I1 r q⟩) he hpl) hd)⟩
end
end EG
namespace EG
open PySem L2 L2H
section
variable {C : Ctx} {pe pa pb pc : Expr} {a b c : Ep} {pos : Pos}
def noStars (es : List Expr) : Bool := es.all fun e => !isStar e
theorem stars_no {env : PySem.Env} : ∀ {es : List Expr}, noStars es = true → (backTo pos (starEach es env)).any (·.1) = false
  | [], _ => rfl
  | e :: es, h => by
    unfold noStars at h
    rw [List.all_cons, Bool.and_eq_true] at h
    have h1 : isStar e = false := by simpa using h.1
    rw [star_no h1]
    show (false || (backTo pos (starEach es env)).any (·.1)) = false
    rw [Bool.false_or]
    exact stars_no h.2
theorem noStars_cons {e : Expr} {es : List Expr} (hs : noStars (e :: es) = true) : isStar e = false ∧ noStars es = true := by
  unfold noStars at hs ⊢
  rw [List.all_cons, Bool.and_eq_true] at hs
  exact ⟨by simpa using hs.1, hs.2⟩
theorem cr0 {X : Cx} {f : Value} : CallR X f (fun _ _ _ => False) := fun _ _ _ _ _ _ _ _ _ z => z.elim
theorem r_bi (hk : C.X.K = C.G.K) (hgd : C.X.A.guards = some []) (hu : C.X.A.units + 65 < cLine) {x : Str} {bi : BI} (hc : needCalm bi = true → C.X.calm = true) {e : Expr} {es : List Expr} {as : Eps} {p : Pos} (hb : biName x = some bi) (hg : Gl C.X x) (hm : C.X.mg x = none) (hx : x ≠ "__name__") (hd : (x == ("__debug__" : Str)) = false) (hs : noStars (e :: es) = true)
    (ha : RA C (e :: es) as) : RE C (.Call (.Name x p) (e :: es) [] pos) (.bi bi as) := by
  intro ε o h Hi0 H0 Hi H σ Q I k
  simp only [evalD] at h
  obtain ⟨bt, ng⟩ := biName_boot hb
  obtain ⟨s1, s2⟩ := noStars_cons hs
  have fin : ∀ rr, CallR C.X (biV bi) rr → tCB rr (tUA C.X (e :: es)) σ H Q → tU C.X (.Call (.Name x p) (e :: es) [] pos) σ H Q := fun rr ho go => by
    cases bi <;> first
      | exact absurd rfl ng
      | exact tU_of (pe_callB ho hg hm bt paU hx hd (star_no s1) (stars_no s2)) go
      | exact tU_of (pe_callTy ho hg hm bt paU hx hd (star_no s1) (stars_no s2)) go
  rcases rb_some h with ⟨c, ns, ds, h1, rfl⟩ | ⟨rs, h1, h2⟩
  · exact fin _ cr0 (ha ε _ h1 Hi0 H0 Hi H σ _ I k)
  · obtain ⟨r, h3, rfl⟩ := rl_some h2
    obtain ⟨rr, ho, hr⟩ := biD_ok hk hgd hu hc h3
    exact fin rr ho (ha ε _ h1 Hi0 H0 Hi H σ _ I fun Hi' H' xs s o => hr H0 _ _ _ _ s.s (I.step s).st.h o fun Hi2 H2 z s3 o3 => k Hi2 H2 z (s.trans s3) (o3.back s.h))
/-- gcd, brought in by name -/
theorem r_gcd (hk : C.X.K = C.G.K) (hgd : C.X.A.guards = some []) (hu : C.X.A.units + 65 < cLine) {x : Str} {e : Expr} {es : List Expr} {as : Eps} {p : Pos} (hg : Gl C.X x) (hm : C.X.mg x = some (.builtin "math.gcd")) (hd : (x == ("__debug__" : Str)) = false) (hs : noStars (e :: es) = true)
    (ha : RA C (e :: es) as) : RE C (.Call (.Name x p) (e :: es) [] pos) (.bi .gcd as) := by
  intro ε o h Hi0 H0 Hi H σ Q I k
  simp only [evalD] at h
  obtain ⟨s1, s2⟩ := noStars_cons hs
  rcases rb_some h with ⟨c, ns, ds, h1, rfl⟩ | ⟨rs, h1, h2⟩
  · exact tU_of (pe_callBfun cr0 hg hm paU hd (star_no s1) (stars_no s2)) (ha ε _ h1 Hi0 H0 Hi H σ _ I k)
  · obtain ⟨r, h3, rfl⟩ := rl_some h2
    obtain ⟨rr, ho, hr⟩ := biD_ok hk hgd hu (b := .gcd) (fun z => nomatch z) h3
    exact tU_of (pe_callBfun ho hg hm paU hd (star_no s1) (stars_no s2)) (ha ε _ h1 Hi0 H0 Hi H σ _ I fun Hi' H' xs s o => hr H0 _ _ _ _ s.s (I.step s).st.h o fun Hi2 H2 z s3 o3 => k Hi2 H2 z (s.trans s3) (o3.back s.h))
structure FnI (C : Ctx) (hot : Bool) (φ : List Vl → Rs Vl) (x : Str) : Prop where
  ex : ∃ (k : Nat) (fa : Addr) (fd : FuncData) (ps : List Str), C.X.mg x = some (.ref fa) ∧ PySem.W.keepIn C.X.K (.ref fa) = true ∧ Binds C.X.K fd ps [] ∧ RoomE k C.X.A ∧ FnE C.X.prog C.X.w C.X.K C.X.mg C.X.base hot k fa fd ps (spD C.G φ ps.length) ∧ (∀ as o, φ as = some o → as.length = ps.length) ∧ ∀ as r, φ as = some (.ok r) → ∀ m d, r ≠ .bo m d
/-- a call's promise, by what the small program gives -/
theorem spD_of {φ : List Vl → Rs Vl} {n : Nat} {Hi H : Hp} {H0 : Hp} {as : List Vl} {o : Rz Vl} {xs : List V} {σ : L2.St} {Q : VK} (h : φ as = some o) (hl : ∀ as o, φ as = some o → as.length = n) (s : Ex Hi H) (ha : ArgsOk C.G Hi H as xs) (nb : ∀ r, o = .ok r → ∀ m d, r ≠ .bo m d) (k : GoodV C H0 Hi H σ Q o) : spD C.G φ n xs H Q (WE C.W σ) := by
  refine ⟨by rw [← ha.length]; exact hl as o h, Hi, as, o, h, s, ha, ?_⟩
  cases o with
  | ok r =>
    refine fun Hi' H' x s2 o2 => k Hi' H' x s2 ?_
    match r, o2, nb r rfl with
    | .sh d, o2, _ => exact o2
    | .fr m d, o2, _ => exact o2
    | .bo m d, o2, nb => exact absurd rfl (nb m d)
    | .us m d, o2, _ => exact o2
  | er c ns ds => exact fun Hi' H' cls d s2 e => k Hi' H' cls d s2 e
theorem calm_hot {X : Cx} {hot : Bool} (hc : X.calm = true) : ∀ pins σ H s, Inv X pins σ H s → HotP hot X.A X.stack H s := fun pins σ H s I => .inl (I.ok.hd hc)
theorem r_call {hot : Bool} (tk : Takes C.X C.W) (hh : ∀ pins σ H s, Inv C.X pins σ H s → HotP hot C.X.A C.X.stack H s) {x : Str} {f : Nat} {e : Expr} {es : List Expr} {as : Eps} {p : Pos} (F : FnI C hot (C.Φ.call f) x) (hg : Gl C.X x) (hd : (x == ("__debug__" : Str)) = false) (hs : noStars (e :: es) = true)
    (ha : RA C (e :: es) as) : RE C (.Call (.Name x p) (e :: es) [] pos) (.call f as) := by
  intro ε o h Hi0 H0 Hi H σ Q I k
  simp only [evalD] at h
  obtain ⟨lv, fa, fd, ps, hm, hk, hb, hr, F, hl, hnb⟩ := F.ex
  obtain ⟨s1, s2⟩ := noStars_cons hs
  refine tU_of (pe_callE F hr hh hg hm hk hb tk paU hd (star_no s1) (stars_no s2)) (unA ha h I (erV k) fun rs h1 Hi1 H1 xs s3 I1 o1 => ?_)
  exact spD_of h1 hl s3.s o1 (fun r z => hnb _ _ (by rw [← z]; exact h1)) (k.step s3)
/-! attributes -/
structure ClI (C : Ctx) (c : Nat) : Prop where
  cls : Cls C.X.K (C.G.cl c)
theorem lookup_zip : ∀ {ns : List Str} {ds : List D} {vs : List V} {G : Gt} {Hi H : Hp} {n : Nat} {f : Str} {d : D}, Bors G Hi H n ds vs → ns.length = ds.length → (ns.zip ds).lookup f = some d → ∃ (v : V) (j : Nat), (ns.zip vs).lookup f = some v ∧ ds[j]? = some d ∧ vs[j]? = some v
  | [], ds, vs, G, Hi, H, n, f, d, hb, hl, h => by simp at h
  | m :: ns, [], vs, G, Hi, H, n, f, d, hb, hl, h => by simp at h
  | m :: ns, e :: ds, vs, G, Hi, H, n, f, d, hb, hl, h => by
    obtain ⟨v, vs', rfl, h2, h3⟩ := hb
    simp only [List.zip_cons_cons, List.lookup] at h ⊢
    split at h
    · rename_i hfm
      cases h
      exact ⟨v, 0, rfl, rfl, rfl⟩
    · rename_i hfm
      obtain ⟨w, j, g1, g2, g3⟩ := lookup_zip h3 (by simpa using hl) h
      exact ⟨w, j + 1, g1, by simpa using g2, by simpa using g3⟩
/-- an attribute of an object, as its holder holds it -/
theorem fld_ok {G : Gt} {H0 Hb Hi H : Hp} (s : Ex Hi H) (s0 : Ex H0 H) {x q : Vl} {u : V} {c : Nat} {ns : List Str} {ds : List D} {f : Str} {al : List Nat} (o : VlOk G H0 Hb Hi H x u) (e : x.d = .obj c ns ds) (h : fldD al x f = some q) :
    al.contains c = true ∧ ∃ a dx fs v, u = .ref a ∧ H a = some (.ins (G.cl c) dx fs) ∧ fs.lookup f = some v ∧ VlOk G H0 H Hi H q v := by
  unfold fldD at h
  rw [e] at h
  simp only at h
  split at h
  case isFalse => cases h
  case isTrue hal =>
  simp only [Option.bind_eq_some_iff] at h
  obtain ⟨d, h1, h2⟩ := h
  refine ⟨hal, ?_⟩
  have key : ∀ (Hc : Hp) (n : Nat), Ex Hc H → Bor G Hi Hc n x.d u → ∃ a dx fs v, u = .ref a ∧ H a = some (.ins (G.cl c) dx fs) ∧ fs.lookup f = some v ∧ (¬ (n ≤ 1 ∨ flatD d = true) → Bor G Hi Hc (n - 1) d v) ∧ ((n ≤ 1 ∨ flatD d = true) → Rep G Hi d v) := fun Hc n sc hb => by
    rw [e] at hb
    cases n with
    | zero =>
      unfold Bor at hb
      obtain ⟨a, dx, vs, e1, e2, hl, e3⟩ := hb
      obtain ⟨v, j, g1, g2, g3⟩ := lookup_zip (Bors.of s 0 _ _ e3) hl h1
      obtain ⟨v', g4, g5⟩ := e3.get g2
      rw [g3] at g4; cases g4
      exact ⟨a, dx, _, v, e1, s _ _ e2, g1, fun z => absurd (.inl (Nat.zero_le _)) z, fun _ => g5⟩
    | succ n =>
      obtain ⟨a, dx, vs, e1, e2, hl, e3⟩ := hb
      obtain ⟨v, j, g1, g2, g3⟩ := lookup_zip e3 hl h1
      obtain ⟨v', g4, g5⟩ := e3.get g2
      rw [g3] at g4; cases g4
      refine ⟨a, dx, _, v, e1, sc _ _ e2, g1, fun _ => g5, fun z => ?_⟩
      rcases z with z | z
      · obtain rfl : n = 0 := by omega
        unfold Bor at g5; exact g5
      · exact g5.flat z
  match x, o, h2, key with
  | .sh d', o, h2, key =>
    cases h2
    obtain ⟨a, dx, fs, v, a1, a2, a3, _, a5⟩ := key H 0 (Evl.Ex.refl _) (by unfold Bor; exact o)
    exact ⟨a, dx, fs, v, a1, a2, a3, a5 (.inl (Nat.zero_le _))⟩
  | .fr n d', ⟨fp, o1, _, _⟩, h2, key =>
    obtain ⟨a, dx, fs, v, a1, a2, a3, a4, a5⟩ := key H n (Evl.Ex.refl _) (Own.bor s n d' u fp o1)
    refine ⟨a, dx, fs, v, a1, a2, a3, ?_⟩
    simp only [Vl.part, Option.some.injEq] at h2
    subst h2
    split
    · rename_i hz; exact a5 hz
    · rename_i hz; exact a4 hz
  | .bo n d', o, h2, key =>
    obtain ⟨a, dx, fs, v, a1, a2, a3, a4, a5⟩ := key H0 n s0 o
    refine ⟨a, dx, fs, v, a1, a2, a3, ?_⟩
    simp only [Vl.part, Option.some.injEq] at h2
    subst h2
    split
    · rename_i hz; exact a5 hz
    · rename_i hz; exact a4 hz
  | .us n d', o, h2, key =>
    obtain ⟨a, dx, fs, v, a1, a2, a3, a4, a5⟩ := key H n (Evl.Ex.refl _) o
    refine ⟨a, dx, fs, v, a1, a2, a3, ?_⟩
    simp only [Vl.part, Option.some.injEq] at h2
    subst h2
    split
    · rename_i hz; exact a5 hz
    · rename_i hz; exact a4 hz
theorem r_fld (hk : C.X.K = C.G.K) {f : Str} {al : List Nat} (ha : RE C pa a) (hc : ∀ c, al.contains c = true → Cls C.X.K (C.G.cl c) ∧ NoAttr C.X.K (C.G.cl c) f) (hb : attributeBase pa f C.X.env (eval pa C.X.env) = eval pa C.X.env) : RE C (.Attribute pa f pos) (.fld al a f) := by
  intro ε o h Hi0 H0 Hi H σ Q I k
  simp only [evalD] at h
  refine tU_of (pe_fld peU hb) (un1 ha h I (erV k) fun x h1 Hi1 H1 u s1 I1 e0 o1 => ?_)
  obtain ⟨q, h2, rfl⟩ := rl_some h1
  obtain ⟨c, ns, ds, e⟩ : ∃ c ns ds, x.d = .obj c ns ds := by
    unfold fldD at h2
    split at h2
    · rename_i e; exact ⟨_, _, _, e⟩
    · cases h2
  obtain ⟨hal, a', dx, fs, v, a1, a2, a3, a4⟩ := fld_ok s1.s e0 o1 e h2
  exact ⟨a', _, dx, fs, v, a1, a2, (hc c hal).1, (hc c hal).2, a3, k Hi1 H1 v s1 (a4.back s1.h)⟩
/-! methods -/
structure MeI (C : Ctx) (hot : Bool) (c : Nat) (m : Str) (φ : List Vl → Rs Vl) : Prop where
  cls : Cls C.X.K (C.G.cl c)
  ex : ∃ (k : Nat) (fa : Addr) (fd : FuncData) (ps : List Str), Meth C.X.K (C.G.cl c) m fa ∧ Binds C.X.K fd ps [] ∧ RoomE k C.X.A ∧ FnE C.X.prog C.X.w C.X.K C.X.mg C.X.base hot k fa fd ps (spD C.G φ ps.length) ∧ (∀ as o, φ as = some o → as.length = ps.length) ∧ ∀ as r, φ as = some (.ok r) → ∀ m d, r ≠ .bo m d
theorem pe_methN {X : Cx} {m : Str} {pos apos : Pos} {o : Expr} {es : List Expr} {ta : TE} {pl : Sem Bool} (he : PE X o ta)
    (ht : eval ((o.Attribute m apos).Call es [] pos) X.env = do
      let ov ← eval o X.env
      standAt apos.atName
      let __x ← holding [ov] (getMethod ov m pl)
      match __x with
        | (f, first) => callWith pos f first (backTo pos (starEach es X.env)) (backToKw pos (keywordEach [] X.env))) : PE X ((o.Attribute m apos).Call es [] pos) (fun σ H Q => ta σ H fun _ _ => False) := by
  refine ⟨fun pins s σ H Q I h => PySem.W.methodCall_KW (thn (he.run pins s σ H _ I h) fun u s1 x => ?_) ht⟩
  obtain ⟨x, H1, I1, rx, q⟩ := x
  exact q.elim
theorem not_in_zip {m : Str} : ∀ {ns : List Str} {vs : List V}, ns.contains m = false → (ns.zip vs).lookup m = none
  | [], vs, _ => rfl
  | n :: ns, [], _ => rfl
  | n :: ns, v :: vs, h => by
    rw [List.contains_cons, Bool.or_eq_false_iff] at h
    simp only [List.zip_cons_cons, List.lookup, h.1]
    exact not_in_zip h.2
theorem r_mth {hot : Bool} (hk : C.X.K = C.G.K) (tk : Takes C.X C.W) (hh : ∀ pins σ H s, Inv C.X pins σ H s → HotP hot C.X.A C.X.stack H s) {m : Str} {apos : Pos} {es : List Expr} {as : Eps} {pl : Sem Bool} (hM : ∀ c f, C.Φ.meth c m = some f → MeI C hot c m (C.Φ.call f)) (hs : noStars es = true)
    (ha : RE C pa a) (hr : RA C es as) (hst : ∃ e r, es = e :: r)
    (ht : eval ((pa.Attribute m apos).Call es [] pos) C.X.env = do
      let ov ← eval pa C.X.env
      standAt apos.atName
      let __x ← holding [ov] (getMethod ov m pl)
      match __x with
        | (f, first) => callWith pos f first (backTo pos (starEach es C.X.env)) (backToKw pos (keywordEach [] C.X.env))) : RE C (.Call (.Attribute pa m apos) es [] pos) (.mth m a as) := by
  intro ε o h Hi0 H0 Hi H σ Q I k
  simp only [evalD] at h
  rcases rb_some h with ⟨c, ns, ds, h1, rfl⟩ | ⟨x, h1, h2⟩
  · exact tU_of (pe_methN peU ht) (ha ε _ h1 Hi0 H0 Hi H σ _ I k)
  · obtain ⟨⟨f, x'⟩, h3, h4⟩ := rbl_some h2
    unfold methD at h3
    split at h3
    · rename_i c ns ds e
      split at h3
      · cases h3
      · rename_i hnc
        simp only [Option.bind_eq_some_iff, Option.map_eq_some_iff] at h3
        obtain ⟨f', h5, x'', h6, h7⟩ := h3
        cases h7
        obtain ⟨cls, lv, fa, fd, ps, me, hb, hrm, F, hl, hnb⟩ := hM c f h5
        have ha2 : ∀ a : Addr, ∀ σ H (Q : VK) pins s, Inv C.X pins σ H s → (tUA C.X es) σ H (fun vs H2 => spD C.G (C.Φ.call f) ps.length (.ref a :: vs) H2 Q (WE C.W σ)) → wpAny (model C.X.prog C.X.w) C.X.A (callWith pos (.ref fa) [.ref a] (backTo pos (starEach es C.X.env)) (backToKw pos (keywordEach [] C.X.env))) (EP C.X pins σ Q) C.X.xe s := by
          intro a σ H Q pins s I h
          obtain ⟨e, r, rfl⟩ := hst
          obtain ⟨s1, s2⟩ := noStars_cons hs
          exact PySem.W.callWith_K I.ok.mod.kin me.kp (thn (h pos pins s I) fun us s2 x => by
            obtain ⟨vs, H2, I2, r, q2⟩ := x
            exact ⟨Inv.kIn I2, run_fnE F hrm (hh _ _ _ _ I2) hb tk I2 (vs := .ref a :: vs) (Paired.cons (rfl : RelV (.ref a) (.ref a)) r) q2⟩) (star_no s1) (stars_no s2)
        refine tU_of (pe_methE peU cls me F hrm hh hb tk ha2 ht) (ha ε _ h1 Hi0 H0 Hi H σ _ I fun Hi1 H1 u s1 o1 => ?_)
        have I1 := I.step s1
        have q := o1.rep s1.s I1.st.h
        rw [e] at q
        obtain ⟨a', dx, vs, rfl, e2, el, e3⟩ := q
        refine ⟨a', dx, _, rfl, e2, not_in_zip (by simpa using hnc), ?_⟩
        obtain ⟨Hi2, s2, o2⟩ := o1.arg s1 I1.st.h h6
        refine unA hr h4 (I.step s2) (erStep s2 (erV k)) fun rs h8 Hi3 H3 xs s3 I3 o3 => ?_
        exact spD_of (as := x' :: rs) h8 hl s3.s ⟨_, xs, rfl, o2.step s3, o3⟩ (fun r z => hnb _ _ (by rw [← z]; exact h8)) (k.step (s2.trans s3))
    · cases h3
theorem r_mth0 {hot : Bool} (hk : C.X.K = C.G.K) (tk : Takes C.X C.W) (hh : ∀ pins σ H s, Inv C.X pins σ H s → HotP hot C.X.A C.X.stack H s) {m : Str} {apos : Pos} {pl : Sem Bool} (hM : ∀ c f, C.Φ.meth c m = some f → MeI C hot c m (C.Φ.call f))
    (ha : RE C pa a)
    (ht : eval ((pa.Attribute m apos).Call [] [] pos) C.X.env = do
      let ov ← eval pa C.X.env
      standAt apos.atName
      let __x ← holding [ov] (getMethod ov m pl)
      match __x with
        | (f, first) => callWith pos f first (backTo pos (starEach [] C.X.env)) (backToKw pos (keywordEach [] C.X.env))) : RE C (.Call (.Attribute pa m apos) [] [] pos) (.mth m a .nil) := by
  intro ε o h Hi0 H0 Hi H σ Q I k
  simp only [evalD, argsD] at h
  rcases rb_some h with ⟨c, ns, ds, h1, rfl⟩ | ⟨x, h1, h2⟩
  · exact tU_of (pe_methN peU ht) (ha ε _ h1 Hi0 H0 Hi H σ _ I k)
  · obtain ⟨⟨f, x'⟩, h3, h4⟩ := rbl_some h2
    unfold methD at h3
    split at h3
    · rename_i c ns ds e
      split at h3
      · cases h3
      · rename_i hnc
        simp only [Option.bind_eq_some_iff, Option.map_eq_some_iff] at h3
        obtain ⟨f', h5, x'', h6, h7⟩ := h3
        cases h7
        obtain ⟨cls, lv, fa, fd, ps, me, hb, hrm, F, hl, hnb⟩ := hM c f h5
        have ha2 : ∀ a : Addr, ∀ σ H (Q : VK) pins s, Inv C.X pins σ H s → tNil σ H (fun vs H2 => spD C.G (C.Φ.call f) ps.length (.ref a :: vs) H2 Q (WE C.W σ)) → wpAny (model C.X.prog C.X.w) C.X.A (callWith pos (.ref fa) [.ref a] (backTo pos (starEach [] C.X.env)) (backToKw pos (keywordEach [] C.X.env))) (EP C.X pins σ Q) C.X.xe s := by
          intro a σ H Q pins s I h
          exact PySem.W.callWith_K0 (Inv.kIn I) me.kp (run_fnE F hrm (hh _ _ _ _ I) hb tk I (vs := [.ref a]) (Paired.cons (rfl : RelV (.ref a) (.ref a)) Paired.nil) h)
        refine tU_of (pe_methE peU cls me F hrm hh hb tk ha2 ht) (ha ε _ h1 Hi0 H0 Hi H σ _ I fun Hi1 H1 u s1 o1 => ?_)
        have I1 := I.step s1
        have q := o1.rep s1.s I1.st.h
        rw [e] at q
        obtain ⟨a', dx, vs, rfl, e2, el, e3⟩ := q
        refine ⟨a', dx, _, rfl, e2, not_in_zip (by simpa using hnc), ?_⟩
        obtain ⟨Hi2, s2, o2⟩ := o1.arg s1 I1.st.h h6
        have h8 : C.Φ.call f [x'] = some o := h4
        exact spD_of (as := [x']) h8 hl s2.s ⟨_, [], rfl, o2, rfl⟩ (fun r z => hnb _ _ (by rw [← z]; exact h8)) (k.step s2)
    · cases h3
end
end EG
namespace EG
open PySem L2 L2H
section
variable {C : Ctx} {pe pa pb pc : Expr} {a b c : Ep} {pos : Pos}
/-! isinstance of built-in types -/
def tyName (x : Str) : Option TyN :=
  if x = "int" then some .int else if x = "bool" then some .bool else if x = "list" then some .list else if x = "tuple" then some .tuple else if x = "str" then some .str else if x = "dict" then some .dict else none
def tyNS : TyN → String
  | .int => "int" | .bool => "bool" | .list => "list" | .tuple => "tuple" | .str => "str" | .dict => "dict"
def tyD : D → String
  | .non => "NoneType" | .bl _ => "bool" | .int _ => "int" | .str _ => "str" | .lst _ => "list" | .tup _ => "tuple" | .scr _ => "list" | .dct _ _ => "dict" | .obj _ _ _ => ""
theorem isi_kit {t : TyN} {d : D} {b : Bool} (h : isiD t d = some b) : kitB (tyD d) (tyNS t) = some b := by
  cases d
  case dct ks xs => cases ks <;> cases t <;> simp only [isiD, Option.some.injEq] at h <;> first | (cases h; done) | (subst h; simp only [tyD, tyNS]; decide +kernel)
  all_goals (cases t <;> simp only [isiD, Option.some.injEq] at h <;> first | (cases h; done) | (subst h; simp only [tyD, tyNS]; decide +kernel))
theorem tyName_boot {x : Str} {t : TyN} (h : tyName x = some t) : bootBuiltins x = some (.type (tyNS t)) := by
  unfold tyName at h
  repeat' split at h
  all_goals first
    | (cases h; done)
    | (rename_i hx; cases h; rw [hx]; decide +kernel)
theorem ty_of {G : Gt} {H0 Hb Hi H : Hp} {r : Vl} {x : V} {b : Bool} {t : TyN} (e : Ex Hi H) (e0 : Ex H0 H) (h : VlOk G H0 Hb Hi H r x) (hn : isiD t r.d = some b) : TyX G.K H x (.type (tyD r.d)) := by
  have q := h.rep e e0
  generalize er : r.d = d at hn q
  cases d with
  | non => rw [show x = .non from q]; exact .base .non
  | bl b => rw [show x = .bl b from q]; exact .base (.bl b)
  | int b => rw [show x = .int b from q]; exact .base (.int b)
  | str b => rw [show x = .str b from q]; exact .base (.str b)
  | lst xs => obtain ⟨p, vs, rfl, h2, _⟩ := q; exact .base (.lst h2)
  | tup xs => obtain ⟨p, vs, rfl, h2, _⟩ := q; exact .base (.tup h2)
  | scr ns => cases t <;> cases hn
  | dct ks xs =>
    cases ks with
    | k ks => obtain ⟨p, vs, rfl, h2, _⟩ := q; exact .base (.dK h2)
    | t ks => cases t <;> cases hn
  | obj c ns xs => cases t <;> cases hn
theorem r_isi (hk : C.X.K = C.G.K) {t : Str} {ty : TyN} {p p2 : Pos} (ht : tyName t = some ty) (hg : Gl C.X "isinstance") (hm : C.X.mg "isinstance" = none) (hg2 : Gl C.X t) (hm2 : C.X.mg t = none) (htn : t ≠ "__name__") (htd : (t == ("__debug__" : Str)) = false) (hs : isStar pa = false)
    (ha : RE C pa a) : RE C (.Call (.Name "isinstance" p) [pa, .Name t p2] [] pos) (.isi ty a) := by
  intro ε o h Hi0 H0 Hi H σ Q I k
  simp only [evalD] at h
  refine tU_of (pe_callB call_isi hg hm (by decide +kernel) (pa_cons peU (pa_cons (pe_bltn (v := .ty (tyNS ty)) hg2 hm2 (tyName_boot ht) rfl htn htd) pa_nil) (star_no hs)) (by decide) (by decide) (star_no hs) rfl)
    (un1 ha h I (erV k) fun x h1 Hi1 H1 u s1 I1 e0 o1 => ?_)
  obtain ⟨b, h2, h3⟩ := rbl_some h1
  cases rp_some h3
  refine ⟨u, .ty (tyNS ty), .type (tyD x.d), .type (tyNS ty), b, rfl, .ty _, by rw [hk]; exact ty_of s1.s e0 o1 h2, kit_ty (isi_kit h2), k Hi1 H1 _ s1 rfl⟩
/-! list(range(n)) -/
theorem range_rep {G : Gt} {Hi : Hp} (lo hi : Int) : RepL G Hi (rangeD lo hi) (rgV lo hi) := by
  unfold rangeD rgV
  generalize (hi - lo).toNat = n
  induction n with
  | zero => rfl
  | succ n ih =>
    rw [List.range_succ, List.map_append, List.map_append]
    exact ih.append (RepL.cons (show Rep G Hi (.int _) (.int _) from rfl) RepL.nil)
theorem r_lrg (hc : C.X.calm = true) {p p2 pos2 : Pos} (hg : Gl C.X "list") (hm : C.X.mg "list" = none) (hg2 : Gl C.X "range") (hm2 : C.X.mg "range" = none) (hs : isStar pa = false) (ha : RE C pa a) :
    RE C (.Call (.Name "list" p) [.Call (.Name "range" p2) [pa] [] pos2] [] pos) (.lrg a) := by
  intro ε o h Hi0 H0 Hi H σ Q I k
  simp only [evalD] at h
  refine tU_of (pe_listRg hc hg hm (prg_1 hg2 hm2 peU (star_no hs))) (un1 ha h I (erV k) fun x h1 Hi1 H1 u s1 I1 e0 o1 => ?_)
  obtain ⟨n, h2, h3⟩ := rbl_some h1
  split at h3
  · rename_i hn
    cases rp_some h3
    refine ⟨n, int_of s1.s e0 o1 (asI_some h2), RgOk.of_le (by omega) (by omega) (by omega) (by omega), fun q hq => ?_⟩
    exact k Hi1 _ _ (s1.trans (Step.own s1.s hq)) (own1 s1.h s1.s hq (range_rep 0 n))
  · cases h3
end
end EG
namespace EG
open PySem L2 L2H
/-- what an __init__ promises: the object at a is new -/
def spI (G : Gt) (φ : List Vl → Rs Vl) (c n : Nat) : Sp := fun vs H Q E => vs.length = n ∧ ∃ a dx vs' Hi H1 as o, vs = V.ref a :: vs' ∧ H = upd (upd H1 dx (.own a)) a (.ins (G.cl c) dx []) ∧ H1 a = none ∧ H1 dx = none ∧ dx ≠ a ∧ φ as = some o ∧ Ex Hi H1 ∧ ArgsOk G Hi H1 as vs' ∧
  (match o with
  | .ok r => ∀ Hi' H', Step Hi H1 Hi' H' → VlOk G H1 H1 Hi' H' r (.ref a) → Q .non H'
  | .er c ns ds => ∀ Hi' H' cls d, Step Hi H1 Hi' H' → ExOk G Hi' c ns ds cls d → E cls d H')
section
variable {C : Ctx} {pe pa pb pc : Expr} {a b c : Ep} {pos : Pos}
structure NwI (C : Ctx) (φ : List Vl → Rs Vl) (x : Str) : Prop where
  ex : ∃ (k c : Nat) (fa : Addr) (fd : FuncData) (ps : List Str), C.X.mg x = some (.ref (C.G.cl c)) ∧ Mk C.X.K (C.G.cl c) fa ∧ Binds C.X.K fd ps [] ∧ RoomE (k + 1) C.X.A ∧ FnE C.X.prog C.X.w C.X.K C.X.mg C.X.base false k fa fd ps (spI C.G φ c ps.length) ∧ (∀ as o, φ as = some o → as.length + 1 = ps.length) ∧ ∀ as r, φ as = some (.ok r) → ∃ d, r = .sh d
theorem r_new (hc : C.X.calm = true) (tk : Takes C.X C.W) {x : Str} {f : Nat} {e : Expr} {es : List Expr} {as : Eps} {p : Pos} (F : NwI C (C.Φ.call f) x) (hg : Gl C.X x) (hd : (x == ("__debug__" : Str)) = false) (hs : noStars (e :: es) = true)
    (ha : RA C (e :: es) as) : RE C (.Call (.Name x p) (e :: es) [] pos) (.call f as) := by
  intro ε o h Hi0 H0 Hi H σ Q I k
  simp only [evalD] at h
  obtain ⟨lv, c, fa, fd, ps, hm, mk, hb, hr, F, hl, hnb⟩ := F.ex
  obtain ⟨s1, s2⟩ := noStars_cons hs
  intro pins s J
  have hh : C.X.A.handled = none := J.ok.hd hc
  refine (pe_makeE mk F hr hh hg hm hb tk paU hd (star_no s1) (stars_no s2)).run pins s σ H Q J (unA ha h I (erV k) fun rs h1 Hi1 H1 xs s3 I1 o1 => ?_)
  intro x' dx hx hdx hne
  refine ⟨?_, x', dx, xs, Hi1, H1, rs, o, rfl, rfl, hx, hdx, hne, h1, s3.s, o1, ?_⟩
  · rw [← hl rs o h1, o1.length]; rfl
  · cases o with
    | ok r =>
      refine fun Hi' H' s4 o4 => ⟨rfl, k Hi' H' _ (s3.trans s4) ?_⟩
      obtain ⟨d, rfl⟩ := hnb _ _ h1
      exact o4
    | er c ns ds => exact fun Hi' H' cls d s4 e => k Hi' H' cls d (s3.trans s4) e
end
end EG
namespace EG
open PySem L2 L2H
/-! ### what is shown of statements -/
def sU1 (X : Cx) (st : Stmt) : TS := fun Dn σ H => ∀ pins s, Inv X pins σ H s → wpAny (model X.prog X.w) X.A (exec st X.env) (SP X pins Dn) X.xe s
def sU (X : Cx) (sts : List Stmt) : TS := fun Dn σ H => ∀ pins s, Inv X pins σ H s → wpAny (model X.prog X.w) X.A (execs sts X.env) (SP X pins Dn) X.xe s
theorem ps1U {X : Cx} {st : Stmt} : PS X st (sU1 X st) := ⟨fun pins s σ H Dn I h => h pins s I⟩
theorem psU {X : Cx} {sts : List Stmt} : PSs X sts (sU X sts) := ⟨fun pins s σ H Dn I h => h pins s I⟩
theorem sU1_of {X : Cx} {st : Stmt} {t : TS} {Dn : Ends} {σ : L2.St} {H : Hp} (h : PS X st t) (q : t Dn σ H) : sU1 X st Dn σ H := fun pins s I => h.run pins s σ H Dn I q
theorem sU_of {X : Cx} {sts : List Stmt} {t : TS} {Dn : Ends} {σ : L2.St} {H : Hp} (h : PSs X sts t) (q : t Dn σ H) : sU X sts Dn σ H := fun pins s I => h.run pins s σ H Dn I q
def GoodO (C : Ctx) (Hi0 H0 Hi : Hp) (Dn : Ends) : O → Prop
  | .nx ε => ∀ Hi' H' σ', Ex Hi Hi' → EnvOk C.G C.xp Hi0 H0 Hi' H' σ' ε → Dn.nx σ' H'
  | .bk ε => ∀ Hi' H' σ', Ex Hi Hi' → EnvOk C.G C.xp Hi0 H0 Hi' H' σ' ε → Dn.bk σ' H'
  | .ct ε => ∀ Hi' H' σ', Ex Hi Hi' → EnvOk C.G C.xp Hi0 H0 Hi' H' σ' ε → Dn.ct σ' H'
  | .rt r => ∀ Hi' H' x, Step Hi0 H0 Hi' H' → VlOk C.G H0 H0 Hi' H' r x → Dn.rt x H'
  | .er c ns ds ε => ∀ Hi' H' σ' cls d, Ex Hi Hi' → EnvOk C.G C.xp Hi0 H0 Hi' H' σ' ε → ExOk C.G Hi' c ns ds cls d → C.W cls d σ' H'
def RS (C : Ctx) (st : Stmt) (s : Sm) : Prop := ∀ ε o, execD C.Φ s ε = some o → ∀ Hi0 H0 Hi H σ Dn, EnvOk C.G C.xp Hi0 H0 Hi H σ ε → GoodO C Hi0 H0 Hi Dn o → sU1 C.X st Dn σ H
def RSs (C : Ctx) (sts : List Stmt) (ss : Sms) : Prop := ∀ ε o, execsD C.Φ ss ε = some o → ∀ Hi0 H0 Hi H σ Dn, EnvOk C.G C.xp Hi0 H0 Hi H σ ε → GoodO C Hi0 H0 Hi Dn o → sU C.X sts Dn σ H
section
variable {C : Ctx} {pos : Pos} {pe pa pb pc : Expr} {a b c : Ep}
theorem GoodO.mono {Hi0 H0 Hi Hi1 : Hp} {Dn : Ends} {o : O} (e : Ex Hi Hi1) (h : GoodO C Hi0 H0 Hi Dn o) : GoodO C Hi0 H0 Hi1 Dn o := by
  cases o with
  | nx ε => exact fun Hi' H' σ' e2 I => h Hi' H' σ' (ex_trans e e2) I
  | bk ε => exact fun Hi' H' σ' e2 I => h Hi' H' σ' (ex_trans e e2) I
  | ct ε => exact fun Hi' H' σ' e2 I => h Hi' H' σ' (ex_trans e e2) I
  | rt r => exact h
  | er c ns ds ε => exact fun Hi' H' σ' cls d e2 I x => h Hi' H' σ' cls d (ex_trans e e2) I x
theorem ss_nil : RSs C [] .nil := fun ε o h Hi0 H0 Hi H σ Dn I k => by
  simp only [execsD, Option.some.injEq] at h
  subst h
  exact sU_of pss_nil (k Hi H σ (Evl.Ex.refl _) I)
theorem ss_cons {st : Stmt} {sts : List Stmt} {s : Sm} {ss : Sms} (h1 : RS C st s) (h2 : RSs C sts ss) : RSs C (st :: sts) (.cons s ss) := fun ε o h Hi0 H0 Hi H σ Dn I k => by
  simp only [execsD, Option.bind_eq_some_iff] at h
  obtain ⟨o1, e1, e2⟩ := h
  refine sU_of (pss_cons ps1U psU) (h1 ε o1 e1 Hi0 H0 Hi H σ _ I ?_)
  cases o1 with
  | nx ε2 => exact fun Hi' H' σ' e3 I2 => h2 ε2 o e2 Hi0 H0 Hi' H' σ' _ I2 (k.mono e3)
  | bk ε2 => cases e2; exact k
  | ct ε2 => cases e2; exact k
  | rt r => cases e2; exact k
  | er c ns ds ε2 => cases e2; exact k
/-- the outcome of an expression within a statement -/
theorem ob_some {α : Type} {ε : Env} {o : Rs α} {f : α → Option O} {r : O} (h : ob ε o f = some r) : (∃ c ns ds, o = some (.er c ns ds) ∧ r = .er c ns ds ε) ∨ ∃ a, o = some (.ok a) ∧ f a = some r := by
  match o, h with
  | some (.ok a), h => exact .inr ⟨a, rfl, h⟩
  | some (.er c ns ds), h => cases h; exact .inl ⟨c, ns, ds, rfl, rfl⟩
theorem erO {Hi0 H0 Hi H : Hp} {σ : L2.St} {ε : Env} {Dn : Ends} {c : Nat} {ns : List Str} {ds : List D} (I : EnvOk C.G C.xp Hi0 H0 Hi H σ ε) (k : GoodO C Hi0 H0 Hi Dn (.er c ns ds ε)) : ErOk C Hi H σ c ns ds := fun Hi' H' cls d s e => k Hi' H' σ cls d s.i (I.step s) e
/-- an expression within a statement -/
theorem ob1 (ha : RE C pa a) {ε : Env} {f : Vl → Option O} {o : O} (h : ob ε (evalD C.Φ a ε) f = some o) {Hi0 H0 Hi H : Hp} {σ : L2.St} {Dn : Ends} {R : VK} (I : EnvOk C.G C.xp Hi0 H0 Hi H σ ε) (kO : GoodO C Hi0 H0 Hi Dn o)
    (k : ∀ x, f x = some o → ∀ Hi1 H1 u, Step Hi H Hi1 H1 → EnvOk C.G C.xp Hi0 H0 Hi1 H1 σ ε → Ex H0 H1 → VlOk C.G H0 H Hi1 H1 x u → R u H1) : tU C.X pa σ H R := by
  rcases ob_some h with ⟨c, ns, ds, h1, rfl⟩ | ⟨x, h1, h2⟩
  · exact ha ε _ h1 Hi0 H0 Hi H σ R I (erO I kO)
  · exact ha ε _ h1 Hi0 H0 Hi H σ R I fun Hi1 H1 u s1 o1 => k x h2 Hi1 H1 u s1 (I.step s1) (I.step s1).st.h o1
theorem obT (ha : RT C pa a) {ε : Env} {f : Bool → Option O} {o : O} (h : ob ε (testD C.Φ a ε) f = some o) {Hi0 H0 Hi H : Hp} {σ : L2.St} {Dn : Ends} {R : Bool → Hp → Prop} (I : EnvOk C.G C.xp Hi0 H0 Hi H σ ε) (kO : GoodO C Hi0 H0 Hi Dn o)
    (k : ∀ x, f x = some o → ∀ Hi1 H1, Step Hi H Hi1 H1 → EnvOk C.G C.xp Hi0 H0 Hi1 H1 σ ε → R x H1) : tUT C.X pa σ H R := by
  rcases ob_some h with ⟨c, ns, ds, h1, rfl⟩ | ⟨x, h1, h2⟩
  · exact ha ε _ h1 Hi0 H0 Hi H σ R I (erO I kO)
  · exact ha ε _ h1 Hi0 H0 Hi H σ R I fun Hi1 H1 s1 => k x h2 Hi1 H1 s1 (I.step s1)
/-! simple statements -/
theorem s_pas : RS C (.Pass pos) .pas := fun ε o h Hi0 H0 Hi H σ Dn I k => by
  simp only [execD, Option.some.injEq] at h; subst h
  exact sU1_of ps_pass (k Hi H σ (Evl.Ex.refl _) I)
theorem s_brk : RS C (.Break pos) .brk := fun ε o h Hi0 H0 Hi H σ Dn I k => by
  simp only [execD, Option.some.injEq] at h; subst h
  exact sU1_of ps_break (k Hi H σ (Evl.Ex.refl _) I)
theorem s_cnt : RS C (.Continue pos) .cnt := fun ε o h Hi0 H0 Hi H σ Dn I k => by
  simp only [execD, Option.some.injEq] at h; subst h
  exact sU1_of ps_continue (k Hi H σ (Evl.Ex.refl _) I)
theorem retD_some {r q : Vl} (h : retD r = some q) : q = r ∧ ((∃ d, r = .sh d) ∨ ∃ n d, r = .fr n d) := by
  cases r with
  | sh d => cases h; exact ⟨rfl, .inl ⟨d, rfl⟩⟩
  | fr n d => cases h; exact ⟨rfl, .inr ⟨n, d, rfl⟩⟩
  | _ => cases h
theorem s_ret (ha : RE C pa a) : RS C (.Return (some pa) pos) (.ret a) := fun ε o h Hi0 H0 Hi H σ Dn I k => by
  simp only [execD] at h
  refine sU1_of (ps_ret peU) (ob1 ha h I k fun x h1 Hi1 H1 u s1 I1 e0 o1 => ?_)
  simp only [Option.map_eq_some_iff] at h1
  obtain ⟨r, h2, rfl⟩ := h1
  obtain ⟨rfl, _⟩ := retD_some h2
  exact k Hi1 H1 u I1.st (o1.back I.st.h)
theorem s_retN : RS C (.Return none pos) (.ret (.c .non)) := fun ε o h Hi0 H0 Hi H σ Dn I k => by
  simp only [execD, evalD, rp, ob, retD, Option.map_some, Option.some.injEq] at h
  subst h
  exact sU1_of ps_retN (k Hi H _ I.st rfl)
theorem s_retV {pe : Expr} {i : Nat} (hp : PE C.X pe (tVar i)) : RS C (.Return (some pe) pos) (.retV i) := fun ε o h Hi0 H0 Hi H σ Dn I k => by
  simp only [execD, Option.bind_eq_some_iff, Option.map_eq_some_iff] at h
  obtain ⟨r, h1, q, h2, rfl⟩ := h
  obtain ⟨rfl, _⟩ := retD_some h2
  obtain ⟨v, fp, e1, e2⟩ := I.at h1
  match q, e2 with
  | .sh d, ⟨_, x, q1, q2⟩ =>
    subst q1
    exact sU1_of (ps_ret hp) ⟨x, e1, k Hi H x I.st q2⟩
  | .fr n d, ⟨x, q1, q2, q3, q4⟩ =>
    subst q1
    exact sU1_of (ps_ret hp) ⟨x, e1, k Hi H x I.st ⟨fp, q2, q3, q4⟩⟩
  | .bo n d, _ => cases h2
  | .ex _ _ _, _ => cases h2
  | .no _ _ _, _ => cases h2
theorem s_ifs {pa pb : List Stmt} {a b : Sms} (hc : RT C pc c) (ha : RSs C pa a) (hb : RSs C pb b) : RS C (.If pc pa pb pos) (.ifs c a b) := fun ε o h Hi0 H0 Hi H σ Dn I k => by
  simp only [execD] at h
  refine sU1_of (ps_if ptU psU psU) (obT hc h I k fun t h2 Hi1 H1 s1 I1 => ?_)
  cases t with
  | true => rw [if_pos rfl] at h2 ⊢; exact ha ε o h2 Hi0 H0 Hi1 H1 σ _ I1 (k.mono s1.i)
  | false => rw [if_neg (by decide)] at h2 ⊢; exact hb ε o h2 Hi0 H0 Hi1 H1 σ _ I1 (k.mono s1.i)
theorem s_exp (ha : RE C pa a) (hd : ∀ x : Value, True) (hp : PS C.X (.Expr pa pos) (fun D σ H => tU C.X pa σ H fun _ H' => D.nx σ H')) : RS C (.Expr pa pos) (.exp a) := fun ε o h Hi0 H0 Hi H σ Dn I k => by
  simp only [execD] at h
  refine sU1_of hp (ob1 ha h I k fun x h1 Hi1 H1 u s1 I1 e0 o1 => ?_)
  cases h1
  exact k Hi1 H1 σ s1.i I1
theorem s_frs {tg pit : Expr} {t : Tg} {it : Epi} {pb : List Stmt} {b : Sms} (hp : PassesOwn (model C.X.prog C.X.w) C.X.A C.X.env C.X.xe) (hc : C.X.calm = true) (hi : RL C tg pit it) (hg : PG C.X tg (tgT C.X.K t)) (hs : ∀ x, foldedSetIterable pit C.X.env x = pure x) (hb : RSs C pb b) :
    RS C (.For tg pit pb [] pos) (.frs t it b) := fun ε o h Hi0 H0 Hi H σ Dn I k => by
  simp only [execD] at h
  rcases ob_some h with ⟨c, ns, ds, h1, rfl⟩ | ⟨xs, h1, h2⟩
  · exact sU1_of (ps_for hp hc piU hg psU hs) (hi ε _ h1 Hi0 H0 Hi H σ _ I (erO I k))
  · refine sU1_of (ps_for hp hc piU hg psU hs) (hi ε _ h1 Hi0 H0 Hi H σ _ I fun Hi1 H1 J s1 w => ?_)
    refine for_wk (gg := tgT C.X.K t) (tb := sU C.X pb) (Dn := Dn) (σ := σ) (H := H1) w (fun n Hi' σ' H' => ∃ εn, Ex Hi1 Hi' ∧ EnvOk C.G C.xp Hi0 H0 Hi' H' σ' εn ∧ forD t (fun ε2 => execsD C.Φ b ε2) (xs.drop n) εn = some o)
      (Hi := Hi1) ⟨ε, Evl.Ex.refl _, I.step s1, h2⟩ (fun n Hi' σ' H' ⟨εn, e, I', _⟩ => ⟨e, I'.st.s, I'.st.h⟩) ?_ ?_
    · rintro n q x Hi' Hi'' σ' H' H'' hd ⟨εn, e, I', qq⟩ sy oy
      have hn : n < xs.length := (List.getElem?_eq_some_iff.mp hd).1
      have hdr : xs.drop n = q :: xs.drop (n + 1) := by
        rw [List.drop_eq_getElem_cons hn]
        congr 1
        exact Option.some.inj ((List.getElem?_eq_getElem hn).symm.trans hd)
      rw [hdr] at qq
      simp only [forD, Option.bind_eq_some_iff] at qq
      obtain ⟨ε2, q1, o1, q2, q3⟩ := qq
      refine tgT_ok q1 I' sy oy fun σ2 I2 _ => ?_
      have e' := ex_trans e sy.i
      refine hb ε2 o1 q2 Hi0 H0 Hi'' H'' σ2 _ I2 ?_
      cases o1 with
      | nx ε3 => exact fun Hi2 H2 σ3 e2 I3 => ⟨Hi2, ε3, ex_trans e' e2, I3, q3⟩
      | ct ε3 => exact fun Hi2 H2 σ3 e2 I3 => ⟨Hi2, ε3, ex_trans e' e2, I3, q3⟩
      | bk ε3 => cases q3; exact fun Hi2 H2 σ3 e2 I3 => k Hi2 H2 σ3 (ex_trans s1.i (ex_trans e' e2)) I3
      | rt r => cases q3; exact k
      | er c ns ds ε3 => cases q3; exact fun Hi2 H2 σ3 cls d e2 I3 x => k Hi2 H2 σ3 cls d (ex_trans s1.i (ex_trans e' e2)) I3 x
    · rintro Hi' σ' H' ⟨εn, e, I', q⟩
      rw [List.drop_length] at q
      cases q
      exact k Hi' H' σ' (ex_trans s1.i e) I'
theorem s_whl {pb : List Stmt} {b : Sms} (hp : PassesOwn (model C.X.prog C.X.w) C.X.A C.X.env C.X.xe) (hc : RT C pc c) (hb : RSs C pb b) : RS C (.While pc pb [] pos) (.whl c b) := fun ε o h Hi0 H0 Hi H σ Dn I k => by
  simp only [execD] at h
  refine sU1_of (ps_while hp ptU psU) ⟨fun m σ' H' => ∃ Hi' εn, Ex Hi Hi' ∧ EnvOk C.G C.xp Hi0 H0 Hi' H' σ' εn ∧ whlD (fun ε2 => testD C.Φ c ε2) (fun ε2 => execsD C.Φ b ε2) m εn = some o, ⟨_, Hi, ε, Evl.Ex.refl _, I, h⟩, ?_⟩
  rintro m σ' H' ⟨Hi', εn, e, I', q⟩
  cases m with
  | zero => cases q
  | succ m =>
    simp only [whlD] at q
    refine obT hc q I' (k.mono e) fun t q2 Hi1 H1 s1 I1 => ?_
    cases t with
    | false =>
      rw [if_neg (by decide)] at q2 ⊢
      cases q2
      exact k Hi1 H1 σ' (ex_trans e s1.i) I1
    | true =>
      rw [if_pos rfl] at q2 ⊢
      simp only [Option.bind_eq_some_iff] at q2
      obtain ⟨o1, q3, q4⟩ := q2
      refine ⟨fun σ2 H2 => ∃ Hi2 ε3, Ex Hi Hi2 ∧ EnvOk C.G C.xp Hi0 H0 Hi2 H2 σ2 ε3 ∧ whlD (fun ε2 => testD C.Φ c ε2) (fun ε2 => execsD C.Φ b ε2) m ε3 = some o, fun σ2 H2 z => ⟨m, Nat.lt_succ_self m, z⟩, ?_⟩
      refine hb εn o1 q3 Hi0 H0 Hi1 H1 σ' _ I1 ?_
      cases o1 with
      | nx ε3 => exact fun Hi2 H2 σ3 e2 I3 => ⟨Hi2, ε3, ex_trans e (ex_trans s1.i e2), I3, q4⟩
      | ct ε3 => exact fun Hi2 H2 σ3 e2 I3 => ⟨Hi2, ε3, ex_trans e (ex_trans s1.i e2), I3, q4⟩
      | bk ε3 => cases q4; exact fun Hi2 H2 σ3 e2 I3 => k Hi2 H2 σ3 (ex_trans e (ex_trans s1.i e2)) I3
      | rt r => cases q4; exact k
      | er c ns ds ε3 => cases q4; exact fun Hi2 H2 σ3 cls d e2 I3 x => k Hi2 H2 σ3 cls d (ex_trans e (ex_trans s1.i e2)) I3 x
/-! stores -/
theorem s_asg {tg : Expr} {te : TE} {t : Tg} (hp : PS C.X (.Assign [tg] pa pos) (tAsg te (tgT C.X.K t))) (ha : ∀ ε r, evalD C.Φ a ε = some r → ∀ Hi0 H0 Hi H σ (Q : VK), EnvOk C.G C.xp Hi0 H0 Hi H σ ε → GoodV C H0 Hi H σ Q r → te σ H Q) :
    RS C (.Assign [tg] pa pos) (.asg t a) := fun ε o h Hi0 H0 Hi H σ Dn I k => by
  simp only [execD] at h
  refine sU1_of hp ?_
  rcases ob_some h with ⟨c, ns, ds, h1, rfl⟩ | ⟨r, h1, h2⟩
  · exact ha ε _ h1 Hi0 H0 Hi H σ _ I (erO I k)
  · simp only [Option.map_eq_some_iff] at h2
    obtain ⟨ε2, h3, rfl⟩ := h2
    refine ha ε _ h1 Hi0 H0 Hi H σ _ I fun Hi' H' x s o => ?_
    exact tgT_ok h3 I s o fun σ2 I2 _ => k Hi' H' σ2 s.i I2
end
end EG
namespace EG
open PySem L2 L2H
section
variable {G : Gt} {xp : Xp} {Hi0 H0 Hi H Hi' H' : Hp} {σ : L2.St} {ε : Env}
/-- the list at an owned slot -/
theorem EnvOk.own (I : EnvOk G xp Hi0 H0 Hi H σ ε) {i : Nat} {xs : List D} (h : ownL ε i = some xs) : (ε[i]? = some (some (.fr 1 (.lst xs))) ∧ noUs ε = true) ∧ ∃ p vs, σ[i]? = some (some (.ref p)) ∧ H p = some (.lst vs) ∧ Hi p = none ∧ H0 p = none ∧ RepL G Hi xs vs := by
  unfold ownL at h
  split at h
  · rename_i n ys hg
    split at h
    · rename_i hn
      obtain ⟨rfl, hu⟩ := hn
      cases h
      obtain ⟨v, fp, e1, x, e2, ⟨p, vs, fps, f1, f2, f3, f4⟩, f5, f6⟩ := I.at hg
      subst e2 f1
      obtain ⟨g1, g2⟩ := f4.zero
      have := f6 p (by rw [f3]; exact List.mem_cons_self)
      exact ⟨⟨getS_some hg, hu⟩, p, vs, e1, f2, this.1, this.2, g2⟩
    · cases h
  · cases h
/-- what a slot owns is changed at one of its cells -/
theorem EnvOk.chg (I : EnvOk G xp Hi0 H0 Hi H σ ε) {i n : Nat} {d d' : D} {x : V} {p : Addr} {ho : HO} (hu : noUs ε = true) (hε : ε[i]? = some (some (.fr n d))) (hσ : σ[i]? = some (some x))
    (hn : ∀ fp, Own G Hi H n d x fp → fp.Nodup → p ∈ fp ∧ Own G Hi (upd H p ho) n d' x fp) : EnvOk G xp Hi0 H0 Hi (upd H p ho) σ (ε.set i (some (.fr n d'))) := by
  obtain ⟨F, f1, f2, f3⟩ := I.sl
  obtain ⟨x', e1, e2, e3, e4⟩ := f1 i _ _ hε hσ
  have e1 : x' = x := (Option.some.inj e1).symm
  subst e1
  obtain ⟨hp, ho'⟩ := hn _ e2 e3
  obtain ⟨hi, h0⟩ := e4 p hp
  refine ⟨⟨I.st.i, Evl.Ex.mut I.st.h h0, Evl.Ex.mut I.st.s hi, I.st.n⟩, by simpa using I.len, F, fun j r v h1 h2 => ?_, f2, fun j hj => f3 j (by simpa using hj)⟩
  rcases set_get h1 with ⟨a1, a2, _⟩ | ⟨a1, a2⟩
  · subst a1 a2
    rw [hσ] at h2; cases h2
    exact ⟨x', rfl, ho', e3, e4⟩
  · have q := f1 j r v a2 h2
    refine q.stay (Evl.Ex.refl _) (fun z hz => ⟨?_, (q.mem z hz).2.1⟩) fun hz => ?_
    · rw [upd_ne fun (w : z = p) => ?_]
      subst w
      exact f2 j i z a1 hz hp
    · rw [noUs_get hu a2] at hz; cases hz
theorem EnvOk.mut (I : EnvOk G xp Hi0 H0 Hi H σ ε) {i : Nat} {xs xs' : List D} {p : Addr} {vs vs' : List V} (hε : ε[i]? = some (some (.fr 1 (.lst xs))) ∧ noUs ε = true) (hσ : σ[i]? = some (some (.ref p))) (hH : H p = some (.lst vs)) (hi : Hi p = none) (h0 : H0 p = none)
    (hr : RepL G Hi xs' vs') : EnvOk G xp Hi0 H0 Hi (upd H p (.lst vs')) σ (putL ε i xs') := by
  refine I.chg hε.2 hε.1 hσ fun fp o nd => ?_
  obtain ⟨q, ws, fps, g1, g2, g3, g4⟩ := o
  cases g1
  obtain ⟨g5, _⟩ := g4.zero
  subst g5
  rw [g3]
  exact ⟨List.mem_cons_self, p, vs', [], rfl, upd_same, rfl, Owns.ofZero hr⟩
/-- the slots that borrow own cells are given up -/
theorem dropU_get : ∀ {ε : Env} {j : Nat} {r : Option Vl}, (dropU ε)[j]? = some r → ∃ r', ε[j]? = some r' ∧ (r = r' ∨ (r = none ∧ isUs r' = true))
  | [], j, r, h => by simp [dropU] at h
  | x :: xs, 0, r, h => by
    simp only [dropU, List.getElem?_cons_zero, Option.some.injEq] at h
    refine ⟨x, rfl, ?_⟩
    by_cases c : isUs x = true
    · rw [if_pos c] at h; exact .inr ⟨h.symm, c⟩
    · rw [if_neg c] at h; exact .inl h.symm
  | x :: xs, j + 1, r, h => by
    obtain ⟨r', h1, h2⟩ := dropU_get (ε := xs) (j := j) (by simpa [dropU] using h)
    exact ⟨r', by simpa using h1, h2⟩
theorem dropU_len : ∀ ε : Env, (dropU ε).length = ε.length
  | [] => rfl
  | x :: xs => by simp [dropU, dropU_len xs]
theorem EnvOk.dropU (I : EnvOk G xp Hi0 H0 Hi H σ ε) : EnvOk G xp Hi0 H0 Hi H σ (dropU ε) := by
  obtain ⟨F, f1, f2, f3⟩ := I.sl
  refine ⟨I.st, by rw [dropU_len]; exact I.len, F, fun j r v h1 h2 => ?_, f2, fun j hj => f3 j (by rw [dropU_len] at hj; exact hj)⟩
  obtain ⟨r', e1, e2⟩ := dropU_get h1
  have q := f1 j r' v e1 h2
  rcases e2 with rfl | ⟨rfl, e3⟩
  · exact q
  · match r', e3, q with
    | some (.us n d), _, q => exact q.1
/-- a slot's cells are shared from here on -/
theorem EnvOk.frz (I : EnvOk G xp Hi0 H0 Hi H σ ε) (i : Nat) : ∃ Hi2, Ex Hi Hi2 ∧ EnvOk G xp Hi0 H0 Hi2 H σ (frz ε i) := by
  unfold EG.frz
  split
  · rename_i n d hd
    have hε := getS_some hd
    have hl : i < ε.length := (List.getElem?_eq_some_iff.mp hε).1
    have hs : i < σ.length := by rw [I.len]; exact hl
    have hσ : σ[i]? = some σ[i] := List.getElem?_eq_getElem hs
    obtain ⟨F, f1, f2, f3⟩ := I.sl
    obtain ⟨x, e1, e2, e3, e4⟩ := f1 i _ _ hε hσ
    have hi := fun p hp => (e4 p hp).1
    refine ⟨shareH Hi H (F i), shareH_ex hi, I.st.share (fun p hp => (e4 p hp).2) hi, by simpa using I.len, fun j => if j = i then [] else F j, fun j r v h1 h2 => ?_, fun j k p hjk h1 h2 => ?_, fun j hj => ?_⟩
    · rcases set_get h1 with ⟨a1, a2, _⟩ | ⟨a1, a2⟩
      · subst a1 a2
        rw [hσ] at h2
        simp only [if_true]
        refine ⟨rfl, x, by rw [← e1]; exact (Option.some.inj h2).symm, Own.share (shareH_ex hi) n d x (F j) (fun p hp => shareH_in hp) e2⟩
      · simp only [a1, if_false]
        have q := f1 j r v a2 h2
        refine q.stay (shareH_ex hi) (fun z hz => ⟨rfl, ?_⟩) fun _ => Evl.Ex.refl _
        rw [shareH_out fun w => f2 j i z a1 hz w]
        exact (q.mem z hz).2.1
    · simp only at h1 h2
      by_cases hj : j = i
      · rw [if_pos hj] at h1; cases h1
      · rw [if_neg hj] at h1
        by_cases hk : k = i
        · rw [if_pos hk] at h2; cases h2
        · rw [if_neg hk] at h2
          exact f2 j k p hjk h1 h2
    · rw [List.length_set] at hj
      simp only
      split
      · rfl
      · exact f3 j hj
  · exact ⟨Hi, Evl.Ex.refl _, I⟩
end
section
variable {C : Ctx} {pos : Pos} {pe pa pb pc : Expr} {a b c : Ep}
def pre : List Nat → Sms → Sms
  | [], ss => ss
  | i :: is, ss => .cons (.fz i) (pre is ss)
theorem ss_pre {sts : List Stmt} {ss : Sms} (h : RSs C sts ss) : ∀ is : List Nat, RSs C sts (pre is ss)
  | [] => h
  | i :: is => fun ε o e Hi0 H0 Hi H σ Dn I k => by
    have e' : execsD C.Φ (pre is ss) (frz ε i) = some o := by
      simpa [pre, execsD, execD] using e
    obtain ⟨Hi2, e2, I2⟩ := I.frz i
    exact ss_pre h is (frz ε i) o e' Hi0 H0 Hi2 H σ Dn I2 (k.mono e2)
theorem tyL {K : PySem.W.Frag} {H : Hp} {p : Addr} {vs : List V} (h : H p = some (.lst vs)) : tyV K "list" (.ref p) H := .inl ⟨rfl, vs, SqL.of h⟩
theorem lt5 {n : Nat} (h : n < 100000) : n < sizeLine := Nat.lt_of_lt_of_le h (by decide)
/-- what stands behind an owned slot -/
theorem s_app {x : Str} {p apos cpos : Pos} {i : Nat} (hx : PE C.X (.Name x p) (tVar i)) (ha : RE C pa a) (hs : isStar pa = false) (hl : (apos.endLine == cpos.line) = true) :
    RS C (.Expr (.Call (.Attribute (.Name x p) "append" apos) [pa] [] cpos) pos) (.app i a) := fun ε o h Hi0 H0 Hi H σ Dn I k => by
  simp only [execD, Option.bind_eq_some_iff] at h
  obtain ⟨xs, h3, h⟩ := h
  have pr := ps_expr (pos := pos) (pe_bm PySem.F.plainAttrs_list PySem.F.slot_list_append PySem.F.type_list_append mt_append hx (pa_cons (peU (X := C.X) (e := pa)) pa_nil (star_no hs)) rfl (by rw [star_no hs]; rfl) hl (star_no hs) rfl) rfl
  obtain ⟨hε, q, vs, e1, e2, e3, e4, e5⟩ := I.own h3
  refine sU1_of pr ⟨.ref q, e1, tyL e2, ob1 ha h I k fun r h1 Hi1 H1 u s1 I1 e0 o1 => ?_⟩
  simp only [Option.bind_eq_some_iff] at h1
  obtain ⟨d, h2, h4⟩ := h1
  split at h4
  · rename_i hz
    cases h4
    obtain ⟨Hi2, f1, s2, f3⟩ := o1.keep s1 h2
    have hq : H1 q = some (.lst vs) := s1.h _ _ e2
    refine ⟨q, vs, u, rfl, rfl, hq, lt5 (by rw [← e5.length]; exact hz), ?_⟩
    have I2 := I.step s2
    exact k Hi2 _ σ s2.i (I2.mut hε e1 hq (s2.n q (by rw [e2]; exact fun z => nomatch z) e3) e4 ((RepL.mono s2.i _ _ e5).append (RepL.cons f3 RepL.nil)))
  · cases h4
theorem s_ins {x : Str} {p apos cpos : Pos} {i : Nat} (hx : PE C.X (.Name x p) (tVar i)) (hj : RE C pb b) (ha : RE C pa a) (hs : isStar pa = false) (hs2 : isStar pb = false) (hl : (apos.endLine == cpos.line) = true) :
    RS C (.Expr (.Call (.Attribute (.Name x p) "insert" apos) [pb, pa] [] cpos) pos) (.ins i b a) := fun ε o h Hi0 H0 Hi H σ Dn I k => by
  simp only [execD, Option.bind_eq_some_iff] at h
  obtain ⟨xs, h4, h⟩ := h
  have pr := ps_expr (pos := pos) (pe_bm PySem.F.plainAttrs_list PySem.F.slot_list_insert PySem.F.type_list_insert mt_insert hx (pa_cons (peU (X := C.X) (e := pb)) (pa_cons (peU (X := C.X) (e := pa)) pa_nil (star_no hs)) (star_no hs2)) rfl (by rw [star_no hs2, star_no hs]; rfl) hl (star_no hs2) (by rw [star_no hs]; rfl)) rfl
  obtain ⟨hε, q, vs, e1, e2, e3, e4, e5⟩ := I.own h4
  refine sU1_of pr ⟨.ref q, e1, tyL e2, ob1 hj h I k fun y h1 Hi1 H1 u s1 I1 e0 o1 => ob1 ha h1 I1 (k.mono s1.i) fun r h2 Hi2 H2 w s2 I2 e0' o2 => ?_⟩
  simp only [Option.bind_eq_some_iff] at h2
  obtain ⟨d, h3, kk, h5, h6⟩ := h2
  split at h6
  · rename_i hz
    cases h6
    obtain ⟨Hi3, f1, s3, f3⟩ := o2.keep s2 h3
    have s13 := s1.trans s3
    have hq : H2 q = some (.lst vs) := s13.h _ _ e2
    refine ⟨q, vs, kk, w, rfl, by rw [int_of s1.s e0 o1 (asI_some h5)], hq, lt5 (by rw [← e5.length]; exact hz.1), hz.2.1, by have := hz.2.2; omega, ?_⟩
    have I2 := I.step s13
    refine k Hi3 _ σ s13.i (I2.mut hε e1 hq (s13.n q (by rw [e2]; exact fun z => nomatch z) e3) e4 ?_)
    have g := RepL.mono s13.i _ _ e5
    rw [List.append_assoc]
    exact (g.take _).append ((RepL.cons f3 RepL.nil).append (g.drop _))
  · cases h6
/-- a dict at an owned slot -/
theorem EnvOk.ownD {G : Gt} {xp : Xp} {Hi0 H0 Hi H : Hp} {σ : L2.St} {ε : Env} (I : EnvOk G xp Hi0 H0 Hi H σ ε) {i : Nat} {ks : Ky} {xs : List D} (h : ownD ε i = some (ks, xs)) : ε[i]? = some (some (.fr 1 (.dct ks xs))) ∧ noUs ε = true ∧ ∃ p vs, σ[i]? = some (some (.ref p)) ∧ H p = some (ks.ho vs) ∧ ks.length = xs.length ∧ RepL G Hi xs vs := by
  unfold EG.ownD at h
  split at h
  · rename_i n ks' ys hg
    split at h
    · rename_i hn
      obtain ⟨rfl, hu⟩ := hn
      cases h
      obtain ⟨v, fp, e1, x, e2, ⟨p, vs, fps, f1, f2, f3, f4, f5⟩, f6, f7⟩ := I.at hg
      subst e2 f1
      exact ⟨getS_some hg, hu, p, vs, e1, f2, f3, f5.zero.2⟩
    · cases h
  · cases h
theorem putAll_len {κ α : Type} [DecidableEq κ] {k : κ} {d : α} : ∀ {ks : List κ} {xs : List α}, ks.length = xs.length → (putAll k d ks xs).length = ks.length
  | [], _, _ => rfl
  | y :: ks, [], h => by simp at h
  | y :: ks, x :: xs, h => by simp [putAll, putAll_len (k := k) (d := d) (ks := ks) (xs := xs) (by simpa using h)]
theorem putAll_rep {κ : Type} [DecidableEq κ] {G : Gt} {H : Hp} {k : κ} {d : D} {v : V} (hv : Rep G H d v) : ∀ {ks : List κ} {xs : List D} {vs : List V}, RepL G H xs vs → RepL G H (putAll k d ks xs) (putAll k v ks vs)
  | [], xs, vs, h => by simp [putAll, RepL]
  | y :: ks, [], vs, h => by cases h; simp [putAll, RepL]
  | y :: ks, x :: xs, vs, h => by
    obtain ⟨w, vs', rfl, h1, h2⟩ := h
    refine ⟨_, _, rfl, ?_, putAll_rep hv h2⟩
    split
    · exact hv
    · exact h1
theorem putK_some {κ : Type} [DecidableEq κ] {k : κ} {v : V} {ks : List κ} {vs : List V} {i : Nat} (hl : ks.length = vs.length) (h : keyAt ks k = some i) : putK (ks.zip vs) k v = ks.zip (putAll k v ks vs) := by
  have ha : ((ks.zip vs).any fun kv => decide (kv.1 = k)) = true := by
    induction ks generalizing vs i with
    | nil => simp [keyAt] at h
    | cons y ks ih =>
      cases vs with
      | nil => simp at hl
      | cons w vs =>
        unfold keyAt at h
        split at h
        · rename_i hy
          simp [hy]
        · simp only [Option.map_eq_some_iff] at h
          obtain ⟨j, h1, _⟩ := h
          simp only [List.zip_cons_cons, List.any_cons, ih (by simpa using hl) h1, Bool.or_true]
  unfold putK
  rw [if_pos ha]
  clear ha h
  induction ks generalizing vs with
  | nil => rfl
  | cons y ks ih =>
    cases vs with
    | nil => simp at hl
    | cons w vs =>
      simp only [List.zip_cons_cons, List.map_cons, putAll, ih (vs := vs) (by simpa using hl)]
      congr 1
      split <;> rfl
theorem putK_none {κ : Type} [DecidableEq κ] {k : κ} {v : V} {ks : List κ} {vs : List V} (hl : ks.length = vs.length) (h : keyAt ks k = none) : putK (ks.zip vs) k v = (ks ++ [k]).zip (vs ++ [v]) := by
  have ha : ((ks.zip vs).any fun kv => decide (kv.1 = k)) = false := by
    have := keyAt_none (vs := vs) h
    rw [valV_any, this]; rfl
  unfold putK
  rw [if_neg (by rw [ha]; exact Bool.false_ne_true), List.zip_append hl]; rfl
theorem putDc_ok {G : Gt} {Hi H : Hp} {ks : Ky} {xs : List D} {vs : List V} {q : Addr} {kd d t : D} {y v : V} (hq : H q = some (ks.ho vs)) (hl : ks.length = xs.length) (h : putDc ks xs kd d = some t) (ry : Rep G H kd y) (rx : RepL G Hi xs vs) (rv : Rep G Hi d v) :
    ∃ ks' xs' vs', t = .dct ks' xs' ∧ DPut H q y v (upd H q (ks'.ho vs')) ∧ ks'.length = xs'.length ∧ RepL G Hi xs' vs' := by
  unfold putDc at h
  simp only [Option.bind_eq_some_iff] at h
  obtain ⟨o, h1, h2⟩ := h
  have hlv : ks.length = vs.length := by rw [hl, rx.length]
  cases ks with
  | k ks =>
    simp only [Ky.at, Option.map_eq_some_iff] at h1
    obtain ⟨k, e1, rfl⟩ := h1
    rw [asK_rep e1 ry]
    split at h2
    · rename_i i hi
      split at h2
      case isFalse => cases h2
      case isTrue hz =>
      simp only [Ky.put, e1, Option.map_some, Option.some.injEq] at h2
      subst h2
      refine ⟨_, _, putAll k v ks vs, rfl, ?_, by simp only [Ky.length]; exact (putAll_len hl).symm, putAll_rep rv rx⟩
      have := DPut.k (k := k) (v := v) hq (by rw [List.length_zip]; have : ks.length < 100000 := hz; exact Nat.lt_of_le_of_lt (Nat.min_le_left _ _) (lt5 this))
      rw [putK_some hlv hi] at this
      exact this
    · rename_i hi
      split at h2
      case isFalse => cases h2
      case isTrue hz =>
      simp only [Ky.snoc, e1, Option.map_some, Option.some.injEq] at h2
      subst h2
      refine ⟨_, _, vs ++ [v], rfl, ?_, by simp only [Ky.length, List.length_append, List.length_singleton]; rw [show ks.length = xs.length from hl], rx.append (RepL.cons rv RepL.nil)⟩
      have := DPut.k (k := k) (v := v) hq (by rw [List.length_zip]; have : ks.length < 100000 := hz; exact Nat.lt_of_le_of_lt (Nat.min_le_left _ _) (lt5 this))
      rw [putK_none hlv hi] at this
      exact this
  | t ks =>
    simp only [Ky.at, Option.map_eq_some_iff] at h1
    obtain ⟨k, e1, rfl⟩ := h1
    obtain ⟨b, rfl, hb⟩ := asT_rep e1 ry
    split at h2
    · rename_i i hi
      split at h2
      case isFalse => cases h2
      case isTrue hz =>
      simp only [Ky.put, e1, Option.map_some, Option.some.injEq] at h2
      subst h2
      refine ⟨_, _, putAll k v ks vs, rfl, ?_, by simp only [Ky.length]; exact (putAll_len hl).symm, putAll_rep rv rx⟩
      have := DPut.t (k := k) (v := v) hq hb (by rw [List.length_zip]; have : ks.length < 100000 := hz; exact Nat.lt_of_le_of_lt (Nat.min_le_left _ _) (lt5 this))
      rw [putK_some hlv hi] at this
      exact this
    · rename_i hi
      split at h2
      case isFalse => cases h2
      case isTrue hz =>
      simp only [Ky.snoc, e1, Option.map_some, Option.some.injEq] at h2
      subst h2
      refine ⟨_, _, vs ++ [v], rfl, ?_, by simp only [Ky.length, List.length_append, List.length_singleton]; rw [show ks.length = xs.length from hl], rx.append (RepL.cons rv RepL.nil)⟩
      have := DPut.t (k := k) (v := v) hq hb (by rw [List.length_zip]; have : ks.length < 100000 := hz; exact Nat.lt_of_le_of_lt (Nat.min_le_left _ _) (lt5 this))
      rw [putK_none hlv hi] at this
      exact this
def isComp : Expr → Bool
  | .ListComp _ _ _ _ => true
  | .SetComp _ _ _ _ => true
  | .DictComp _ _ _ _ _ => true
  | _ => false
theorem s_setx (hu : C.X.A.units + 65 < cLine) {x : Str} {p p2 : Pos} {i : Nat} (hx : PE C.X (.Name x p) (tVar i)) (hj : RE C pb b) (ha : RE C pa a) (hsl : ∀ a b c d, pb = .Slice a b c d → False) (hc : isComp pa = false) :
    RS C (.Assign [.Subscript (.Name x p) pb p2] pa pos) (.setx i b a) := fun ε o h Hi0 H0 Hi H σ Dn I k => by
  simp only [execD] at h
  split at h
  · refine sU1_of (ps_dput (by omega) hx peU peU (by cases pa <;> first | rfl | cases hc)) (ob1 ha h I k fun r h1 Hi1 H1 u s1 I1 e0 o1 => ?_)
    simp only [Option.bind_eq_some_iff, Option.map_eq_some_iff] at h1
    obtain ⟨d, h2, ⟨ks, xs⟩, h3, y, h4, t, h5, rfl⟩ := h1
    obtain ⟨hε, hun, q, vs, e1, e2, e3, e4⟩ := I.ownD h3
    obtain ⟨Hi2, f1, s2, f3⟩ := o1.keep s1 h2
    have I2 := I.step s2
    refine ⟨.ref q, e1, ?_⟩
    refine hj ε _ (okO_some h4) Hi0 H0 Hi2 H1 σ _ I2 fun Hi3 H3 w s3 o3 => ?_
    have s23 := s2.trans s3
    have hq : H3 q = some (ks.ho vs) := s23.h _ _ e2
    obtain ⟨ks', xs', vs', g1, g2, g3, g4⟩ := putDc_ok hq e3 h5 (o3.rep s3.s (I2.step s3).st.h) (RepL.mono s23.i _ _ e4) (Rep.mono s3.i _ _ f3)
    refine ⟨q, _, rfl, g2, ?_⟩
    subst g1
    refine k Hi3 _ σ s23.i ((I.step s23).chg hun hε e1 fun fp o nd => ?_)
    obtain ⟨q', ws, fps, b1, b2, b3, b4, b5⟩ := o
    cases b1
    obtain ⟨b6, _⟩ := b5.zero
    subst b6
    rw [b4]
    exact ⟨List.mem_cons_self, q, vs', [], rfl, upd_same, g3, rfl, Owns.ofZero g4⟩
  have hs : swapsWithSole [.Subscript (.Name x p) pb p2] pa pos.line C.X.env = pure false := by cases pa <;> first | rfl | cases hc
  have hw : swappedStores [.Subscript (.Name x p) pb p2] pa C.X.env = pure none := by cases pa <;> rfl
  refine sU1_of (ps_asg peU (pg_sub hx peU set_list (fun v => by cases pb <;> first | rfl | exact (hsl _ _ _ _ rfl).elim)) hs hw rfl) (ob1 ha h I k fun r h1 Hi1 H1 u s1 I1 e0 o1 => ?_)
  simp only [Option.bind_eq_some_iff] at h1
  obtain ⟨d, h2, xs, h4, h3⟩ := h1
  obtain ⟨hε, q, vs, e1, e2, e3, e4, e5⟩ := I.own h4
  obtain ⟨Hi2, f1, s2, f3⟩ := o1.keep s1 h2
  have I2 := I.step s2
  refine ⟨.ref q, e1, ob1 hj h3 I2 (k.mono s2.i) fun y h5 Hi3 H3 w s3 I3 e0' o3 => ?_⟩
  simp only [Option.bind_eq_some_iff, Option.map_eq_some_iff] at h5
  obtain ⟨kk, h6, n, h7, rfl⟩ := h5
  have s23 := s2.trans s3
  have hq : H3 q = some (.lst vs) := s23.h _ _ e2
  refine ⟨q, vs, kk, n, rfl, int_of s3.s e0' o3 (asI_some h6), hq, by rw [← e5.length]; exact h7, ?_⟩
  exact k Hi3 _ σ s23.i ((I.step s23).mut hε e1 hq (s23.n q (by rw [e2]; exact fun z => nomatch z) e3) e4 ((RepL.mono s23.i _ _ e5).set (Rep.mono s3.i _ _ f3) n))
end
section
variable {G : Gt} {H : Hp}
theorem RepL.dropLast {ds : List D} {vs : List V} (h : RepL G H ds vs) : RepL G H ds.dropLast vs.dropLast := by
  rw [List.dropLast_eq_take, List.dropLast_eq_take, h.length]
  exact h.take _
theorem RepL.erase {ds : List D} {vs : List V} (h : RepL G H ds vs) (i : Nat) : RepL G H (ds.eraseIdx i) (vs.eraseIdx i) := by
  rw [List.eraseIdx_eq_take_drop_succ, List.eraseIdx_eq_take_drop_succ]
  exact (h.take _).append (h.drop _)
theorem ixN_range {n : Nat} {i : Int} {k : Nat} (h : ixN n i = some k) : -(n : Int) ≤ i ∧ i < n := by
  obtain ⟨_, _, h1, h2⟩ := ixN_seq h
  exact ⟨h1, h2⟩
end
section
variable {C : Ctx} {pos : Pos} {pe pa pb pc : Expr} {a b c : Ep}
/-- pop's arguments -/
def RPa (C : Ctx) (as : List Expr) (a : Epo) : Prop := (as = [] ∧ a = .no) ∨ ∃ pe e, as = [pe] ∧ a = .so e ∧ isStar pe = false ∧ RE C pe e
theorem pop_ok {x : Str} {p apos cpos : Pos} {as : List Expr} {i : Nat} {a : Epo} (hx : PE C.X (.Name x p) (tVar i)) (ha : RPa C as a) (hl : (apos.endLine == cpos.line) = true)
    {ε : Env} {xs : List D} {f : Option Int → Option O} {o : O} (h1 : ob ε (partD C.Φ a ε) f = some o) (h2 : ownL ε i = some xs) (hf : ∀ k, f k = some o → ∃ y r, popD xs k = some (y, r)) {Hi0 H0 Hi H : Hp} {σ : L2.St} {Q : VK} {Dn : Ends} (I : EnvOk C.G C.xp Hi0 H0 Hi H σ ε) (kO : GoodO C Hi0 H0 Hi Dn o)
    (k' : ∀ k y r, f k = some o → popD xs k = some (y, r) → ∀ Hi' H' q vs vs' u, Step Hi H Hi' H' → σ[i]? = some (some (.ref q)) → H' q = some (.lst vs) → RepL C.G Hi' r vs' → Rep C.G Hi' y u → Hi' q = none → H0 q = none → Q u (upd H' q (.lst vs'))) :
    tU C.X (.Call (.Attribute (.Name x p) "pop" apos) as [] cpos) σ H Q := by
  obtain ⟨hε, q, vs, e1, e2, e3, e4, e5⟩ := I.own h2
  rcases ha with ⟨rfl, rfl⟩ | ⟨pe, e, rfl, rfl, hs, he⟩
  · simp only [partD, rp, ob] at h1
    obtain ⟨y, r, h3⟩ := hf none h1
    have h3' := h3
    simp only [popD, Option.map_eq_some_iff] at h3
    obtain ⟨y', h4, h5⟩ := h3
    cases h5
    obtain ⟨u, f1, f2⟩ := e5.get h4
    refine tU_of (pe_bm0 PySem.F.plainAttrs_list PySem.F.slot_list_pop PySem.F.type_list_pop mt_pop hx rfl hl) ⟨.ref q, e1, tyL e2, q, vs, u, rfl, rfl, e2, by rw [← e5.length]; exact f1, ?_⟩
    exact k' none _ _ h1 h3' Hi H q vs _ u (Step.refl I.st.s) e1 e2 e5.dropLast f2 e3 e4
  · simp only [partD] at h1
    refine tU_of (pe_bm PySem.F.plainAttrs_list PySem.F.slot_list_pop PySem.F.type_list_pop mt_popAt hx (pa_cons peU pa_nil (star_no hs)) rfl (by rw [star_no hs]; rfl) hl (star_no hs) rfl)
      ⟨.ref q, e1, tyL e2, ?_⟩
    rcases ob_some h1 with ⟨c, ns, ds, g1, rfl⟩ | ⟨kk, g1, g2⟩
    · rcases rb_some g1 with ⟨c, ns, ds, g3, g4⟩ | ⟨z, g3, g4⟩
      · cases g4
        exact he ε _ g3 Hi0 H0 Hi H σ _ I (erO I kO)
      · obtain ⟨j, _, g5⟩ := rbl_some g4
        cases rp_some g5
    · rcases rb_some g1 with ⟨c, ns, ds, g3, g4⟩ | ⟨z, g3, g4⟩
      · cases g4
      · obtain ⟨j, g5, g6⟩ := rbl_some g4
        cases rp_some g6
        obtain ⟨y, r, h3⟩ := hf (some j) g2
        have h3' := h3
        simp only [popD] at h3
        split at h3
        case isFalse => cases h3
        case isTrue hsm =>
        simp only [Option.bind_eq_some_iff, Option.map_eq_some_iff] at h3
        obtain ⟨m, h4, y', h5, h6⟩ := h3
        cases h6
        refine he ε _ g3 Hi0 H0 Hi H σ _ I fun Hi1 H1 u s1 o1 => ?_
        obtain ⟨w, f1, f2⟩ := e5.get h5
        have hq : H1 q = some (.lst vs) := s1.h _ _ e2
        have hr := ixN_range h4
        have hsq := (ixN_seq h4).1
        rw [e5.length] at hr hsq
        refine ⟨q, vs, j, m, w, rfl, by rw [int_of s1.s (I.step s1).st.h o1 (asI_some g5)], hq, ?_, ?_, hsq, f1, ?_⟩
        · have := (smallI_ok hsm).1; omega
        · have := (smallI_ok hsm).2; omega
        · exact k' (some j) _ _ g2 h3' Hi1 H1 q vs _ w s1 e1 hq ((RepL.mono s1.i _ _ e5).erase m) (Rep.mono s1.i _ _ f2) (s1.n q (by rw [e2]; exact fun z => nomatch z) e3) e4
theorem sole_no {tg e : Expr} {l : Nat} {env : PySem.Env} (h : isComp e = false) : swapsWithSole [tg] e l env = pure false := by cases e <;> first | rfl | cases h
def isTup : Expr → Bool
  | .Tuple _ _ _ => true
  | _ => false
theorem stores_no {tg e : Expr} {env : PySem.Env} (h : isTup tg = false ∨ isTup e = false) (hl : ∀ a b, tg ≠ .List a b) : swappedStores [tg] e env = pure none := by
  rcases h with h | h
  · cases tg <;> first | rfl | exact absurd rfl (hl _ _) | cases h
  · cases e <;> first | (cases tg <;> rfl) | cases h
theorem s_popT {x : Str} {p apos cpos : Pos} {as : List Expr} {i : Nat} {a : Epo} {tg : Expr} {t : Tg} (hx : PE C.X (.Name x p) (tVar i)) (ha : RPa C as a) (hl : (apos.endLine == cpos.line) = true)
    (hg : PG C.X tg (tgT C.X.K t)) (f1 : (assignEach [tg] C.X.env).map (·.2) = [assign tg C.X.env]) (f2 : ∀ a b, tg ≠ .List a b) : RS C (.Assign [tg] (.Call (.Attribute (.Name x p) "pop" apos) as [] cpos) pos) (.popT t i a) := fun ε o h Hi0 H0 Hi H σ Dn I k => by
  simp only [execD, Option.bind_eq_some_iff] at h
  obtain ⟨xs, h2, h⟩ := h
  refine sU1_of (ps_asg peU hg (sole_no rfl) (stores_no (.inr rfl) f2) f1) (pop_ok hx ha hl h h2 (fun kk hk => ?_) I k fun kk y r hk h3 Hi' H' q vs vs' u s e1 e2 e3 e4 e5 e6 => ?_)
  · simp only [Option.bind_eq_some_iff] at hk
    obtain ⟨⟨y, r⟩, g1, _⟩ := hk
    exact ⟨y, r, g1⟩
  · simp only [Option.bind_eq_some_iff, Option.map_eq_some_iff] at hk
    obtain ⟨⟨y', r'⟩, g1, ε2, g2, rfl⟩ := hk
    rw [h3] at g1; cases g1
    have I2 := (I.step s).mut (I.own h2).1 e1 e2 e5 e6 e3
    exact tgT_ok (r := .sh y) g2 I2 (Step.refl I2.st.s) e4 fun σ2 I3 _ => k Hi' _ σ2 s.i I3
theorem s_appPop {x y : Str} {p apos cpos p2 apos2 cpos2 : Pos} {as : List Expr} {i j : Nat} {a : Epo} (hx : PE C.X (.Name x p) (tVar i)) (hy : PE C.X (.Name y p2) (tVar j)) (ha : RPa C as a)
    (hl : (apos.endLine == cpos.line) = true) (hl2 : (apos2.endLine == cpos2.line) = true) :
    RS C (.Expr (.Call (.Attribute (.Name x p) "append" apos) [.Call (.Attribute (.Name y p2) "pop" apos2) as [] cpos2] [] cpos) pos) (.appPop i j a) := fun ε o h Hi0 H0 Hi H σ Dn I k => by
  simp only [execD] at h
  split at h
  · cases h
  · rename_i hij
    simp only [Option.bind_eq_some_iff] at h
    obtain ⟨ys, h4, xs, h2, h⟩ := h
    obtain ⟨hε, q, vs, e1, e2, e3, e4, e5⟩ := I.own h4
    refine sU1_of (ps_expr (pe_bm PySem.F.plainAttrs_list PySem.F.slot_list_append PySem.F.type_list_append mt_append hx (pa_cons peU pa_nil rfl) rfl rfl hl rfl rfl) rfl)
      ⟨.ref q, e1, tyL e2, pop_ok hy ha hl2 h h2 (fun kk hk => ?_) I k fun kk z r hk h3 Hi' H' q' vs1 vs1' u s f1 f2 f3 f4 f5 f6 => ?_⟩
    · simp only [Option.bind_eq_some_iff] at hk
      obtain ⟨⟨y, r⟩, g1, _⟩ := hk
      exact ⟨y, r, g1⟩
    · simp only [Option.bind_eq_some_iff] at hk
      obtain ⟨⟨y', r'⟩, g1, h5⟩ := hk
      rw [h3] at g1; cases g1
      split at h5
      · rename_i hz
        cases h5
        have I2 := (I.step s).mut (I.own h2).1 f1 f2 f5 f6 f3
        have h4' : ownL (putL ε j r) i = some ys := by
          unfold ownL getS at h4 ⊢
          unfold putL
          rw [List.getElem?_set_ne (Ne.symm hij)]
          split at h4
          · rename_i n zs hz
            split at h4
            · rename_i hc
              rw [hz]
              show (if n = 1 ∧ noUs (ε.set j (some (.fr 1 (.lst r)))) = true then some zs else none) = some ys
              rw [if_pos ⟨hc.1, noUs_set j hc.2 rfl⟩]
              exact h4
            · cases h4
          · cases h4
        obtain ⟨gε, q2, ws, g1, g2, g3, g4, g5⟩ := I2.own h4'
        rw [e1] at g1; cases g1
        refine ⟨q, ws, u, rfl, rfl, g2, lt5 (by rw [← g5.length]; exact hz), ?_⟩
        exact k Hi' _ σ s.i (I2.mut gε e1 g2 g3 g4 (g5.append (RepL.cons f4 RepL.nil)))
      · cases h5
/-! ### changes within own lists -/
end
/-- the value at a path -/
def VIx (H : Hp) : V → List Int → V → Prop
  | x, [], v => v = x
  | x, i :: is, v => ∃ p vs y, x = .ref p ∧ H p = some (.lst vs) ∧ atI vs i = some y ∧ VIx H y is v
/-- .., the last step first -/
def VRx (H : Hp) (x : V) : List Int → V → Prop
  | [], v => v = x
  | i :: is, v => ∃ p vs, VRx H x is (.ref p) ∧ H p = some (.lst vs) ∧ atI vs i = some v
theorem VIx.snoc {H : Hp} : ∀ {is : List Int} {i : Int} {x v : V}, VIx H x (is ++ [i]) v → ∃ p vs, VIx H x is (.ref p) ∧ H p = some (.lst vs) ∧ atI vs i = some v
  | [], i, x, v, h => by
    obtain ⟨p, vs, y, e1, e2, e3, e4⟩ := h
    have e4 : v = y := e4
    subst e4
    exact ⟨p, vs, e1.symm, e2, e3⟩
  | j :: is, i, x, v, h => by
    obtain ⟨p, vs, y, e1, e2, e3, e4⟩ := h
    obtain ⟨q, ws, f1, f2, f3⟩ := VIx.snoc e4
    exact ⟨q, ws, ⟨p, vs, y, e1, e2, e3, f1⟩, f2, f3⟩
theorem VIx.rev {H : Hp} : ∀ {is : List Int} {x v : V}, VIx H x is.reverse v → VRx H x is v
  | [], x, v, h => h
  | i :: is, x, v, h => by
    rw [List.reverse_cons] at h
    obtain ⟨p, vs, f1, f2, f3⟩ := h.snoc
    exact ⟨p, vs, VIx.rev f1, f2, f3⟩
theorem VRx.mono {H H' : Hp} (e : Ex H H') {x : V} : ∀ {is : List Int} {v : V}, VRx H x is v → VRx H' x is v
  | [], v, h => h
  | i :: is, v, h => by
    obtain ⟨p, vs, f1, f2, f3⟩ := h
    exact ⟨p, vs, VRx.mono e f1, e _ _ f2, f3⟩
section
variable {G : Gt} {Hi H : Hp}
theorem Owns.at {n : Nat} : ∀ {xs : List D} {vs : List V} {fps : List Addr} {m : Nat} {y : D}, Owns G Hi H n xs vs fps → fps.Nodup → xs[m]? = some y → ∃ v f, vs[m]? = some v ∧ Own G Hi H n y v f ∧ f.Nodup ∧ (∀ p ∈ f, p ∈ fps) ∧
    ∀ H' y', Own G Hi H' n y' v f → (∀ p ∈ fps, p ∉ f → H' p = H p) → Owns G Hi H' n (xs.set m y') vs fps
  | [], _, _, _, _, _, _, e => by simp at e
  | x :: xs, vs, fps, m, y, h, nd, e => by
    obtain ⟨v, vs', f1, f2, rfl, rfl, h1, h2⟩ := h
    rw [List.nodup_append] at nd
    cases m with
    | zero =>
      simp at e; subst e
      refine ⟨v, f1, rfl, h1, nd.1, fun p hp => List.mem_append_left _ hp, fun H' y' o k => ?_⟩
      exact ⟨v, vs', f1, f2, rfl, rfl, o, Owns.keep (Evl.Ex.refl _) n xs vs' f2 (fun p hp => k p (List.mem_append_right _ hp) fun z => nd.2.2 p z p hp rfl) h2⟩
    | succ m =>
      obtain ⟨w, f, g1, g2, g3, g4, g5⟩ := Owns.at (m := m) (y := y) h2 nd.2.1 (by simpa using e)
      refine ⟨w, f, by simpa using g1, g2, g3, fun p hp => List.mem_append_right _ (g4 p hp), fun H' y' o k => ?_⟩
      refine ⟨v, vs', f1, f2, rfl, rfl, Own.keep (Evl.Ex.refl _) n x v f1 (fun p hp => k p (List.mem_append_left _ hp) fun z => nd.2.2 p hp p (g4 p z) rfl) h1, g5 H' y' o fun p hp hz => k p (List.mem_append_right _ hp) hz⟩
theorem Owns.bor_len {n : Nat} : ∀ {xs : List D} {vs : List V} {fps : List Addr}, Owns G Hi H n xs vs fps → xs.length = vs.length
  | [], _, _, h => by rw [h.1]; rfl
  | d :: ds, _, _, h => by
    obtain ⟨v, vs', f1, f2, rfl, _, _, h2⟩ := h
    simp [Owns.bor_len h2]
theorem Own.put {k : Int} {d : D} : ∀ (is : List Int) (t t' : D) (x : V) (fp : List Addr), Own G Hi H (is.length + 1) t x fp → fp.Nodup → setAt is k d t = some t' →
    ∃ q vs m, VIx H x is (.ref q) ∧ q ∈ fp ∧ H q = some (.lst vs) ∧ ixN vs.length k = some m ∧ ∀ w, Rep G Hi d w → Own G Hi (upd H q (.lst (vs.set m w))) (is.length + 1) t' x fp
  | [], t, t', x, fp, h, nd, e => by
    cases t <;> first | cases e | skip
    rename_i xs
    simp only [setAt, Option.map_eq_some_iff] at e
    obtain ⟨m, e1, rfl⟩ := e
    obtain ⟨p, vs, fps, rfl, h2, rfl, h3⟩ := h
    obtain ⟨rfl, h4⟩ := h3.zero
    refine ⟨p, vs, m, rfl, List.mem_cons_self, h2, by rw [← h4.length]; exact e1, fun w hw => ?_⟩
    exact ⟨p, _, [], rfl, upd_same, rfl, Owns.ofZero (h4.set hw m)⟩
  | i :: is, t, t', x, fp, h, nd, e => by
    cases t <;> first | cases e | skip
    rename_i xs
    simp only [setAt, Option.bind_eq_some_iff, Option.map_eq_some_iff] at e
    obtain ⟨m, e1, y, e2, y', e3, rfl⟩ := e
    obtain ⟨p, vs, fps, rfl, h2, rfl, h3⟩ := h
    rw [List.nodup_cons] at nd
    obtain ⟨v, f, g1, g2, g3, g4, g5⟩ := Owns.at h3 nd.2 e2
    obtain ⟨q, ws, m2, k1, k2, k3, k4, k5⟩ := Own.put is y y' v f g2 g3 e3
    have hpq : p ≠ q := fun z => nd.1 (z ▸ g4 q k2)
    refine ⟨q, ws, m2, ⟨p, vs, v, rfl, h2, ?_, k1⟩, List.mem_cons_of_mem _ (g4 q k2), k3, k4, fun w hw => ?_⟩
    · exact atI_of (Owns.bor_len h3).symm e1 g1
    · refine ⟨p, vs, fps, rfl, by rw [upd_ne hpq]; exact h2, rfl, g5 _ y' (k5 w hw) fun p' hp hz => ?_⟩
      rw [upd_ne fun (z : p' = q) => hz (z ▸ k2)]
end
section
variable {C : Ctx} {pos : Pos} {pe pa pb pc : Expr} {a b c : Ep}
theorem VRx.det {H : Hp} {x : V} : ∀ {is : List Int} {v w : V}, VRx H x is v → VRx H x is w → v = w
  | [], v, w, h, h' => (show v = x from h).trans (show w = x from h').symm
  | i :: is, v, w, h, h' => by
    obtain ⟨p, vs, f1, f2, f3⟩ := h
    obtain ⟨q, ws, g1, g2, g3⟩ := h'
    cases VRx.det f1 g1
    rw [f2] at g2; cases g2
    rw [f3] at g3; exact Option.some.inj g3
/-- a path from a name -/
def RPth (C : Ctx) (pe : Expr) (i : Nat) (js : Eps) : Prop := ∀ ε is, ixsD C.Φ js ε = some (.ok is) → ∀ Hi0 H0 Hi H σ (Q : VK), EnvOk C.G C.xp Hi0 H0 Hi H σ ε → ∀ x v, σ[i]? = some (some x) → VRx H x is v →
  (∀ Hi' H', Step Hi H Hi' H' → Q v H') → tU C.X pe σ H Q
theorem p_name {x : Str} {p : Pos} {i : Nat} (hx : PE C.X (.Name x p) (tVar i)) : RPth C (.Name x p) i .nil := fun ε is h Hi0 H0 Hi H σ Q I x v hs hv k => by
  simp only [ixsD] at h
  cases rp_some h
  have hv : v = x := hv
  subst hv
  exact tU_of hx ⟨v, hs, k Hi H (Step.refl I.st.s)⟩
theorem p_sub {i : Nat} {js : Eps} (hp : RPth C pe i js) (hj : RE C pb b) (hs : PlainIx pb) : RPth C (.Subscript pe pb pos) i (.cons b js) := fun ε is h Hi0 H0 Hi H σ Q I x v hx hv k => by
  simp only [ixsD] at h
  rcases rb_some h with ⟨_, _, _, _, h2⟩ | ⟨y, h1, h2⟩
  · cases h2
  obtain ⟨j, h3, h4⟩ := rbl_some h2
  rcases rb_some h4 with ⟨_, _, _, _, h5⟩ | ⟨is', h5, h6⟩
  · cases h5
  cases rp_some h6
  obtain ⟨p, vs, f1, f2, f3⟩ := hv
  refine tU_of (pe_ix ix_list peU peU hs) ?_
  refine hp ε is' h5 Hi0 H0 Hi H σ _ I x (.ref p) hx f1 fun Hi1 H1 s1 => ?_
  refine hj ε _ h1 Hi0 H0 Hi1 H1 σ _ (I.step s1) fun Hi2 H2 w s2 o2 => ?_
  exact ⟨p, vs, j, v, rfl, int_of s2.s ((I.step s1).step s2).st.h o2 (asI_some h3), SqL.of (s2.h _ _ (s1.h _ _ f2)), f3, k Hi2 H2 (s1.trans s2)⟩
theorem s_setp {p2 : Pos} {i : Nat} {js : Eps} (hp : RPth C pe i js) (hj : RE C pb b) (ha : RE C pa a) (hsl : ∀ a b c d, pb = .Slice a b c d → False) (hc : isComp pa = false) :
    RS C (.Assign [.Subscript pe pb p2] pa pos) (.setp i js b a) := fun ε o h Hi0 H0 Hi H σ Dn I k => by
  simp only [execD] at h
  have hs : swapsWithSole [.Subscript pe pb p2] pa pos.line C.X.env = pure false := by cases pa <;> first | rfl | cases hc
  have hw : swappedStores [.Subscript pe pb p2] pa C.X.env = pure none := by cases pa <;> rfl
  refine sU1_of (ps_asg peU (pg_sub peU peU set_list (fun v => by cases pb <;> first | rfl | exact (hsl _ _ _ _ rfl).elim)) hs hw rfl) (ob1 ha h I k fun r h1 Hi1 H1 u s1 I1 e0 o1 => ?_)
  simp only [Option.bind_eq_some_iff, Option.map_eq_some_iff] at h1
  obtain ⟨d, h2, is, h3, x, h4, kk, h5, ε2, h6, rfl⟩ := h1
  obtain ⟨Hi2, f1, s2, f3⟩ := o1.keep s1 h2
  have I2 := I.step s2
  unfold putD at h6
  split at h6
  case h_2 => cases h6
  rename_i n t hg
  split at h6
  case isFalse => cases h6
  case isTrue hcn =>
  obtain ⟨rfl, hun⟩ := hcn
  simp only [Option.map_eq_some_iff] at h6
  obtain ⟨t', h7, rfl⟩ := h6
  obtain ⟨v, fp, g1, y, g2, g3, g4, g5⟩ := I2.at hg
  subst g2
  obtain ⟨q, vs, m, k1, k2, k3, k4, k5⟩ := Own.put is.reverse t t' y fp g3 g4 h7
  refine hp ε is (okO_some h3) Hi0 H0 Hi2 H1 σ _ I2 y (.ref q) g1 k1.rev fun Hi3 H3 s3 => ?_
  have I3 := I2.step s3
  refine hj ε _ (okO_some h4) Hi0 H0 Hi3 H3 σ _ I3 fun Hi4 H4 w s4 o4 => ?_
  have s34 := s3.trans s4
  have I4 := I2.step s34
  have hq : H4 q = some (.lst vs) := s34.h _ _ k3
  refine ⟨q, vs, kk, m, rfl, int_of s4.s I4.st.h o4 (asI_some h5), hq, k4, ?_⟩
  refine k Hi4 _ σ (s2.trans s34).i (I4.chg hun (getS_some hg) g1 fun fp' o' nd => ?_)
  obtain ⟨q', vs', m', j1, j2, j3, j4, j5⟩ := Own.put is.reverse t t' y fp' o' nd h7
  have : V.ref q' = V.ref q := VRx.det j1.rev ((k1.rev).mono s34.h)
  cases this
  rw [hq] at j3; cases j3
  rw [k4] at j4; cases j4
  exact ⟨j2, j5 u (Rep.mono s34.i _ _ f3)⟩
theorem s_ku {st : Stmt} {ss : Sms} {sts : List Stmt} (h : RSs C sts ss) : RSs C sts (.cons .ku ss) := fun ε o e Hi0 H0 Hi H σ Dn I k => by
  have e' : execsD C.Φ ss (dropU ε) = some o := by simpa [execsD, execD] using e
  exact h (dropU ε) o e' Hi0 H0 Hi H σ Dn I.dropU k
end
end EG
namespace EG
open PySem PySem.Spec PyProof.Rows L2 L2H
/-! ### range(a, b, c) -/
theorem wk_rangec {G : Gt} {H0 : Hp} {g : Hp → Hp → Prop} {lo c : Int} {n : Nat} (hs : ∀ Hi H, g Hi H → Ex Hi H) : Wk G H0 (Itc lo c n) g ((List.range n).map fun (k : Nat) => .sh (.int (lo + (k : Int) * c))) := by
  refine ⟨fun i Hi H hi' gg => by rw [List.length_map, List.length_range] at hi'; exact hi', fun i Hi H x H' gg hi' y => ?_, fun Hi H gg => by rw [List.length_map, List.length_range]; exact Nat.le_refl _⟩
  obtain ⟨e, y⟩ := y
  rw [List.length_map, List.length_range] at hi'
  subst y e
  refine ⟨Hi, .sh (.int (lo + (i : Int) * c)), Step.refl (hs Hi H' gg), ?_, rfl⟩
  rw [List.getElem?_map, List.getElem?_range hi']
  rfl
theorem rg_small {i j c : Int} (hi : smallI i = true) (hj : smallI j = true) (h0 : 0 < c) (h1 : c < 1000000) : RgC i j c (if i < j then (j - i - 1) / c + 1 else 0).toNat := by
  obtain ⟨a1, a2⟩ := smallI_ok hi
  obtain ⟨b1, b2⟩ := smallI_ok hj
  have hsz : Builtin.Range.rangeSize i j c = if i < j then (j - i - 1) / c + 1 else 0 := by
    unfold Builtin.Range.rangeSize
    rw [if_pos (show c > 0 from h0)]
  have hd : i < j → 0 ≤ (j - i - 1) / c ∧ (j - i - 1) / c ≤ j - i - 1 := fun h => ⟨Int.ediv_nonneg (by omega) (by omega), Int.ediv_le_self _ (by omega)⟩
  refine ⟨by omega, by omega, ?_, ?_⟩
  · unfold Builtin.Range.small
    rw [hsz]
    simp only [Builtin.Range.rangeFitsLong, Bool.and_eq_true, Bool.or_eq_true, decide_eq_true_eq, beq_iff_eq, show c > 0 from h0, if_true]
    split
    · rename_i h
      have := hd h
      omega
    · omega
  · rw [hsz]
    split
    · rename_i h
      have := hd h
      omega
    · rfl
theorem r3_ok {C : Ctx} {tg pa pb pc : Expr} {es : Eps} {p pos : Pos} (hg : Gl C.X "range") (hm : C.X.mg "range" = none) (hs : noStars [pa, pb, pc] = true) (ha : RA C [pa, pb, pc] es) {gd : Hp → Hp → Hp → Hp → Prop} (hgd : ∀ a b c d, gd a b c d → Ex c d) {ε : Env} {o : Rz (List Vl)} (h : iterD C.Φ (.r3 es) ε = some o) {Hi0 H0 Hi H : Hp} {σ : L2.St} {R : L2.It → Hp → Prop} (I : EnvOk C.G C.xp Hi0 H0 Hi H σ ε)
    (k : GoodI C H0 Hi H σ R gd o) : tUI C.X tg (.Call (.Name "range" p) [pa, pb, pc] [] pos) σ H R := by
  simp only [iterD] at h
  obtain ⟨s1, s2⟩ := noStars_cons hs
  refine tUI_of (pi_range3 hg hm paU (star_no s1) (stars_no s2)) (unA ha h I (erI k) fun rs h1 Hi1 H1 xs s1 I1 o1 => ?_)
  obtain ⟨vs, h2, rfl⟩ := rl_some h1
  unfold rg3D at h2
  split at h2
  · rename_i i j c
    split at h2
    · rename_i hc
      cases h2
      obtain ⟨x, ys, rfl, e1, x2, ys2, rfl, e2, x3, ys3, rfl, e3, e4⟩ := o1
      cases (show x = .int i from e1)
      cases (show x2 = .int j from e2)
      cases (show x3 = .int c from e3)
      cases (show ys3 = [] from e4)
      exact ⟨i, j, c, _, rfl, rg_small hc.1 hc.2.1 hc.2.2.1 hc.2.2.2, k Hi1 H1 _ s1 (wk_rangec (hgd _ _))⟩
    · cases h2
  · cases h2
/-! ### own classes: isinstance, ==, +, calls of objects -/
/-- what isinstance asks of an own class -/
structure InsK (K : PySem.W.Frag) (C : Addr) : Prop where
  cl : Cls K C
  ha : PySem.W.findIn K (.ref C) "__class__" = some (some (.builtin "object.__class__"))
  hn : PySem.W.specialIn K (.builtin "object.__class__") "__get__" = some (some (.builtin "getset_descriptor.__get__"))
  htk : PySem.W.takesIn K (.builtin "object.__class__") = some true
  hm : PySem.W.mroIn K C (.type "object") = some true
def typD (G : Gt) : D → Value
  | .obj c _ _ => .ref (G.cl c)
  | d => .type (tyD d)
theorem tyo_of {G : Gt} {H : Hp} {d : D} {x : V} (q : Rep G H d x) (h1 : okT d = true) (h2 : ∀ c ns ds, d = .obj c ns ds → InsK G.K (G.cl c)) : TyOf G.K H x (typD G d) := by
  cases d with
  | non => rw [show x = .non from q]; exact .non
  | bl b => rw [show x = .bl b from q]; exact .bl b
  | int b => rw [show x = .int b from q]; exact .int b
  | str b => rw [show x = .str b from q]; exact .str b
  | lst xs => obtain ⟨p, vs, rfl, h2, _⟩ := q; exact .lst h2
  | tup xs => obtain ⟨p, vs, rfl, h2, _⟩ := q; exact .tup h2
  | scr ns => cases h1
  | dct ks xs => cases h1
  | obj c ns xs =>
    obtain ⟨k1, k2, k3, k4, k5⟩ := h2 c ns xs rfl
    obtain ⟨p, dx, vs, rfl, e, _⟩ := q
    exact .ins e k1 k2 k3 k4 k5
theorem tyx_of {G : Gt} {H : Hp} {d : D} {x : V} (q : Rep G H d x) (h1 : okT d = true) (h2 : ∀ c ns ds, d = .obj c ns ds → InsK G.K (G.cl c)) : TyX G.K H x (typD G d) := .base (tyo_of q h1 h2)
theorem ty_looks {X : Cx} {pins : List (Addr × Obj)} {σ : L2.St} {H : Hp} {s : Shared} (I : Inv X pins σ H s) {x : V} {u t : Value} (rx : RelV x u) (ty : TyOf X.K H x t) : PySem.W.Looks (model X.prog X.w) s.heap (typeOf u) t := by
  cases ty with
  | non => cases (show u = Value.none from rx); exact PySem.W.Looks.of_pure rfl
  | bl y => cases (show u = Value.bool y from rx); exact PySem.W.Looks.of_pure rfl
  | int i => obtain ⟨t, q⟩ := (show ∃ t, u = Value.int i t from rx); cases q; exact PySem.W.Looks.of_pure rfl
  | str y => obtain ⟨t, q⟩ := (show ∃ t, u = Value.str y t from rx); cases q; exact PySem.W.Looks.of_pure rfl
  | flt y => obtain ⟨t, q⟩ := (show ∃ t, u = Value.float y t from rx); cases q; exact PySem.W.Looks.of_pure rfl
  | @lst a xs ea =>
    cases (show u = Value.ref a from rx)
    obtain ⟨_, _, n, _, h1⟩ := (show ObjOk X.prog X.w H s.heap a (.lst xs) from I.hok a _ ea)
    exact (PySem.W.Looks.ld h1).andThen .now
  | @frz a ob xs ea =>
    cases (show u = Value.ref a from rx)
    obtain ⟨_, _, _, n, _, h1⟩ := (show ObjOk X.prog X.w H s.heap a (.frz ob (.lst xs)) from I.hok a _ ea)
    exact (PySem.W.Looks.ld h1).andThen .now
  | @tup a xs ea =>
    cases (show u = Value.ref a from rx)
    obtain ⟨_, _, _, o, h1, h2, _⟩ := (show ObjOk X.prog X.w H s.heap a (.tup xs) from I.hok a _ ea)
    exact h2 ▸ (PySem.W.Looks.ld h1).andThen .now
  | @dK a kvs ea =>
    cases (show u = Value.ref a from rx)
    obtain ⟨_, _, vs, _, o, es, ep, h1, h2, _⟩ := (show ObjOk X.prog X.w H s.heap a (.dK kvs) from I.hok a _ ea)
    exact h2.1 ▸ (PySem.W.Looks.ld h1).andThen .now
  | @dT a kvs ea =>
    cases (show u = Value.ref a from rx)
    obtain ⟨_, _, xs, _, o, es, ep, h1, h2, _⟩ := (show ObjOk X.prog X.w H s.heap a (.dT kvs) from I.hok a _ ea)
    exact h2.1 ▸ (PySem.W.Looks.ld h1).andThen .now
  | @ins a C dx fs ea cl ha hn htk hm =>
    cases (show u = Value.ref a from rx)
    obtain ⟨mA, O, _⟩ := ins_get I.hok ea
    obtain ⟨od, J, _⟩ := O.look
    exact J.type
/-- a value that is not NotImplemented -/
def blOb (v : V) : Prop := (∃ b, v = .bl b) ∨ ∃ a, v = .ref a
theorem cmpBack {X : Cx} {pins : List (Addr × Obj)} {σ : L2.St} {Q : VK} {v : Value} {s' : Shared} (h : EP X pins σ (fun v H' => Q v H' ∧ blOb v) v s') : PySem.W.CmpBack (EP X pins σ Q) v s' := by
  obtain ⟨v', H', I', rv, q1, q2⟩ := h
  have g : EP X pins σ Q v s' := ⟨v', H', I', rv, q1⟩
  rcases q2 with ⟨b, rfl⟩ | ⟨a, rfl⟩
  · cases (show v = Value.bool b from rv); exact g
  · cases (show v = Value.ref a from rv); exact g
def W0 : WX := fun _ _ _ _ => False
theorem takes0 {X : Cx} : Takes X W0 := by
  rintro u s' ⟨a, B, sI, pins, σ, H, cls, d, e, I, nb, up, sky, na, os, ag, w⟩
  exact w.elim
section
variable {X : Cx} {hot : Bool} {k : Nat} {f C : Addr} {fd : FuncData} {ps : List Str} {sp : Sp}
def rOwn (X : Cx) (C : Addr) (sp : Sp) (same : Bool) : R2 := fun x y H Q => ∃ a dx fs t, x = .ref a ∧ H a = some (.ins C dx fs) ∧ TyOf X.K H y t ∧ (if same = true then t = .ref C else PySem.W.notFirst X.K C t = true) ∧ sp [x, y] H (fun v H' => Q v H' ∧ blOb v) fun _ _ _ => False
theorem op_ownEq (F : FnE X.prog X.w X.K X.mg X.base hot k f fd ps sp) (hr : RoomE k X.A) (hh : ∀ pins σ H s, Inv X pins σ H s → HotP hot X.A X.stack H s) (hb : Binds X.K fd ps []) (me : Meth X.K C "__eq__" f) (hu : X.A.units < cLine) :
    OpR X (compareOp .Eq) (rOwn X C sp false) := by
  intro pins s σ H x y v u Q I rx ry h
  obtain ⟨a, dx, fs, t, rfl, ea, ty, hn, h⟩ := h
  cases (show v = Value.ref a from rx)
  obtain ⟨mA, J, _⟩ := ins_get I.hok ea
  obtain ⟨od, J, _⟩ := J.look
  obtain ⟨m, hF⟩ := I.fr
  show wpAny (model X.prog X.w) X.A (richCompare .Eq (.ref a) u) (EP X pins σ Q) X.xe s
  refine PySem.W.cmp_K (op := .Eq) (tb := t) hu hF I.ok.mod.kin J (ty_looks I ry ty) (by simpa using hn) me.at_ me.fn ?_
  exact wpAny_mono (run_fnE F hr (hh _ _ _ _ I) hb takes0 I (vs := [.ref a, y]) (.cons rfl (.cons ry .nil)) h) (fun v s' q => cmpBack q) fun _ _ x => x
theorem op_ownAdd (F : FnE X.prog X.w X.K X.mg X.base hot k f fd ps sp) (hr : RoomE k X.A) (hh : ∀ pins σ H s, Inv X pins σ H s → HotP hot X.A X.stack H s) (hb : Binds X.K fd ps []) (me : Meth X.K C "__add__" f) (hsf : PySem.W.selfFirst X.K C = true) :
    OpR X (binaryOp .Add) (rOwn X C sp true) := by
  intro pins s σ H x y v u Q I rx ry h
  obtain ⟨a, dx, fs, t, rfl, ea, ty, hn, h⟩ := h
  cases (show v = Value.ref a from rx)
  obtain ⟨mA, J, _⟩ := ins_get I.hok ea
  obtain ⟨od, J, _⟩ := J.look
  obtain ⟨m, hF⟩ := I.fr
  have hn : t = .ref C := by simpa using hn
  subst hn
  refine PySem.W.binop_K (op := .Add) hF I.ok.mod.kin J (ty_looks I ry ty) hsf me.at_ me.fn ?_
  exact wpAny_mono (run_fnE F hr (hh _ _ _ _ I) hb takes0 I (vs := [.ref a, y]) (.cons rfl (.cons ry .nil)) h) (fun v s' q => cmpBack q) fun _ _ x => x
theorem run_fnEc {W : WX} {pins : List (Addr × Obj)} {σ : L2.St} {H : Hp} {s : Shared} {Q : VK} {us : List Value} {vs : List V} (F : FnE X.prog X.w X.K X.mg X.base hot k f fd ps sp) (hr : RoomE k X.A)
    (hh : HotP hot X.A X.stack H s) (hb : Binds X.K fd ps []) (tk : Takes X W) (I : Inv X pins σ H s) (r : Vals vs us) (h : sp vs H Q (WE W σ)) : codeAny (model X.prog X.w) X.A (.call (Value.ref f) { pos := us }) (wants (EP X pins σ Q) X.xe) s := by
  have hl : us.length = ps.length := by rw [← F.len vs H Q (WE W σ) h]; exact (Vals.length r).symm
  have b := hb s us (Inv.kIn I) (by rw [List.append_nil]; exact hl)
  rw [List.append_nil] at b
  refine codeAny_mono (F.run X.A X.stack s H { pos := us } us vs Q (WE W σ) hr hh (Inv.env0 I) b r h) fun r s' hq => ?_
  cases r with
  | error e => exact passAt tk σ pins H s e s' I hq
  | ok fl =>
    cases fl with
    | ret u => exact Inv.after I hq
    | next => exact hq.elim
    | brk => exact hq.elim
    | cont => exact hq.elim
end
end EG
namespace EG
open PySem PySem.Spec PyProof.Rows L2 L2H
section
variable {C : Ctx} {pe pa pb pc : Expr} {a b c : Ep} {pos : Pos}
/-- isinstance(x, T), T an own class -/
structure IsC (C : Ctx) (al : List Nat) (c : Nat) (t : Str) : Prop where
  m : C.X.mg t = some (.ref (C.G.cl c))
  ob : ∀ c', al.contains c' = true → InsK C.X.K (C.G.cl c') ∧ PySem.W.kitOne C.X.K (.ref (C.G.cl c')) (.ref (C.G.cl c)) = some (decide (c' = c))
  no : ∀ n ∈ ["NoneType", "bool", "int", "str", "list", "tuple", "dict"], PySem.W.kitOne C.X.K (.type n) (.ref (C.G.cl c)) = some false
theorem isc_okT {al : List Nat} {c : Nat} {d : D} {b : Bool} (h : iscD al c d = some b) : (∃ c' ns ds, d = .obj c' ns ds ∧ al.contains c' = true ∧ b = decide (c' = c)) ∨ (∃ n ∈ ["NoneType", "bool", "int", "str", "list", "tuple", "dict"], (∀ G, typD G d = .type n) ∧ (okT d = true ∨ ∃ ks xs, d = .dct (.k ks) xs) ∧ b = false ∧ ∀ c ns ds, d ≠ .obj c ns ds) := by
  cases d with
  | obj c' ns ds =>
    simp only [iscD] at h
    split at h
    · rename_i hc; cases h; exact .inl ⟨c', ns, ds, rfl, hc, rfl⟩
    · cases h
  | scr ns => cases h
  | dct ks xs =>
    cases ks with
    | k ks => cases h; exact .inr ⟨"dict", by simp, fun G => rfl, .inr ⟨ks, xs, rfl⟩, rfl, fun _ _ _ z => nomatch z⟩
    | t ks => cases h
  | non => cases h; exact .inr ⟨"NoneType", by simp, fun G => rfl, .inl rfl, rfl, fun _ _ _ z => nomatch z⟩
  | bl b => cases h; exact .inr ⟨"bool", by simp, fun G => rfl, .inl rfl, rfl, fun _ _ _ z => nomatch z⟩
  | int b => cases h; exact .inr ⟨"int", by simp, fun G => rfl, .inl rfl, rfl, fun _ _ _ z => nomatch z⟩
  | str b => cases h; exact .inr ⟨"str", by simp, fun G => rfl, .inl rfl, rfl, fun _ _ _ z => nomatch z⟩
  | lst b => cases h; exact .inr ⟨"list", by simp, fun G => rfl, .inl rfl, rfl, fun _ _ _ z => nomatch z⟩
  | tup b => cases h; exact .inr ⟨"tuple", by simp, fun G => rfl, .inl rfl, rfl, fun _ _ _ z => nomatch z⟩
theorem r_isc (hk : C.X.K = C.G.K) {al : List Nat} {c : Nat} {t : Str} {p p2 : Pos} (J : IsC C al c t) (hg : Gl C.X "isinstance") (hm : C.X.mg "isinstance" = none) (hg2 : Gl C.X t) (htd : (t == ("__debug__" : Str)) = false) (hs : isStar pa = false)
    (ha : RE C pa a) : RE C (.Call (.Name "isinstance" p) [pa, .Name t p2] [] pos) (.isc al c a) := by
  intro ε o h Hi0 H0 Hi H σ Q I k
  simp only [evalD] at h
  refine tU_of (pe_callB call_isi hg hm (by decide +kernel) (pa_cons peU (pa_cons (pe_glob (v := .ref (C.G.cl c)) hg2 J.m rfl htd) pa_nil) (star_no hs)) (by decide) (by decide) (star_no hs) rfl)
    (un1 ha h I (erV k) fun x h1 Hi1 H1 u s1 I1 e0 o1 => ?_)
  obtain ⟨b, h2, h3⟩ := rbl_some h1
  cases rp_some h3
  have q := o1.rep s1.s e0
  rcases isc_okT h2 with ⟨c', ns, ds, e, hc, rfl⟩ | ⟨n, hn, e, hok, rfl, hno⟩
  · obtain ⟨j1, j2⟩ := J.ob c' hc
    refine ⟨u, .ref (C.G.cl c), .ref (C.G.cl c'), .ref (C.G.cl c), _, rfl, .own _, ?_, j2, k Hi1 H1 _ s1 rfl⟩
    rw [e] at q
    obtain ⟨p, dx, vs, rfl, e1, _⟩ := q
    exact .base (.ins e1 j1.cl j1.ha j1.hn j1.htk j1.hm)
  · refine ⟨u, .ref (C.G.cl c), .type n, .ref (C.G.cl c), _, rfl, .own _, ?_, J.no n hn, k Hi1 H1 _ s1 rfl⟩
    rw [hk, ← e C.G]
    rcases hok with hok | ⟨ks, xs, hd⟩
    · exact tyx_of q hok fun c ns ds z => absurd z (hno c ns ds)
    · rw [hd] at q ⊢
      obtain ⟨p, vs, rfl, h2, _⟩ := q
      exact .base (.dK h2)
/-- an own == or + -/
structure OpC (C : Ctx) (hot : Bool) (m : Str) (same : Bool) (c : Nat) (φ : List Vl → Rs Vl) : Prop extends MeI C hot c m φ where
  ins : InsK C.X.K (C.G.cl c)
  sf : same = true → PySem.W.selfFirst C.X.K (C.G.cl c) = true
  nf : same = false → ∀ n ∈ ["NoneType", "bool", "int", "str", "list", "tuple"], PySem.W.notFirst C.X.K (C.G.cl c) (.type n) = true
theorem methD_some {m : Str} {x : Vl} {fx : Nat × Vl} (h : methD C.Φ m x = some fx) : ∃ c ns ds f, x.d = .obj c ns ds ∧ ns.contains m = false ∧ C.Φ.meth c m = some f ∧ fx.1 = f ∧ x.argd = some fx.2 := by
  unfold methD at h
  split at h
  · rename_i c ns ds e
    split at h
    · cases h
    · rename_i hc
      simp only [Option.bind_eq_some_iff, Option.map_eq_some_iff] at h
      obtain ⟨f, h1, x', h2, rfl⟩ := h
      exact ⟨c, ns, ds, f, e, by simpa using hc, h1, rfl, h2⟩
  · cases h
theorem argd_d {x q : Vl} (h : x.argd = some q) : q.d = x.d := by cases x <;> cases h <;> rfl
theorem blV_some {r : Vl} {t : Bool} (h : blV r = some t) : r = .sh (.bl t) := by
  unfold blV at h
  split at h
  · cases h; rfl
  · cases h
theorem obV_some {r z : Vl} (h : obV r = some z) : ∃ c ns ds, r = .sh (.obj c ns ds) ∧ z = r := by
  unfold obV at h
  split at h
  · cases h; exact ⟨_, _, _, rfl, rfl⟩
  · cases h
/-- both sides of an own operator -/
theorem own_core {hot : Bool} {m : Str} {same : Bool} {f : Value → Value → Sem Value} (hk : C.X.K = C.G.K) (hop : ∀ {k : Nat} {fa D : Addr} {fd : FuncData} {ps : List Str} {sp : Sp}, FnE C.X.prog C.X.w C.X.K C.X.mg C.X.base hot k fa fd ps sp → RoomE k C.X.A → Binds C.X.K fd ps [] → Meth C.X.K D m fa → (same = true → PySem.W.selfFirst C.X.K D = true) → OpR C.X f (rOwn C.X D sp same))
    (hM : ∀ c f, C.Φ.meth c m = some f → OpC C hot m same c (C.Φ.call f)) (ha : RE C pa a) (hb : RE C pb b) {ε : Env} {β : Type} {T : D → D → Bool} {g : Vl → Option β} (hT : ∀ c ns ds y, T (.obj c ns ds) y = true → okT y = true ∧ (same = true → ∃ ns' ds', y = .obj c ns' ds') ∧ ∀ c' ns' ds', y = .obj c' ns' ds' → c' = c)
    {o : Rz β} (h : (rb (evalD C.Φ a ε) fun x => rb (rl (methD C.Φ m x)) fun fx => rb (evalD C.Φ b ε) fun y => rb (rl y.argd) fun y' => if T x.d y.d = true then rl ((okO (C.Φ.call fx.1 [fx.2, y'])).bind g) else none) = some o)
    (hg : ∀ r z, g r = some z → (∃ b, r = .sh (.bl b)) ∨ ∃ c ns ds, r = .sh (.obj c ns ds)) :
    ∃ rr : R2, OpR C.X f rr ∧ ∀ Hi0 H0 Hi H σ (Q : VK), EnvOk C.G C.xp Hi0 H0 Hi H σ ε → (∀ c ns ds, o = .er c ns ds → ErOk C Hi H σ c ns ds) → (∀ z r Hi' H' x, o = .ok z → g r = some z → Step Hi H Hi' H' → VlOk C.G H0 H Hi' H' r x → Q x H') → tU C.X pa σ H fun u H1 => tU C.X pb σ H1 fun v H2 => rr u v H2 Q := by
  rcases rb_some h with ⟨c, ns, ds, h1, rfl⟩ | ⟨x, h1, h2⟩
  · exact ⟨_, op0, fun Hi0 H0 Hi H σ Q I ke _ => ha ε _ h1 Hi0 H0 Hi H σ _ I (ke _ _ _ rfl)⟩
  obtain ⟨fx, h3, h4⟩ := rbl_some h2
  obtain ⟨c, ns, ds, fi, e, hnc, hme, hfi, hx'⟩ := methD_some h3
  have M := hM c fi hme
  obtain ⟨cls, lv, fa, fd, ps, me, hb', hrm, F, hl, hnb⟩ := M.toMeI
  refine ⟨_, hop F hrm hb' me M.sf, fun Hi0 H0 Hi H σ Q I ke kk => ?_⟩
  refine ha ε _ h1 Hi0 H0 Hi H σ _ I fun Hi1 H1 u s1 o1 => ?_
  obtain ⟨Hi2, s2, oa⟩ := o1.arg s1 (I.step s1).st.h hx'
  have I2 := I.step s2
  rcases rb_some h4 with ⟨c', ns', ds', h5, rfl⟩ | ⟨y, h5, h6⟩
  · exact hb ε _ h5 Hi0 H0 Hi2 H1 σ _ I2 (ErOk.step s2 (ke _ _ _ rfl))
  refine hb ε _ h5 Hi0 H0 Hi2 H1 σ _ I2 fun Hi3 H3 v s3 o3 => ?_
  obtain ⟨y', h7, h8⟩ := rbl_some h6
  split at h8
  case isFalse => cases h8
  case isTrue hTT =>
  obtain ⟨z, h9, rfl⟩ := rl_some h8
  simp only [Option.bind_eq_some_iff] at h9
  obtain ⟨r, h11, h12⟩ := h9
  have h13 := okO_some h11
  rw [hfi] at h13
  obtain ⟨Hi4, s4, ob⟩ := o3.arg s3 (I2.step s3).st.h h7
  have oa4 := oa.step s4
  have qx := (oa4.vl (H0 := H3) (Hb := H3)).rep s4.s (Evl.Ex.refl _)
  rw [argd_d hx', e] at qx
  obtain ⟨a', dx, vs, rfl, e2, el, e3⟩ := qx
  have qy := (ob.vl (H0 := H3) (Hb := H3)).rep s4.s (Evl.Ex.refl _)
  rw [argd_d h7] at qy
  rw [e] at hTT
  obtain ⟨t1, t2, t3⟩ := hT c ns ds y.d hTT
  have ty : TyOf C.X.K H3 v (typD C.G y.d) := by
    rw [hk]
    refine tyo_of qy t1 fun c' ns' ds' ey => ?_
    rw [t3 c' ns' ds' ey, ← hk]; exact M.ins
  refine ⟨a', dx, _, _, rfl, e2, ty, ?_, ?_⟩
  · cases same with
    | true =>
      obtain ⟨ns', ds', ey⟩ := t2 rfl
      rw [if_pos rfl, ey]; rfl
    | false =>
      rw [if_neg (by decide)]
      have nf := M.nf rfl
      generalize ey : y.d = dy at *
      cases dy with
      | obj c' ns' ds' =>
        rw [show c' = c from t3 c' ns' ds' rfl]
        show PySem.W.notFirst C.X.K (C.G.cl c) (.ref (C.G.cl c)) = true
        unfold PySem.W.notFirst
        simp
      | non => exact nf "NoneType" (by simp)
      | bl b => exact nf "bool" (by simp)
      | int b => exact nf "int" (by simp)
      | str b => exact nf "str" (by simp)
      | lst b => exact nf "list" (by simp)
      | tup b => exact nf "tuple" (by simp)
      | scr b => cases t1
      | dct b d => cases t1
  · refine ⟨(hl _ _ h13), Hi4, [fx.2, y'], .ok r, h13, s4.s, ⟨.ref a', [v], rfl, oa4, v, [], rfl, ob, rfl⟩, fun Hi' H' w st ow => ?_⟩
    have hw : VlOk C.G H0 H Hi' H' r w ∧ blOb w := by
      rcases hg r z h12 with ⟨b, rfl⟩ | ⟨c'', ns'', ds'', rfl⟩
      · exact ⟨ow, .inl ⟨b, ow⟩⟩
      · refine ⟨ow, .inr ?_⟩
        obtain ⟨p, dx, vs, hp, _⟩ := (show Rep C.G Hi' (.obj c'' ns'' ds'') w from ow)
        exact ⟨p, hp⟩
    exact ⟨kk z r Hi' H' w rfl h12 ((s2.trans s4).trans st) hw.1, hw.2⟩
theorem eqT_obj {c : Nat} {ns : List Str} {ds : List D} {y : D} (h : eqT (.obj c ns ds) y = true) : okT y = true ∧ (false = true → ∃ ns' ds', y = .obj c ns' ds') ∧ ∀ c' ns' ds', y = .obj c' ns' ds' → c' = c := by
  cases y with
  | obj c' ns' ds' =>
    simp only [eqT, decide_eq_true_eq] at h
    exact ⟨rfl, fun z => (nomatch z), fun _ _ _ z => by cases z; exact h⟩
  | _ => exact ⟨h, fun z => (nomatch z), fun _ _ _ z => nomatch z⟩
theorem adT_obj {c : Nat} {ns : List Str} {ds : List D} {y : D} (h : adT (.obj c ns ds) y = true) : okT y = true ∧ (true = true → ∃ ns' ds', y = .obj c ns' ds') ∧ ∀ c' ns' ds', y = .obj c' ns' ds' → c' = c := by
  cases y with
  | obj c' ns' ds' =>
    simp only [adT, decide_eq_true_eq] at h
    subst h
    exact ⟨rfl, fun z => ⟨_, _, rfl⟩, fun _ _ _ z => by cases z; rfl⟩
  | _ => cases h
theorem oeq_eq (Φ : Fns) (a b : Ep) (ε : Env) : evalD Φ (.oeq a b) ε = rb (testD Φ (.oeq a b) ε) fun t => rp (.sh (.bl t)) := by
  simp only [evalD, testD]
  cases evalD Φ a ε with
  | none => rfl
  | some x => cases x with
    | er _ _ _ => rfl
    | ok x =>
      simp only [rb]
      cases rl (methD Φ "__eq__" x) with
      | none => rfl
      | some fx => cases fx with
        | er _ _ _ => rfl
        | ok fx =>
          simp only
          cases evalD Φ b ε with
          | none => rfl
          | some y => cases y with
            | er _ _ _ => rfl
            | ok y =>
              simp only
              cases rl y.argd with
              | none => rfl
              | some y' => cases y' with
                | er _ _ _ => rfl
                | ok y' =>
                  simp only
                  split <;> rfl
section
variable {hot : Bool} (hk : C.X.K = C.G.K) (hh : ∀ pins σ H s, Inv C.X pins σ H s → HotP hot C.X.A C.X.stack H s)
include hk hh
theorem oeq_core (hu : C.X.A.units < cLine) (hM : ∀ c f, C.Φ.meth c "__eq__" = some f → OpC C hot "__eq__" false c (C.Φ.call f)) (ha : RE C pa a) (hb : RE C pb b) {ε : Env} {o : Rz Bool} (h : testD C.Φ (.oeq a b) ε = some o) :
    ∃ rr : R2, OpR C.X (compareOp .Eq) rr ∧ ∀ Hi0 H0 Hi H σ (Q : VK), EnvOk C.G C.xp Hi0 H0 Hi H σ ε → GoodT C Hi H σ (fun t H => Q (.bl t) H) o → tU C.X pa σ H fun u H1 => tU C.X pb σ H1 fun v H2 => rr u v H2 Q := by
  simp only [testD] at h
  obtain ⟨rr, o1, o2⟩ := own_core (m := "__eq__") (same := false) (f := compareOp .Eq) hk (fun F hr hb' me _ => op_ownEq F hr hh hb' me hu) hM ha hb (fun c ns ds y => eqT_obj) h fun r z hz => .inl ⟨z, blV_some hz⟩
  refine ⟨rr, o1, fun Hi0 H0 Hi H σ Q I k => o2 Hi0 H0 Hi H σ Q I (erT k) fun z r Hi' H' x ho hz st ov => ?_⟩
  subst ho
  rw [blV_some hz] at ov
  rw [show x = .bl z from ov]
  exact k Hi' H' st
theorem r_oeq (hu : C.X.A.units < cLine) (hM : ∀ c f, C.Φ.meth c "__eq__" = some f → OpC C hot "__eq__" false c (C.Φ.call f)) (ha : RE C pa a) (hb : RE C pb b) (hm : behindInMarks .Eq pb = false) : RE C (.Compare pa [.Eq] [pb] pos) (.oeq a b) := by
  intro ε o h Hi0 H0 Hi H σ Q I k
  rw [oeq_eq] at h
  rcases rb_some h with ⟨c, ns, ds, h1, rfl⟩ | ⟨t, h1, h2⟩
  · obtain ⟨rr, o1, o2⟩ := oeq_core hk hh hu hM ha hb h1
    exact tU_of (pe_cmpR o1 peU peU hm) (o2 Hi0 H0 Hi H σ Q I k)
  · cases rp_some h2
    obtain ⟨rr, o1, o2⟩ := oeq_core hk hh hu hM ha hb h1
    exact tU_of (pe_cmpR o1 peU peU hm) (o2 Hi0 H0 Hi H σ Q I fun Hi' H' st => k Hi' H' _ st rfl)
theorem t_oeq (hu : C.X.A.units < cLine) (hM : ∀ c f, C.Φ.meth c "__eq__" = some f → OpC C hot "__eq__" false c (C.Φ.call f)) (ha : RE C pa a) (hb : RE C pb b) (hm : behindInMarks .Eq pb = false) : RT C (.Compare pa [.Eq] [pb] pos) (.oeq a b) := by
  intro ε o h Hi0 H0 Hi H σ Q I k
  obtain ⟨rr, o1, o2⟩ := oeq_core hk hh hu hM ha hb h
  refine tUT_of (pt_cmpR o1 peU peU hm) (o2 Hi0 H0 Hi H σ _ I ?_)
  cases o with
  | ok t => exact fun Hi' H' st => ⟨t, rfl, k Hi' H' st⟩
  | er c ns ds => exact k
theorem r_oad (hM : ∀ c f, C.Φ.meth c "__add__" = some f → OpC C hot "__add__" true c (C.Φ.call f)) (ha : RE C pa a) (hb : RE C pb b) : RE C (.BinOp pa .Add pb pos) (.oad a b) := by
  intro ε o h Hi0 H0 Hi H σ Q I k
  simp only [evalD] at h
  obtain ⟨rr, o1, o2⟩ := own_core (m := "__add__") (same := true) (f := binaryOp .Add) hk (fun F hr hb' me sf => op_ownAdd F hr hh hb' me (sf rfl)) hM ha hb (fun c ns ds y => adT_obj) h fun r z hz => .inr (by obtain ⟨c, ns, ds, e, _⟩ := obV_some hz; exact ⟨c, ns, ds, e⟩)
  refine tU_of (pe_op o1 peU peU) (o2 Hi0 H0 Hi H σ Q I (erV k) fun z r Hi' H' x ho hz st ov => ?_)
  subst ho
  obtain ⟨_, _, _, _, e⟩ := obV_some hz
  rw [e] at k
  exact k Hi' H' x st ov
end
end
end EG
namespace EG
open PySem PySem.Spec PyProof.Rows L2 L2H
section
variable {C : Ctx} {pe pa pb pc : Expr} {a b c : Ep} {pos : Pos}
theorem cll_of {M : Model} {A : Around} {E : Value → Shared → Prop} {s : Shared} {pos : Pos} {x D : Addr} {ox : Obj} {first : List Value} {Q : Value → Shared → Prop} {args : List (Bool × Sem Value)} {keywords : List (Option Str × Sem Value)} (hplain : (args.any (·.1) || keywords.any (·.1.isNone)) = false) (hd : ox.data = .plain)
    (h : wpAny M A (evalArgs (.ref x) true args keywords) (fun a s₁ => (∃ od, PySem.W.InstAt s₁.heap x ox D od) ∧ wpAny M A (call (.ref x) (first ++ a.pos) a.kw) Q E s₁) E s) : wpAny M A (callWith pos (.ref x) first args keywords) Q E s := by
  unfold callWith
  refine wpAny_bind (wpAny_holding (wpAny_mono h (fun a s₁ h₁ => wpAny_bind (wpAny_standAt ?_)) fun _ _ y => y))
  obtain ⟨⟨od, I⟩, h2⟩ := h₁
  have L := PySem.W.kco_keeper (M := M) I hd
  simp only [hplain]
  refine wpAny_bind (L.here ?_)
  have tail : ∀ {t : Sem Value}, wpAny M A t Q E s₁ → wpAny M A (t >>= fun r => holding [r] point >>= fun _ => pure r) Q E s₁ :=
    fun ht => wpAny_bind (wpAny_mono ht (fun r s₂ hr => wpAny_bind (wpAny_holding (wpAny_point (wpAny_pure hr)))) fun _ _ y => y)
  exact tail (PySem.wpAny_operateT h2)
theorem cll_callWith {M : Model} {A : Around} {E : Value → Shared → Prop} {s : Shared} {env : PySem.Env} {pos : Pos} {x D : Addr} {ox : Obj} {Q : Value → Shared → Prop} {e : Expr} {rest : List Expr} (hd : ox.data = .plain)
    (h : wpAny M A (spliced (backTo pos (starEach (e :: rest) env))) (fun vs s₁ => (∃ od, PySem.W.InstAt s₁.heap x ox D od) ∧ wpAny M A (call (.ref x) ([] ++ vs)) Q E s₁) E s)
    (he : starEach (e :: rest) env = (false, eval e env) :: starEach rest env) (hplain : (backTo pos (starEach rest env)).any (·.1) = false) :
    wpAny M A (callWith pos (.ref x) [] (backTo pos (starEach (e :: rest) env)) []) Q E s := by
  rw [he] at h ⊢
  exact cll_of (by show ((false || (backTo pos (starEach rest env)).any (·.1)) || false) = false; rw [hplain]; rfl) hd (PySem.Calls.evalArgs_plain h)
/-- an object is called -/
structure ClO (C : Ctx) (hot : Bool) (c : Nat) (φ : List Vl → Rs Vl) : Prop extends MeI C hot c "__call__" φ where
  fi : ∀ fa : Addr, PySem.W.findIn C.X.K (.ref (C.G.cl c)) "__call__" = some (some (.ref fa)) → PySem.W.fnIn C.X.K fa = true
theorem r_cll {hot : Bool} (tk : Takes C.X C.W) (hh : ∀ pins σ H s, Inv C.X pins σ H s → HotP hot C.X.A C.X.stack H s) (hM : ∀ c f, C.Φ.meth c "__call__" = some f → ClO C hot c (C.Φ.call f)) {x : Str} {i : Nat} {p : Pos} {e : Expr} {es : List Expr} {as : Eps} (hN : C.X.N[i]? = some x) (hv : Vis C.X.env.scope x) (hd : (x == ("__debug__" : Str)) = false) (hcd : (x == ("__classdict__" : Str)) = false) (hs : noStars (e :: es) = true)
    (hr : RA C (e :: es) as) : RE C (.Call (.Name x p) (e :: es) [] pos) (.cll (.v i) as) := by
  intro ε o h Hi0 H0 Hi H σ Q I k
  simp only [evalD] at h
  obtain ⟨q, h1, h2⟩ := rbl_some h
  simp only [Option.bind_eq_some_iff] at h1
  obtain ⟨r, hr1, hr2⟩ := h1
  obtain ⟨fx, h3, h4⟩ := rbl_some h2
  obtain ⟨c, ns, ds, fi, e0, hnc, hme, hfi, hx'⟩ := methD_some h3
  have M := hM c fi hme
  obtain ⟨cls, lv, fa, fd, ps, me, hb', hrm, F, hl, hnb⟩ := M.toMeI
  obtain ⟨s1, s2⟩ := noStars_cons hs
  obtain ⟨u, hσ, o1⟩ := I.var hr1 hr2
  obtain ⟨Hi2, st2, oa⟩ := o1.arg (Step.refl I.st.s) I.st.h hx'
  have I2 := I.step st2
  have qx := (oa.vl (H0 := H) (Hb := H)).rep st2.s (Evl.Ex.refl _)
  rw [argd_d hx', e0] at qx
  obtain ⟨a', dx, vs, rfl, e2, el, e3⟩ := qx
  have hfn := M.fi fa me.at_
  have targ : tUA C.X (e :: es) σ H fun vs2 H2 => H2 a' = some (.ins (C.G.cl c) dx (ns.zip vs)) ∧ spD C.G (C.Φ.call fi) ps.length (.ref a' :: vs2) H2 Q (WE C.W σ) := by
    refine unA hr h4 I2 (erStep st2 (erV k)) fun rs h8 Hi3 H3 xs s3 I3 o3 => ?_
    rw [hfi] at h8
    refine ⟨s3.h _ _ e2, ?_⟩
    exact spD_of (as := fx.2 :: rs) h8 hl s3.s ⟨_, xs, rfl, oa.step s3, o3⟩ (fun r z => hnb _ _ (by rw [← z]; exact h8)) (k.step (st2.trans s3))
  intro pins s J
  refine wpAny_Call_Name_kw (thn ((pe_var (pos := p) hN hv hd hcd).run pins s σ H (fun v H1 => v = .ref a' ∧ H1 = H) J ⟨.ref a', hσ, rfl, rfl⟩) fun w t1 ⟨v, H1, J1, r1, q1⟩ => ?_)
  obtain ⟨rfl, rfl⟩ := q1
  cases (show w = Value.ref a' from r1)
  refine cll_callWith (D := C.G.cl c) (ox := PySem.W.instObj (C.G.cl c) dx) rfl (thn (targ pos pins t1 J1) fun us t2 x => ?_) (star_no s1) (stars_no s2)
  obtain ⟨vs2, H2, J2, rv, g1, g2⟩ := x
  obtain ⟨mA, O, _⟩ := ins_get J2.hok g1
  obtain ⟨od, O, _⟩ := O.look
  exact ⟨⟨some od, O⟩, wpAny_call (PySem.W.kco_code J2.kIn O rfl me.at_ me.fn hfn (run_fnEc F hrm (hh _ _ _ _ J2) hb' tk J2 (vs := .ref a' :: vs2) (.cons rfl rv) g2))⟩
/-- d.get(k, x) -/
theorem r_dgt (hu : C.X.A.units + 65 < cLine) {apos : Pos} (ha : RE C pa a) (hb : RE C pb b) (hc : RE C pc c) (hbase : ∀ m, attributeBase pa m C.X.env (eval pa C.X.env) = eval pa C.X.env) (hl : (apos.endLine == pos.line) = true) (h1 : isStar pb = false) (h2 : isStar pc = false) :
    RE C (.Call (.Attribute pa "get" apos) [pb, pc] [] pos) (.dgt a b c) := by
  intro ε o h Hi0 H0 Hi H σ Q I k
  simp only [evalD] at h
  have e2 : starEach [pb, pc] C.X.env = [(false, eval pb C.X.env), (false, eval pc C.X.env)] := by rw [star_no h1, star_no h2]; rfl
  have m : M2 C.X pa "get" apos pb pc pos := ⟨hbase _, by rw [e2]; rfl, hl, by rw [e2]; rfl⟩
  refine tU_of (pe_dget2 (by omega) peU peU peU m) (un1 ha h I (erV k) fun x g1 Hi1 H1 u s1 I1 e0 o1 => ?_)
  split at g1
  case isFalse => cases g1
  case isTrue hx =>
  have hd : ∃ ks xs, x.d = .dct ks xs := by
    generalize x.d = d at hx
    cases d <;> first | exact ⟨_, _, rfl⟩ | cases hx
  obtain ⟨ks, xs, ed⟩ := hd
  have q := o1.rep s1.s e0
  rw [ed] at q
  obtain ⟨p, vs, rfl, e3, e4, e5⟩ := q
  have isd : ∀ {H' : Hp}, H' p = some (ks.ho vs) → IsD H' p := fun {H'} h => by
    cases ks with
    | k ks => exact .inl ⟨_, .inl h⟩
    | t ks => exact .inr ⟨_, .inl h⟩
  refine ⟨p, rfl, isd e3, ?_⟩
  refine un1 hb g1 I1 (erStep s1 (erV k)) fun y g2 Hi2 H2 v s2 I2 e0' o2 => ?_
  refine un1 hc g2 I2 (erStep (s1.trans s2) (erV k)) fun z g3 Hi3 H3 w s3 I3 e0'' o3 => ?_
  obtain ⟨r, g4, rfl⟩ := rl_some g3
  unfold dgD at g4
  rw [ed] at g4
  simp only at g4
  split at g4
  case isFalse => cases g4
  case isTrue hlow =>
  simp only [Option.bind_eq_some_iff] at g4
  obtain ⟨oo, g5, g6⟩ := g4
  have o1' := o1.step (s2.trans s3)
  have o2' := o2.step s3
  have ry := o2'.rep s3.s e0''
  obtain ⟨p2, vs2, hp, f1, f2, f3⟩ := o1'.dct s3.s e0'' ed hlow
  cases hp
  obtain ⟨ov, d1, d2, d3⟩ := dget_ok f1 g5 ry
  refine ⟨ov, d1, ?_⟩
  cases oo with
  | some i =>
    simp only [Option.map_eq_some_iff] at g6
    obtain ⟨d, g7, rfl⟩ := g6
    obtain ⟨v', g8, g9⟩ := f3.get g7
    rw [d2 i v' rfl g8]
    exact k Hi3 H3 v' ((s1.trans s2).trans s3) g9
  | none =>
    simp only [Option.map_eq_some_iff] at g6
    obtain ⟨d, g7, rfl⟩ := g6
    rw [d3 rfl]
    obtain ⟨Hi4, x1, x2, x3⟩ := o3.keep s3 g7
    exact k Hi4 H3 w ((s1.trans s2).trans x2) x3
end
end EG
namespace EG
open PySem PySem.Spec PyProof.Rows L2 L2H
/-! list(o) of an own object whose __iter__ gives iter(self.f), self.f a tuple -/
/-- an iterator over the tuple at t, its next place is i -/
def ItTO (t it : Addr) (i : Nat) : HO := .ext fun h => h.IsTupleIter it t i
theorem itTO_ok {P : Program} {w : World} {H : Hp} {h : Heap} {t it : Addr} {i : Nat} (e : h.IsTupleIter it t i) : ObjOk P w H h it (ItTO t it i) :=
  ⟨e, (let ⟨o, ho, _⟩ := e; ⟨o, ho⟩), fun h1 h2 q k => by obtain ⟨o, ho, r⟩ := q; exact ⟨o, k _ ho, r⟩⟩
section
variable {X : Cx} {pins : List (Addr × Obj)} {σ : L2.St} {H : Hp} {s : Shared}
theorem itTO_get {t it : Addr} {i : Nat} (I : Inv X pins σ H s) (e : H it = some (ItTO t it i)) : s.heap.IsTupleIter it t i := (I.hok it _ e).1
def rIterT (K : PySem.W.Frag) : List V → Hp → VK → Prop := fun xs H Q => ∃ (t : Addr) (zs : List V), xs = [.ref t] ∧ SqT K H t zs ∧ ∀ it, H it = none → Q (.ref it) (upd H it (ItTO t it 0))
theorem call_iterT : CallR X (.builtin "iter") (rIterT X.K) := by
  intro pins s σ H xs us Q I r h
  obtain ⟨t, zs, rfl, hq, q⟩ := h
  obtain ⟨u, rfl, ru⟩ := vals1 r
  cases ru
  obtain ⟨its, rv, pl, hz⟩ := I.tuple hq
  refine Calls.call_function_entry (by decide +kernel) (by decide +kernel) PySem.W.kdk_entry_iter (PySem.W.kdk_args_iter _) ?_
  unfold Builtin.«iter»
  refine wpAny_bind (m := someArgs "iter" 1 2 _) (wpAny_of_eq (a := [Value.ref t]) (by first | rfl | kernel_rfl!) ?_)
  show wpAny _ _ (pyIter (.ref t) >>= _) _ _ _
  refine wpAny_bind (wpAny_pyIter_tuple (show s.heap.IsTuple t its.toArray from pl) ?_)
  refine wpAny_pure ⟨_, rfl, ?_⟩
  exact ⟨.ref s.heap.objs.size, _, I.laid (t' := s.toks) (fun b u e => Heap.get?_push_of_some _ e) (Nat.le_refl _) (itTO_ok ⟨_, Heap.get?_push_size _ rfl, rfl, rfl⟩), rfl, q _ (I.hok.fresh (Nat.le_refl _))⟩
/-- an iterator of ours that was not there at the entry has turned, and is forgotten -/
theorem inv_gone {a : Addr} {φ : Heap → Prop} {h' : Heap} {t' : Nat} (I : Inv X pins σ H s) (ha : H a = some (.ext φ)) (h0 : ∀ o, X.s_0.heap.get? a = some o → a ∈ X.ex) (k : ∀ b o, b ≠ a → s.heap.get? b = some o → h'.get? b = some o) :
    Inv X pins σ (ItX.dropH H a) { s with heap := h', toks := t' } := by
  have non : ∀ b, H b = none → ItX.dropH H a b = none := fun b e => by
    by_cases hb : b = a
    · rw [hb, ItX.dropH_same]
    · rw [ItX.dropH_ne hb]; exact e
  have other : ∀ b u, H b = some u → (∀ ψ, u ≠ .ext ψ) → ItX.dropH H a b = some u := fun b u e n => by
    have hb : b ≠ a := fun z => by
      rw [z, ha] at e
      exact n φ (Option.some.inj e).symm
    rw [ItX.dropH_ne hb]
    exact e
  have ne0 : ∀ b o, X.s_0.heap.get? b = some o → b ∉ X.ex → b ≠ a := fun b o e hx z => hx (by rw [z] at e ⊢; exact h0 o e)
  have nn : ∀ b, H b = none → b ≠ a := fun b e z => by rw [z, ha] at e; cases e
  refine ⟨I.ok, I.os, I.bare, ⟨fun b o e n hb hx => ?_, fun b o e n hb hx => ?_, fun b o e n hx => ?_, fun b o e hx => ?_, fun b xs e => ?_, fun b o u e => ?_, fun b ps e => ?_⟩, ?_, fun x c e => ?_, ?_, fun x c e => ?_, fun p hp => ?_, ?_, I.len⟩
  · exact k b o (ne0 b o e hx) (I.base.keep b o e n hb hx)
  · obtain ⟨sl, e1⟩ := I.base.slot b o e n hb hx
    exact ⟨sl, k b _ (ne0 b o e hx) e1⟩
  · exact non b (I.base.free b o e n hx)
  · obtain ⟨o', e1⟩ := I.base.there b o e hx
    exact ⟨o', k b _ (ne0 b o e hx) e1⟩
  · exact other b _ (I.base.tups b xs e) fun _ z => nomatch z
  · exact other b _ (I.base.frzs b o u e) fun _ z => nomatch z
  · obtain ⟨m, e1⟩ := I.base.tbls b ps e
    exact ⟨m, other b _ e1 fun _ z => nomatch z⟩
  · obtain ⟨m, ⟨o, es, ep, ho, r⟩, hl⟩ := I.loc
    refine ⟨m, ⟨o, es, ep, k _ o (nn _ I.free) ho, r⟩, fun i x v e1 e2 e3 => ?_⟩
    obtain ⟨u, r, l⟩ := hl i x v e1 e2 e3
    refine ⟨u, r, ?_⟩
    rcases l with l | ⟨q, c, e, ⟨o, ho, hd⟩⟩
    · exact .inl l
    · exact .inr ⟨q, c, e, o, k c o (nn _ (I.freeC x c e)) ho, hd⟩
  · obtain ⟨v, o, ho, hd⟩ := I.cell x c e
    exact ⟨v, o, k c o (nn _ (I.freeC x c e)) ho, hd⟩
  · exact non _ I.free
  · exact non _ (I.freeC x c e)
  · obtain ⟨e, n, ne, nf, d⟩ := I.pin p hp
    exact ⟨k _ _ (nn _ n) e, non _ n, ne, nf, d⟩
  · intro b u e
    have hb : b ≠ a := fun z => by
      rw [z, ItX.dropH_same] at e
      cases e
    rw [ItX.dropH_ne hb] at e
    refine (I.hok b u e).stay (fun c v hc q => k c v ?_ q) (fun c z => other c _ z fun _ w => (nomatch w)) fun c xs z => other c _ z fun _ w => (nomatch w)
    rcases hc with z | z
    · rw [z]; exact hb
    · exact fun y => by rw [y, ha] at z; cases z
/-- what __iter__ promises -/
def spIt (C : Addr) (f : Str) : Sp := fun vs H Q _ => ∃ a dx fs t zs, vs = [.ref a] ∧ H a = some (.ins C dx fs) ∧ fs.lookup f = some (.ref t) ∧ H t = some (.tup zs) ∧ ∀ it, H it = none → Q (.ref it) (upd H it (ItTO t it 0))
structure ItT (K : PySem.W.Frag) (C fi : Addr) : Prop where
  it : PySem.W.findIn K (.ref C) "__iter__" = some (some (.ref fi))
  itF : PySem.W.isFn K (.ref fi) = true
  nolen : PySem.W.findIn K (.ref C) "__len__" = some none
  nohint : PySem.W.findIn K (.ref C) "__length_hint__" = some none
theorem upd_swap {H : Hp} {a b : Addr} {o u : HO} (h : a ≠ b) : upd (upd H a o) b u = upd (upd H b u) a o := by
  funext c
  by_cases h1 : c = a
  · subst h1; rw [upd_ne h, upd_same, upd_same]
  · by_cases h2 : c = b
    · subst h2; rw [upd_same, upd_ne h1, upd_same]
    · rw [upd_ne h2, upd_ne h1, upd_ne h1, upd_ne h2]
/-- the loop of list.extend over a tuple's iterator -/
theorem lio_loop {A1 : Around} {q it t : Addr} {zs : List V} {Rs : Result → Shared → Prop} (hh : A1.in1.handled = none) (h1 : q ≠ it) (h2 : t ≠ it) (h3 : t ≠ q) (h0 : ∀ o, X.s_0.heap.get? it = some o → it ∈ X.ex) (hn : H it = none) (ht : H t = some (.tup zs))
    (hdone : ∀ s', Inv X pins σ (upd H q (.lst zs)) s' → Rs (.ok (.ret .none)) s') :
    ∀ (m i : Nat) (s : Shared), i + m = zs.length → Inv X pins σ (upd (upd H q (.lst (zs.take i))) it (ItTO t it i)) s → codeAny (model X.prog X.w) A1 (.builtin "list.extend.loop" ⟨[.ref q, .ref it, .none], []⟩) Rs s := by
  intro m
  induction m with
  | zero =>
    intro i s hi I
    refine codeAny_builtin PySem.F.entry_extend_loop ?_
    rw [Around.under_plainId PySem.F.plain_extend_loop _]
    show wpAny _ A1.in1 (pyNext (.ref it) >>= _) _ _ s
    have ei : (upd (upd H q (.lst (zs.take i))) it (ItTO t it i)) it = some (ItTO t it i) := upd_same
    have et : (upd (upd H q (.lst (zs.take i))) it (ItTO t it i)) t = some (.tup zs) := by rw [upd_ne h2, upd_ne h3]; exact ht
    obtain ⟨its, rv, pl, hz⟩ := I.tuple (SqT.of et)
    have hl := rv.length
    refine wpAny_bind (wpAny_pyNext_tuple_end hh (itTO_get I ei) (show s.heap.IsTuple t its.toArray from pl) (by simp; omega) fun h' eb => ?_)
    have J := inv_gone (t' := s.toks) I ei h0 fun b o hb e => eb b o hb e
    rw [ItX.dropH_upd (by rw [upd_ne (Ne.symm h1)]; exact hn), List.take_of_length_le (by omega)] at J
    exact wpAny_pure (hdone _ J)
  | succ m ih =>
    intro i s hi I
    refine codeAny_builtin PySem.F.entry_extend_loop ?_
    rw [Around.under_plainId PySem.F.plain_extend_loop _]
    show wpAny _ A1.in1 (pyNext (.ref it) >>= _) _ _ s
    have ei : (upd (upd H q (.lst (zs.take i))) it (ItTO t it i)) it = some (ItTO t it i) := upd_same
    have et : (upd (upd H q (.lst (zs.take i))) it (ItTO t it i)) t = some (.tup zs) := by rw [upd_ne h2, upd_ne h3]; exact ht
    obtain ⟨its, rv, pl, hz⟩ := I.tuple (SqT.of et)
    have hlt : i < zs.length := by omega
    obtain ⟨u, hu, ru⟩ := rv.get (i := i) (x := zs[i]) (by simp [hlt])
    refine wpAny_bind (wpAny_pyNext_tuple_item (itTO_get I ei) (show s.heap.IsTuple t its.toArray from pl) (x := u) (by simpa using hu) fun h' st' sb => ?_)
    have J : Inv X pins σ (upd (upd H q (.lst (zs.take i))) it (ItTO t it (i + 1))) { s with heap := h', toks := s.toks } := by
      have J := I.write (x := it) (e := it) (h' := h') (t' := s.toks) (by rw [ei]; exact trivial) (.inl rfl) (fun b o nb z => (sb.2 b nb).trans z) (let ⟨o, ho, _⟩ := st'; ⟨o, ho⟩) (itTO_ok (i := i + 1) (t := t) st')
      rw [upd_upd] at J
      exact J
    have eq : (upd (upd H q (.lst (zs.take i))) it (ItTO t it (i + 1))) q = some (.lst (zs.take i)) := by rw [upd_ne h1, upd_same]
    show wpAny _ A1.in1 (updateSeq q (·.push u) >>= _) _ _ _
    obtain ⟨z, its2, k, r2, hl, e⟩ := J.lstM eq
    refine wpAny_bind (wpAny_updateSeq e rfl (wpAny_pure ⟨plainId_quiet PySem.F.plain_extend_loop _, ?_⟩) (by rw [List.size_toArray]; omega) (by show (its2.toArray.push u).size ≤ sizeLine + 1; rw [Array.size_push, List.size_toArray]; omega))
    have J2 := J.lset (its' := its2 ++ [u]) (t' := s.toks) (f := (·.push u)) eq e (by simp) (r2.append (.cons ru .nil)) (by rw [List.length_append, List.length_singleton, List.length_take]; omega)
    have ez : zs.take i ++ [zs[i]] = zs.take (i + 1) := by rw [List.take_add_one]; simp [hlt]
    rw [ez, upd_swap (Ne.symm h1), upd_upd] at J2
    exact ih (i + 1) _ (by omega) J2
/-- list.extend with such an object -/
theorem lio_extend {A1 : Around} {C fi a q t : Addr} {fd : FuncData} {ps : List Str} {f : Str} {kI : Nat} {zs : List V} {dx : Addr} {fs : List (Str × V)} {Rs : Result → Shared → Prop} (hh : A1.in1.handled = none) (hfr : A1.in1.frames = X.A.frames) (hr : RoomE kI A1.in1) (hc : ItT X.K C fi)
    (FI : FnE X.prog X.w X.K X.mg X.base false kI fi fd ps (spIt C f)) (bI : Binds X.K fd ps []) (hdone : ∀ s', Inv X pins σ (upd H q (.lst zs)) s' → Rs (.ok (.ret .none)) s')
    (I : Inv X pins σ (upd H q (.lst [])) s) (hq : H q = none) (ha : H a = some (.ins C dx fs)) (hf : fs.lookup f = some (.ref t)) (ht : H t = some (.tup zs)) :
    wpAny (model X.prog X.w) A1.in1 (Builtin.List.listExtendWith (.ref q) (.ref a) .none)
      (fun fin s' => match fin with | .done f => Rs (.ok f) s' | .again c' => c'.quiet = true ∧ codeAny (model X.prog X.w) A1 c' Rs s') (fun e s' => Rs (.error e) s') s := by
  have hne : q ≠ a := Ne.symm (ne_of_none ha hq)
  have h3 : t ≠ q := ne_of_none ht hq
  have ha' : (upd H q (.lst [])) a = some (.ins C dx fs) := by rw [upd_ne (Ne.symm hne)]; exact ha
  have ht' : (upd H q (.lst [])) t = some (.tup zs) := by rw [upd_ne h3]; exact ht
  obtain ⟨mA, J, _⟩ := ins_get I.hok ha'
  obtain ⟨od, J, _⟩ := J.look
  obtain ⟨m0, hF⟩ := I.fr
  unfold Builtin.List.listExtendWith
  refine wpAny_bind (J.type.here ?_)
  have g1 : Builtin.List.listSameRef (.ref q) (.ref a) = false := by simp [Builtin.List.listSameRef, hne]
  have g2 : (Value.ref C == Value.type "list") = false := rfl
  have g3 : (Value.ref C == Value.type "tuple") = false := rfl
  simp only [g1, g2, g3, Bool.or_false, Bool.false_eq_true, if_false]
  refine wpAny_bind (PySem.W.owit_iter hF I.ok.mod.kin J hc.it hc.itF ?_)
  have e0 : Env0 X.prog X.w X.K X.mg X.base A1.in1 X.stack s (upd H q (.lst [])) := by
    have e := I.env0
    exact ⟨by rw [hfr]; exact e.frames, e.mod, e.bs, e.bsz, e.funs, e.frf, e.hok, e.bare⟩
  have hspI : spIt C f [.ref a] (upd H q (.lst [])) (fun v H' => ∃ it, v = .ref it ∧ (upd H q (.lst [])) it = none ∧ H' = upd (upd H q (.lst [])) it (ItTO t it 0)) (fun _ _ _ => False) := ⟨a, dx, fs, t, zs, rfl, ha', hf, ht', fun it hit => ⟨it, rfl, hit, rfl⟩⟩
  have hl := FI.len _ _ _ _ hspI
  have r2 : Vals [V.ref a] [Value.ref a] := .cons rfl .nil
  refine wpAny_call (codeAny_mono (FI.run A1.in1 X.stack s _ ⟨[.ref a], []⟩ [.ref a] [.ref a] _ _ hr (.inl hh) e0 (by
    have := bI s [.ref a] I.kIn (by simpa using hl)
    simpa using this) r2 hspI) fun r s' hq' => ?_)
  cases r with
  | error e =>
    obtain ⟨_, _, _, _, _, _, _, _, _, _, _, _, z⟩ := hq'
    exact z.elim
  | ok fl =>
    cases fl with
    | next => exact False.elim hq'
    | brk => exact False.elim hq'
    | cont => exact False.elim hq'
    | ret u =>
      obtain ⟨it, hit, eu, h0s, I'⟩ : ∃ it, (upd H q (.lst [])) it = none ∧ u = .ref it ∧ s.heap.get? it = none ∧ Inv X pins σ (upd (upd H q (.lst [])) it (ItTO t it 0)) s' := by
        obtain ⟨v, H', os, bare, un, hok, r, it, rfl, hit, rfl⟩ := id hq'
        obtain ⟨v', H2, I', rv', it', rfl, hit', rfl⟩ := I.after hq'
        cases (show u = Value.ref it from r)
        cases (show Value.ref it = Value.ref it' from rv')
        refine ⟨it, hit, rfl, ?_, I'⟩
        cases e : s.heap.get? it with
        | none => rfl
        | some o =>
          have := un.free it o e hit (by simp)
          rw [upd_same] at this
          cases this
      subst eu
      have h1 : q ≠ it := fun z => by rw [← z, upd_same] at hit; cases hit
      have hn : H it = none := by have hh2 := hit; rw [upd_ne (Ne.symm h1)] at hh2; exact hh2
      have h2 : t ≠ it := fun z => by rw [← z, ht] at hn; cases hn
      have hai : a ≠ it := fun z => by rw [← z, ha] at hn; cases hn
      have h00 : ∀ o, X.s_0.heap.get? it = some o → it ∈ X.ex := fun o e => by
        by_cases hx : it ∈ X.ex
        · exact hx
        · obtain ⟨o', e1⟩ := I.base.there it o e hx
          rw [h0s] at e1; cases e1
      have hT : s'.TypeIs (.ref it) "tuple_iterator" := (itTO_get I' upd_same).typeIs
      show PySem.W.OwitIt _ _ _ _ _ _
      unfold PySem.W.OwitIt
      refine wpAny_specialOf hT PySem.F.slot_tuple_iterator_next.lookup ?_
      have ha2 : (upd (upd H q (.lst [])) it (ItTO t it 0)) a = some (.ins C dx fs) := by rw [upd_ne hai]; exact ha'
      have hq2 : (upd (upd H q (.lst [])) it (ItTO t it 0)) q = some (.lst []) := by rw [upd_ne h1, upd_same]
      obtain ⟨mA', J', _⟩ := ins_get I'.hok ha2
      obtain ⟨od', J', _⟩ := J'.look
      refine wpAny_bind (wpAny_holding ?_)
      have hint : ∀ {Q : Bool → Shared → Prop} {E}, Q true s' → wpAny (model X.prog X.w) A1.in1 (Builtin.List.listLengthHint (.ref a)) Q E s' := fun {Q E} h => by
        unfold Builtin.List.listLengthHint
        refine wpAny_bind (wpAny_bind (J'.type.here ((PySem.W.looks_findIn I'.kIn hc.nolen).here ?_)))
        refine PySem.W.KFB.if_not rfl ?_
        refine PySem.W.KFB.if_not rfl ?_
        refine wpAny_bind (wpAny_bind (J'.type.here ((PySem.W.looks_findIn I'.kIn hc.nohint).here ?_)))
        exact wpAny_pure h
      refine hint ?_
      have loop : ∀ s2, Inv X pins σ (upd (upd H q (.lst [])) it (ItTO t it 0)) s2 → codeAny (model X.prog X.w) A1 (.builtin "list.extend.loop" ⟨[.ref q, .ref it, .none], []⟩) Rs s2 := fun s2 I2 =>
        lio_loop hh h1 h2 h3 h00 hn ht hdone zs.length 0 s2 (by omega) (by simpa using I2)
      obtain ⟨z, its, k, r3, hl3, e3⟩ := I'.lstM hq2
      cases r3
      refine wpAny_ite_split (fun _ => ?_) (fun _ => wpAny_pure ⟨plainId_quiet PySem.F.plain_extend_loop _, loop s' I'⟩)
      refine wpAny_bind (wpAny_rule ?_)
      refine wpAny_bind ?_
      show wpAny _ _ (updateSeq q (·.push .none) >>= fun _ => updateSeq q (·.pop)) _ _ _
      refine wpAny_bind (wpAny_updateSeq e3 rfl ?_)
      have I2 := I'.lset (f := (·.push Value.none)) (its' := [Value.none]) (ys := [.non]) (t' := s'.toks) hq2 e3 (by simp) (.cons rfl .nil) (by rw [List.length_singleton, sizeLine_eq]; decide)
      obtain ⟨z4, its4, k4, r4, hl4, e4⟩ := I2.lstM upd_same
      obtain ⟨u4, rfl, ru4⟩ := r4.one
      refine wpAny_updateSeq e4 rfl ?_ (by show 1 ≤ sizeLine; rw [sizeLine_eq]; decide) (by show 0 ≤ sizeLine + 1; exact Nat.zero_le _)
      refine wpAny_pure ⟨plainId_quiet PySem.F.plain_extend_loop _, loop _ ?_⟩
      have I3 := I2.lset (f := (·.pop)) (its := [u4]) (its' := []) (ys := []) (t' := s'.toks) upd_same e4 (by rfl) .nil (Nat.zero_le _)
      rw [upd_upd, upd_swap (Ne.symm h1), upd_upd] at I3
      exact I3
def rLit (C : Addr) (f : Str) : List V → Hp → VK → Prop := fun xs H Q => ∃ a dx fs t zs, xs = [.ref a] ∧ H a = some (.ins C dx fs) ∧ fs.lookup f = some (.ref t) ∧ H t = some (.tup zs) ∧ ∀ q, H q = none → Q (.ref q) (upd H q (.lst zs))
theorem call_listIt {C fi : Addr} {fd : FuncData} {ps : List Str} {f : Str} {kI : Nat} (hcm : X.calm = true) (hc : ItT X.K C fi) (FI : FnE X.prog X.w X.K X.mg X.base false kI fi fd ps (spIt C f)) (bI : Binds X.K fd ps []) (hr : RoomE (kI + 1) X.A) : CallR X (.type "list") (rLit C f) := by
  intro pins s σ H xs us Q I rv h
  obtain ⟨a, dx, fs, t, zs, rfl, ha, hf, ht, hq⟩ := h
  obtain ⟨u, rfl, ru⟩ := rv.one
  cases ru
  refine callType_codes (Q₁ := fun obj s₁ => obj = .ref s.heap.objs.size ∧ s₁ = { s with heap := s.heap.push { cls := .type "list", data := .seq #[] } }) PySem.F.called_list (PySem.F.typeCall_list_1 _) PySem.F.entry_list_init
    (code_list_new _ ⟨rfl, rfl⟩) fun obj s₁ h₁ => ?_
  obtain ⟨rfl, rfl⟩ := h₁
  have hS : (s.heap.push { cls := .type "list", data := .seq #[] }).get? s.heap.objs.size = some { cls := .type "list", data := .seq #[] } := Heap.get?_push_size _ rfl
  refine ⟨⟨_, hS, rfl⟩, PySem.F.args_list_init_2 _ _, ?_⟩
  have fr : H s.heap.objs.size = none := I.hok.fresh (Nat.le_refl _)
  have I1 : Inv X pins σ (upd H s.heap.objs.size (.lst [])) { s with heap := s.heap.push { cls := .type "list", data := .seq #[] } } := I.lnew (its := []) (t' := s.toks) .nil (Nat.zero_le _)
  show wpAny _ _ (do let old ← Builtin.List.listItems (.ref s.heap.objs.size); Builtin.List.listUpdate (.ref s.heap.objs.size) (fun _ => #[]); letGo old.toList.reverse; Builtin.List.listExtendWith (.ref s.heap.objs.size) (.ref a) .none) _ _ _
  refine wpAny_bind ?_
  unfold Builtin.List.listItems
  refine wpAny_bind (wpAny_seqItems hS rfl (wpAny_pure ?_))
  show wpAny _ _ (updateSeq s.heap.objs.size (fun _ => #[]) >>= fun _ => letGo (#[] : Array Value).toList.reverse >>= fun _ => Builtin.List.listExtendWith (.ref s.heap.objs.size) (.ref a) .none) _ _ _
  refine wpAny_bind (wpAny_updateSeq hS rfl ?_)
  have I2 := I1.lset (f := fun _ => #[]) (its := []) (its' := []) (ys := []) (t' := s.toks) upd_same hS rfl .nil (Nat.zero_le _)
  rw [upd_upd] at I2
  refine wpAny_bind (wpAny_letGo ?_)
  have hd : X.A.handled = none := I.ok.hd hcm
  exact lio_extend (A1 := X.A.in1) (Rs := wants (fun r s₂ => r = .none ∧ EP X pins σ Q (.ref s.heap.objs.size) s₂) X.xe) hd rfl ⟨by have := hr.dp; show X.A.depth + 3 * kI + 5 < _; omega, by have := hr.un; show X.A.units + 1 + 1 + 16 * kI + 200 < _; omega, hr.gd⟩ hc FI bI
    (fun s' I' => ⟨rfl, .ref s.heap.objs.size, _, I', rfl, hq _ fr⟩) I2 fr ha hf ht
end
/-- a def whose body is return iter(self.f) -/
def itBody : List Stmt → Option (Str × Str)
  | [.Return (some (.Call (.Name x _) [.Attribute (.Name s _) f _] [] _)) _] => if x = "iter" then some (s, f) else none
  | _ => none
theorem it_ok {P : Program} {w : World} {K : PySem.W.Frag} {mg : Str → Option Value} {base : Heap} {Cd : Addr} {x qual slf f : Str} {st : Stmt} {fa : Addr} {fd : FuncData} {N : List Str} (F : Fun K x qual st fa fd) (S : FnScope N [slf] (defScope st)) (hb : itBody (defBody st) = some (slf, f))
    (hN : N[0]? = some slf) (hg : (defScope st).names.lookup ("iter" : Str) = some .globalImplicit) (hm : mg "iter" = none) (h1 : (slf == ("__debug__" : Str)) = false) (h2 : (slf == ("__classdict__" : Str)) = false) (hc : Cls K Cd) (ha : NoAttr K Cd f) : FnE P w K mg base false 1 fa fd [slf] (spIt Cd f) := by
  obtain ⟨oc, od, kV, doc, pm, an, cdv, ct, osl, rfl, lk, hcd⟩ := F.ex
  refine fnE_of (k := 0) lk hcd S (fun vs H Q E h => by obtain ⟨a, dx, fs, t, zs, rfl, _⟩ := h; rfl) fun A outer s H vs Q E hh hr h => ?_
  unfold itBody at hb
  split at hb
  case h_2 => cases hb
  case h_1 x p1 s' p2 f' p3 p4 p5 heq =>
  split at hb
  case isFalse => cases hb
  case isTrue hx =>
  subst hx
  simp only [Option.some.injEq, Prod.mk.injEq] at hb
  obtain ⟨rfl, rfl⟩ := hb
  rw [heq]
  obtain ⟨a, dx, fs, t, zs, rfl, g1, g2, g3, g4⟩ := h
  refine ⟨_, pss_one (ps_ret (pe_callB call_iterT hg hm (by decide +kernel) (pa_cons (pe_fld (pe_var (i := 0) hN ?_ h1 h2) rfl) pa_nil) (by decide) (by decide))), ?_⟩
  · rcases S.par s' (by simp) with z | z
    · exact .inl z
    · exact .inr (.inl z)
  · exact ⟨.ref a, by simp [L2.start], a, Cd, dx, fs, .ref t, rfl, g1, hc, ha, g2, t, zs, rfl, SqT.of g3, g4⟩
section
variable {C : Ctx} {pe pa pb pc : Expr} {a b c : Ep} {pos : Pos}
/-- an object that list() may take -/
structure LiI (C : Ctx) (c : Nat) (f : Str) : Prop where
  ex : ∃ (k : Nat) (fi : Addr) (fd : FuncData) (ps : List Str), ItT C.X.K (C.G.cl c) fi ∧ RoomE (k + 1) C.X.A ∧ FnE C.X.prog C.X.w C.X.K C.X.mg C.X.base false k fi fd ps (spIt (C.G.cl c) f) ∧ Binds C.X.K fd ps []
theorem r_lio (hcm : C.X.calm = true) {p : Pos} {f : Str} {al : List Nat} (hl : ∀ c, al.contains c = true → LiI C c f) (hg : Gl C.X "list") (hm : C.X.mg "list" = none) (hs : isStar pa = false) (ha : RE C pa a) : RE C (.Call (.Name "list" p) [pa] [] pos) (.lio al f a) := by
  intro ε o h Hi0 H0 Hi H σ Q I k
  simp only [evalD] at h
  rcases rb_some h with ⟨c, ns, ds, h1, rfl⟩ | ⟨x, h1, h2⟩
  · exact tU_of (pe_callTy cr0 hg hm (show bootBuiltins "list" = some (.type "list") from by decide +kernel) (pa_cons peU pa_nil (star_no hs)) (by decide) (by decide) (star_no hs) rfl) (ha ε _ h1 Hi0 H0 Hi H σ _ I k)
  obtain ⟨r, h3, rfl⟩ := rl_some h2
  unfold lioD at h3
  simp only [Option.bind_eq_some_iff] at h3
  obtain ⟨q, h4, h5⟩ := h3
  obtain ⟨c, ns, ds, e⟩ : ∃ c ns ds, x.d = .obj c ns ds := by
    unfold fldD at h4
    split at h4
    · rename_i e; exact ⟨_, _, _, e⟩
    · cases h4
  obtain ⟨ys, eq, hlow, rfl⟩ : ∃ ys, q.d = .tup ys ∧ q.low = true ∧ r = .fr 1 (.lst ys) := by
    split at h5
    · rename_i ys eq
      simp only [biD, eq] at h5
      split at h5
      · rename_i hl
        cases h5
        exact ⟨ys, eq, hl, rfl⟩
      · cases h5
    · cases h5
  have hal : al.contains c = true := by
    unfold fldD at h4
    rw [e] at h4
    simp only at h4
    split at h4
    · assumption
    · cases h4
  obtain ⟨kI, fi, fd, ps, i1, i2, i3, i4⟩ := (hl c hal).ex
  refine tU_of (pe_callTy (call_listIt hcm i1 i3 i4 i2) hg hm (show bootBuiltins "list" = some (.type "list") from by decide +kernel) (pa_cons peU pa_nil (star_no hs)) (by decide) (by decide) (star_no hs) rfl) (ha ε _ h1 Hi0 H0 Hi H σ _ I fun Hi1 H1 u s1 o1 => ?_)
  have I1 := I.step s1
  obtain ⟨_, a', dx, fs, v, rfl, a2, a3, a4⟩ := fld_ok s1.s (I.st.h.trans s1.h) o1 e h4
  obtain ⟨p', ws, rfl, e2, _, e3⟩ := a4.tup s1.s (I.st.h.trans s1.h) eq
  exact ⟨a', dx, fs, p', ws, rfl, a2, a3, e2, fun l hl2 => k Hi1 _ _ (s1.trans (Step.own s1.s hl2)) (own1 s1.h s1.s hl2 (e3 hlow))⟩
end
end EG
namespace EG
open PySem L2 L2H
section
variable {C : Ctx} {pe pa pb pc : Expr} {a b c : Ep} {pos : Pos}
/-- a.find(b) -/
theorem r_fnd {apos : Pos} (ha : RE C pa a) (hb : RE C pb b) (hbase : attributeBase pa "find" C.X.env (eval pa C.X.env) = eval pa C.X.env) (hl : (apos.endLine == pos.line) = true) (hs : isStar pb = false) : RE C (.Call (.Attribute pa "find" apos) [pb] [] pos) (.fnd a b) := by
  intro ε o h Hi0 H0 Hi H σ Q I k
  simp only [evalD] at h
  refine tU_of (pe_bm F.plainAttrs_str F.slot_str_find F.type_str_find mt_find peU (pa_cons peU pa_nil (star_no hs)) hbase (by rw [star_no hs]; rfl) hl (star_no hs) rfl) (un1 ha h I (erV k) fun x g1 Hi1 H1 u s1 I1 e0 o1 => ?_)
  split at g1
  case isFalse => cases g1
  case isTrue hx =>
  obtain ⟨z, ez⟩ : ∃ z, x.d = .str z := by
    generalize x.d = d at hx
    cases d <;> first | exact ⟨_, rfl⟩ | cases hx
  have eu := str_of s1.s e0 o1 ez
  subst eu
  refine ⟨rfl, un1 hb g1 I1 (erStep s1 (erV k)) fun y g2 Hi2 H2 v s2 I2 e0' o2 => ?_⟩
  obtain ⟨r, g3, rfl⟩ := rl_some g2
  rw [ez] at g3
  unfold fndD at g3
  split at g3
  · rename_i z1 z2 e1 e2
    cases e1
    cases g3
    exact ⟨z, z2, rfl, by rw [str_of s2.s e0' o2 e2], k Hi2 H2 _ (s1.trans s2) rfl⟩
  · cases g3
/-- a few new tuples, shared -/
theorem step_tups {Hi H H' : Hp} {ts : List Addr} (e : Ex Hi H) (k : ∀ b o, H b = some o → H' b = some o) (hn : ∀ t ∈ ts, H t = none) : ∃ Hi', Step Hi H Hi' H' ∧ (∀ t ∈ ts, ∀ o, H' t = some o → Hi' t = some o) ∧ ∀ t, t ∉ ts → Hi' t = Hi t := by
  classical
  refine ⟨fun b => if b ∈ ts then H' b else Hi b, ⟨fun b o h => ?_, k, fun b o h => ?_, fun b hb h => ?_⟩, fun t ht o h => ?_, fun t ht => ?_⟩
  · have : b ∉ ts := fun z => by have := hn b z; rw [e b o h] at this; cases this
    show (if b ∈ ts then _ else _) = _
    rw [if_neg this]; exact h
  · have h : (if b ∈ ts then H' b else Hi b) = some o := h
    split at h
    · exact h
    · exact k _ _ (e _ _ h)
  · show (if b ∈ ts then _ else _) = _
    rw [if_neg (fun z => hb (hn b z))]; exact h
  · show (if t ∈ ts then _ else _) = _
    rw [if_pos ht]; exact h
  · show (if t ∈ ts then _ else _) = _
    rw [if_neg ht]
theorem keyV_rep {G : Gt} {Hi : Hp} : ∀ q : Key, Rep G Hi (keyD q) (kV q)
  | .inl _ => rfl
  | .inr _ => rfl
theorem rep_items {G : Gt} {Hi Hi' H' : Hp} (e : Ex Hi Hi') : ∀ {ts : List Addr} {ks : List Key} {xs : List D} {vs : List V}, ks.length = xs.length → RepL G Hi xs vs → Paired (fun (t : Addr) (q : Key × V) => H' t = some (.tup [kV q.1, q.2])) ts (ks.zip vs) →
    (∀ t ∈ ts, ∀ o, H' t = some o → Hi' t = some o) → RepL G Hi' ((ks.zip xs).map fun p => .tup [keyD p.1, p.2]) (ts.map V.ref)
  | ts, [], [], vs, _, h, p, _ => by
    cases (show vs = [] from h)
    cases p
    exact rfl
  | ts, q :: ks, x :: xs, vs, hl, h, p, hh => by
    obtain ⟨v, vs', rfl, h1, h2⟩ := h
    cases p with
    | @cons t _ ts' _ r p' =>
      refine ⟨.ref t, ts'.map V.ref, rfl, ⟨t, _, rfl, hh t List.mem_cons_self _ r, _, _, rfl, keyV_rep q, _, _, rfl, Rep.mono e _ _ h1, rfl⟩, rep_items e (Nat.succ.inj hl) h2 p' fun t ht => hh t (List.mem_cons_of_mem _ ht)⟩
theorem r_dit (hcm : C.X.calm = true) {p cpos apos : Pos} (ha : RE C pa a) (hg : Gl C.X "list") (hm : C.X.mg "list" = none) (hbase : attributeBase pa "items" C.X.env (eval pa C.X.env) = eval pa C.X.env) (hl : (apos.endLine == cpos.line) = true) :
    RE C (.Call (.Name "list" p) [.Call (.Attribute pa "items" apos) [] [] cpos] [] pos) (.dit a) := by
  intro ε o h Hi0 H0 Hi H σ Q I k
  simp only [evalD] at h
  refine tU_of (LiI.pe_listItems hcm peU hg hm (by decide +kernel) hbase hl rfl) (un1 ha h I (erV k) fun x g1 Hi1 H1 u s1 I1 e0 o1 => ?_)
  obtain ⟨r, g2, rfl⟩ := rl_some g1
  unfold ditD at g2
  split at g2
  case h_2 => cases g2
  case h_1 ks xs ed =>
  split at g2
  case isFalse => cases g2
  case isTrue hlow =>
  cases g2
  obtain ⟨d, vs, rfl, e2, e3, e4⟩ := o1.dct s1.s e0 ed hlow
  refine ⟨d, ks.zip vs, rfl, e2, fun H' q ts kp hq hts hqt hl hp => ?_⟩
  obtain ⟨Hi2, s2, t1, t2⟩ := step_tups s1.s kp hts
  have hq1 : Hi1 q = none := Evl.fresh_back s1.s hq
  exact k Hi2 H' _ (s1.trans s2) ⟨[q], ⟨q, _, [], rfl, hl, rfl, Owns.ofZero (rep_items s2.i e3 e4 hp t1)⟩, by simp, fun p hp' => by
    simp at hp'; subst hp'
    exact ⟨(t2 _ hqt).trans hq1, s1.fresh hq⟩⟩
/-! dict comprehensions -/
theorem dcFold_app {f : Vl → Option (Option (D × D))} : ∀ (xs ys : List Vl) (t : D), dcFold f t (xs ++ ys) = (dcFold f t xs).bind fun t' => dcFold f t' ys
  | [], ys, t => rfl
  | x :: xs, ys, t => by
    simp only [List.cons_append, dcFold]
    cases f x with
    | none => rfl
    | some o =>
      cases o with
      | none => exact dcFold_app xs ys t
      | some p =>
        simp only [Option.bind_some]
        cases dcStep t p with
        | none => rfl
        | some t' => exact dcFold_app xs ys t'
theorem dcFold_take {f : Vl → Option (Option (D × D))} {xs : List Vl} {t r : D} (h : dcFold f t xs = some r) (i : Nat) : ∃ r', dcFold f t (xs.take i) = some r' := by
  rw [← List.take_append_drop i xs, dcFold_app] at h
  simp only [Option.bind_eq_some_iff] at h
  obtain ⟨r', h1, _⟩ := h
  exact ⟨r', h1⟩
section
variable {G : Gt} {H0 : Hp} {g : Hp → Hp → Prop}
theorem dc_wk {J : L2.It} {xs : List Vl} {gg : TG} {tt : TT} {tk tv : TE} {vs : List Nat} {σ : L2.St} {H1 : Hp} {Dl : Addr} {Qd : Hp → Prop} (w : Wk G H0 J g xs) (Pv : Nat → Hp → Hp → Prop) {Hi : Hp} (h0 : Pv 0 Hi (upd H1 Dl (.dK []))) (hG : ∀ i Hi H, Pv i Hi H → g Hi H)
    (hs : ∀ i q x Hi Hi' H H', xs[i]? = some q → Pv i Hi H → Step Hi H Hi' H' → VlOk G H0 H Hi' H' q x → gg x (wipe σ vs) H' fun σ2 H2 => wipe σ2 vs = wipe σ vs ∧ tt σ2 H2 fun b H3 =>
      if b = true then tk σ2 H3 fun y H4 => tv σ2 H4 fun z H5 => ∃ kvs k, y = kV k ∧ H5 Dl = some (.dK kvs) ∧ kvs.length < sizeLine ∧ ∃ Hi, Pv (i + 1) Hi (upd H5 Dl (.dK (putK kvs k z))) else ∃ Hi, Pv (i + 1) Hi H3) (hd : ∀ Hi H, Pv xs.length Hi H → Qd H) :
    ∃ W : Nat → Nat → Hp → Prop, (∃ m, W 0 m (upd H1 Dl (.dK []))) ∧ ∀ i m H, W i m H →
      (J.stop i H ∧ Qd H) ∨ (J.go i H ∧ ∃ Nx : Hp → Prop, (∀ H', Nx H' → ∃ m', m' < m ∧ W (i + 1) m' H') ∧ ∀ x H', J.yld i H x H' → gg x (wipe σ vs) H' fun σ2 H2 => wipe σ2 vs = wipe σ vs ∧ tt σ2 H2 fun b H3 =>
        if b = true then tk σ2 H3 fun y H4 => tv σ2 H4 fun z H5 => ∃ kvs k, y = kV k ∧ H5 Dl = some (.dK kvs) ∧ kvs.length < sizeLine ∧ Nx (upd H5 Dl (.dK (putK kvs k z))) else Nx H3) := by
  refine ⟨fun i m H => m = xs.length - i ∧ i ≤ xs.length ∧ ∃ Hi, Pv i Hi H, ⟨xs.length, by simp, Nat.zero_le _, Hi, h0⟩, ?_⟩
  rintro i m H ⟨rfl, hi, Hi, p⟩
  have q := hG i Hi H p
  by_cases hlt : i < xs.length
  · refine .inr ⟨w.go i Hi H hlt q, fun H => ∃ Hi, Pv (i + 1) Hi H, fun H' p' => ⟨xs.length - (i + 1), by omega, rfl, hlt, p'⟩, fun x H' y => ?_⟩
    obtain ⟨Hi', d, h1, h2, h3⟩ := w.yld i Hi H x H' q hlt y
    exact hs i d x Hi Hi' H H' h2 p h1 h3
  · have e : i = xs.length := by omega
    subst e
    exact .inl ⟨w.stop Hi H q, hd Hi H p⟩
end
theorem isK_flat {r : Vl} {G : Gt} {H0 Hb Hi H : Hp} {y : V} (s : Ex Hi H) (s0 : Ex H0 H) (o : VlOk G H0 Hb Hi H r y) (h : isK r.d = true) : ∃ q : Key, r.d = keyD q ∧ y = kV q := by
  generalize e : r.d = d at h
  cases d <;> first
    | (cases h; done)
    | exact ⟨.inl _, rfl, int_of s s0 o e⟩
    | exact ⟨.inr _, rfl, str_of s s0 o e⟩
theorem r_dcp {tg : Expr} {scope : Scope} {own : List (Str × Nat)} {ke e it : Expr} {ifs : List Expr} {t : Tg} {i : Epi} {cs : Eps} {y x : Ep} (hi : RI C tg it i)
    (htg : tgIn (own.map (·.2)) t = true) (ht : ∀ s H Ca cl fp, RTs (C.blk s H scope cl Ca fp) ifs cs)
    (hk : ∀ s H Ca cl fp, RE (C.blk s H scope cl Ca fp) ke y) (he : ∀ s H Ca cl fp, RE (C.blk s H scope cl Ca fp) e x) :
    ∀ ε o, evalD C.Φ (.dcp t i cs y x (own.map (·.2))) ε = some o → ∀ Hi0 H0 Hi H σ (Q : VK), EnvOk C.G C.xp Hi0 H0 Hi H σ ε → GoodV C H0 Hi H σ Q o →
      tDc (tUI C.X tg it) (tgT C.X.K t) (fun σ H Q => ∀ s Hb Ca cl fp, tUTs (C.blk s Hb scope cl Ca fp).X ifs σ H Q) (fun σ H Q => ∀ s Hb Ca cl fp, tU (C.blk s Hb scope cl Ca fp).X ke σ H Q) (fun σ H Q => ∀ s Hb Ca cl fp, tU (C.blk s Hb scope cl Ca fp).X e σ H Q) (own.map (·.2)) σ H Q := by
  intro ε o h Hi0 H0 Hi H σ Q I k
  generalize hvs : own.map (·.2) = vs at *
  simp only [evalD] at h
  rcases rb_some h with ⟨c, ns, ds, h1, rfl⟩ | ⟨xs, h1, h2⟩
  · exact hi ε _ h1 Hi0 H0 Hi H σ _ I k
  split at h2
  case isFalse => cases h2
  case isTrue hlen =>
  obtain ⟨r, h3, rfl⟩ := rl_some h2
  simp only [Option.map_eq_some_iff] at h3
  obtain ⟨T, h4, rfl⟩ := h3
  unfold dcGo at h4
  generalize hf : (fun x' => (bindT t x' (wipeE ε vs)).bind fun ε2 => (okO (testsD C.Φ cs ε2)).bind fun tb =>
        if tb = true then (okO (evalD C.Φ y ε2)).bind fun kv => if isK kv.d = true then (okO (evalD C.Φ x ε2)).bind fun r => r.keep.map fun d => some (kv.d, d) else none else some none) = f at h4
  refine hi ε _ h1 Hi0 H0 Hi H σ _ I fun Hi1 H1 J s1 w Dl hDl => ?_
  have I1 := I.step s1
  refine dc_wk (gg := tgT C.X.K t) (tt := fun σ H Q => ∀ s Hb Ca cl fp, tUTs (C.blk s Hb scope cl Ca fp).X ifs σ H Q) (tk := fun σ H Q => ∀ s Hb Ca cl fp, tU (C.blk s Hb scope cl Ca fp).X ke σ H Q) (tv := fun σ H Q => ∀ s Hb Ca cl fp, tU (C.blk s Hb scope cl Ca fp).X e σ H Q)
    (vs := vs) (σ := σ) (H1 := H1) (Dl := Dl) (Qd := Q (.ref Dl)) w (fun n Hi' H' => ∃ ks zs ws, dcFold f (.dct (.k []) []) (xs.take n) = some (.dct (.k ks) zs) ∧ Step Hi1 H1 Hi' H' ∧ H' Dl = some (.dK (ks.zip ws)) ∧ Hi' Dl = none ∧ ks.length = zs.length ∧ RepL C.G Hi' zs ws)
    (Hi := Hi1) ⟨[], [], [], rfl, Step.own s1.s hDl, upd_same, Evl.fresh_back s1.s hDl, rfl, rfl⟩ (fun n Hi' H' ⟨ks, zs, ws, _, s2, _⟩ => ⟨s2.i, s2.s, s2.h⟩) ?_ ?_
  · rintro n q u Hi' Hi'' H' H'' hd ⟨ks, zs, ws, z1, s2, z2, z3, z4, z5⟩ sy oy
    have hn : n < xs.length := (List.getElem?_eq_some_iff.mp hd).1
    obtain ⟨T', hw⟩ := dcFold_take h4 (n + 1)
    have hsn : xs.take (n + 1) = xs.take n ++ [q] := by rw [List.take_add_one, hd]; rfl
    have hw' := hw
    rw [hsn, dcFold_app, z1] at hw'
    simp only [Option.bind_some, dcFold, Option.bind_eq_some_iff] at hw'
    obtain ⟨o, hfo, hws⟩ := hw'
    have hfo' := hfo
    rw [← hf] at hfo'
    simp only [Option.bind_eq_some_iff] at hfo'
    obtain ⟨ε2, b1, tb, b2, b3⟩ := hfo'
    have b2 := okO_some b2
    have Iw := (I1.step s2).wipe vs
    have z2' := sy.h _ _ z2
    have z3' : Hi'' Dl = none := sy.n Dl (by rw [z2]; exact fun z => nomatch z) z3
    refine tgT_ok b1 Iw sy oy fun σ2 I2 wi => ⟨?_, fun s Hb Ca cl fp => ?_⟩
    · rw [wi vs htg]
      exact wipe_wipe fun _ hz => hz
    · refine ht s Hb Ca cl fp ε2 _ b2 Hi0 H0 Hi'' H'' σ2 _ I2 fun Hi2 H2 s3 => ?_
      have sz := sy.trans s3
      cases tb with
      | false =>
        rw [if_neg (by decide)] at b3 ⊢
        cases b3
        cases hws
        exact ⟨Hi2, ks, zs, ws, hw, (s2.trans sy).trans s3, s3.h _ _ z2', s3.n Dl (by rw [z2']; exact fun z => nomatch z) z3', z4, RepL.mono sz.i _ _ z5⟩
      | true =>
        rw [if_pos rfl] at b3 ⊢
        simp only [Option.bind_eq_some_iff] at b3
        obtain ⟨kv, b4, b5⟩ := b3
        split at b5
        case isFalse => cases b5
        case isTrue hK =>
        simp only [Option.bind_eq_some_iff, Option.map_eq_some_iff] at b5
        obtain ⟨r, b6, dd, b7, rfl⟩ := b5
        have b4 := okO_some b4
        have b6 := okO_some b6
        intro s' Hb' Ca' cl' fp'
        refine hk s' Hb' Ca' cl' fp' ε2 _ b4 Hi0 H0 Hi2 H2 σ2 _ (I2.step s3) fun Hi3 H3 yk s4 o4 => ?_
        have I3 := (I2.step s3).step s4
        obtain ⟨q, ekd, rfl⟩ := isK_flat s4.s I3.st.h o4 hK
        intro s'' Hb'' Ca'' cl'' fp''
        refine he s'' Hb'' Ca'' cl'' fp'' ε2 _ b6 Hi0 H0 Hi3 H3 σ2 _ I3 fun Hi4 H4 zv s5 o5 => ?_
        obtain ⟨Hi5, e5, s6, rv⟩ := o5.keep s5 b7
        have s26 := (sz.trans s4).trans s6
        have sA := s2.trans s26
        have hD4 : H4 Dl = some (.dK (ks.zip ws)) := s26.h _ _ z2
        have hi5 : Hi5 Dl = none := s26.n Dl (by rw [z2]; exact fun z => nomatch z) z3
        have hws' : (putDc (.k ks) zs kv.d dd).bind (fun t' => dcFold f t' []) = some T' := hws
        simp only [Option.bind_eq_some_iff] at hws'
        obtain ⟨T2, hput, hT⟩ := hws'
        cases hT
        have ry : Rep C.G H4 kv.d (kV q) := by rw [ekd]; exact keyV_rep q
        obtain ⟨ks', xs', vs', g1, g2, g3, g4⟩ := putDc_ok (ks := .k ks) hD4 z4 hput ry (RepL.mono s26.i _ _ z5) rv
        rcases g2 with ⟨kvs, q2, d1, d2, d3, d4⟩ | ⟨kvs, q2, b', d1, _⟩
        · rw [hD4] at d1
          cases d1
          obtain rfl := kV_inj d2
          have hq2 : ks'.ho vs' = .dK (putK (ks.zip ws) q zv) := by
            have := congrFun d4 Dl
            rw [upd_same, upd_same] at this
            exact Option.some.inj this
          obtain ⟨ks2, rfl⟩ : ∃ ks2, ks' = .k ks2 := by
            cases ks' with
            | k ks2 => exact ⟨ks2, rfl⟩
            | t ks2 => cases hq2
          subst g1
          refine ⟨_, q, rfl, hD4, d3, Hi5, ks2, xs', vs', hw, ⟨sA.i, Evl.Ex.mut sA.h hDl, Evl.Ex.mut sA.s hi5, sA.n⟩, ?_, hi5, g3, g4⟩
          rw [← hq2]; exact upd_same
        · rw [hD4] at d1; cases d1
  · rintro Hi' H' ⟨ks, zs, ws, z1, s2, z2, z3, z4, z5⟩
    rw [List.take_length, h4] at z1
    cases z1
    refine k Hi' H' _ (s1.trans s2) ⟨[Dl], ⟨Dl, ws, [], rfl, z2, z4, rfl, Owns.ofZero z5⟩, by simp, fun p hp => ?_⟩
    simp at hp; subst hp
    exact ⟨z3, s1.fresh hDl⟩
/-- a part of one's own list is moved out -/
theorem EnvOk.mov {G : Gt} {xp : Xp} {Hi0 H0 Hi H : Hp} {σ : L2.St} {ε : Env} (I : EnvOk G xp Hi0 H0 Hi H σ ε) {n k i : Nat} {j : Int} {ds : List D} {d : D} (h : getS ε i = some (.fr (n + 2) (.lst ds))) (hki : k ≠ i) (ha : atI ds j = some d) :
    ∃ v p vs, σ[i]? = some (some (.ref p)) ∧ H p = some (.lst vs) ∧ atI vs j = some v ∧ EnvOk G xp Hi0 H0 Hi H (σ.set k (some v)) ((ε.set i none).set k (some (.fr (n + 1) d))) := by
  have h1 := getS_some h
  have hil : i < ε.length := (List.getElem?_eq_some_iff.mp h1).1
  have his : i < σ.length := by rw [I.len]; exact hil
  obtain ⟨F, f1, f2, f3⟩ := I.sl
  have hs0 := f1 i _ _ h1 (List.getElem?_eq_getElem his)
  obtain ⟨x, ex, ho, hnd, hfr⟩ := hs0
  obtain ⟨p, vs, fps, rfl, hp, hF, hos⟩ := ho
  obtain ⟨m, m1, m2⟩ := atI_j ha
  rw [hF] at hnd
  obtain ⟨v, f, g1, g2, g3, g4, _⟩ := Owns.at hos (List.nodup_cons.mp hnd).2 m2
  have hlen := Owns.bor_len hos
  refine ⟨v, p, vs, by rw [List.getElem?_eq_getElem his, ex], hp, atI_of hlen.symm m1 g1, I.st, by simp [I.len], fun x => if x = k ∧ k < ε.length then f else if x = i then [] else F x, fun x r' v' e1 e2 => ?_, fun x y q hxy e1 e2 => ?_, fun x hx => ?_⟩
  · by_cases hx : x = k
    · subst hx
      rcases set_get e1 with ⟨_, q2, q3⟩ | ⟨q1, _⟩
      · rcases set_get e2 with ⟨_, r2, _⟩ | ⟨r1, _⟩
        · subst q2 r2
          rw [List.length_set] at q3
          simp only [q3, and_self, if_true]
          exact ⟨v, rfl, g2, g3, fun q hq => hfr q (by rw [hF]; exact List.mem_cons_of_mem _ (g4 q hq))⟩
        · exact absurd rfl r1
      · exact absurd rfl q1
    · simp only [hx, false_and, if_false]
      rcases set_get e1 with ⟨q1, _, _⟩ | ⟨_, q2⟩
      · exact absurd q1 hx
      rcases set_get e2 with ⟨r1, _, _⟩ | ⟨_, r2⟩
      · exact absurd r1 hx
      by_cases hxi : x = i
      · subst hxi
        simp only [if_true]
        rcases set_get q2 with ⟨_, t2, _⟩ | ⟨t1, _⟩
        · subst t2; exact rfl
        · exact absurd rfl t1
      · simp only [hxi, if_false]
        rcases set_get q2 with ⟨t1, _, _⟩ | ⟨_, t2⟩
        · exact absurd t1 hxi
        · exact f1 x r' v' t2 r2
  · have hin : ∀ x, q ∈ (if x = k ∧ k < ε.length then f else if x = i then [] else F x) → (x = k ∧ q ∈ F i) ∨ (x ≠ i ∧ q ∈ F x) := fun x hq => by
      split at hq
      · rename_i hc
        exact .inl ⟨hc.1, by rw [hF]; exact List.mem_cons_of_mem _ (g4 q hq)⟩
      · split at hq
        · cases hq
        · rename_i hc; exact .inr ⟨hc, hq⟩
    rcases hin x e1 with ⟨a1, a2⟩ | ⟨a1, a2⟩
    · rcases hin y e2 with ⟨b1, b2⟩ | ⟨b1, b2⟩
      · exact hxy (a1.trans b1.symm)
      · exact f2 i y q (fun z => b1 z.symm) a2 b2
    · rcases hin y e2 with ⟨b1, b2⟩ | ⟨b1, b2⟩
      · exact f2 x i q a1 a2 b2
      · exact f2 x y q hxy a2 b2
  · rw [List.length_set, List.length_set] at hx
    have hxk : ¬ (x = k ∧ k < ε.length) := fun z => by omega
    have hxi : x ≠ i := fun z => by omega
    simp only [hxk, hxi, if_false]
    exact f3 x hx
theorem s_mov {tg : Expr} {i k : Nat} {j : Int} {y : Str} {p p2 p3 : Pos} {kk : Nat} (hy : PE C.X (.Name y p) (tVar i)) (hg : PG C.X tg (gName k)) (hs : swapsWithSole [tg] (.Subscript (.Name y p) (.Constant (.int j) kk p2) p3) pos.line C.X.env = pure false)
    (hw : swappedStores [tg] (.Subscript (.Name y p) (.Constant (.int j) kk p2) p3) C.X.env = pure none) (h1 : (assignEach [tg] C.X.env).map (·.2) = [assign tg C.X.env]) : RS C (.Assign [tg] (.Subscript (.Name y p) (.Constant (.int j) kk p2) p3) pos) (.mov k i j) := fun ε o h Hi0 H0 Hi H σ Dn I kq => by
  simp only [execD, Option.map_eq_some_iff] at h
  obtain ⟨ε2, h2, rfl⟩ := h
  unfold movD at h2
  split at h2
  case h_2 => cases h2
  case h_1 n ds hgs =>
  split at h2
  case isFalse => cases h2
  case isTrue hki =>
  simp only [Option.map_eq_some_iff] at h2
  obtain ⟨d, h3, rfl⟩ := h2
  obtain ⟨v, q, vs, e1, e2, e3, I2⟩ := I.mov hgs hki h3
  refine sU1_of (ps_asg (pe_ix ix_list hy pe_int (fun o i => rfl)) hg hs hw h1) ?_
  exact ⟨_, e1, q, vs, j, v, rfl, rfl, SqL.of e2, e3, kq Hi H _ (Evl.Ex.refl _) I2⟩
end
end EG
namespace EG
open PySem L2 L2H
/-! ### from the given text to the small language -/
structure Mo where
  fs : List Str
  bn : List Str
  gc : List Str := []
  nw : List (Str × Nat) := []
  me : List Str := []
  fl : List Str := []
  er : List (Str × Nat) := []
  hd : List (Str × List Nat) := []
  ec : List Nat := []
  et : List (Str × List Nat) := []
  xf : List Str := []
  hn : Option Str := none
  dp : List (Nat × Nat × Nat) := []
  dt : Bool := false
  ic : List (Str × Nat) := []
  al : List Nat := []
  oq : List (Nat × Nat × Nat × Nat) := []
  oa : List (Nat × Nat × Nat × Nat) := []
  cv : Bool := false
  dg : Bool := false
  er0 : List (Str × Nat) := []
  hnw : List (Str × Nat) := []
  lp : List (Nat × Nat × Nat × Nat) := []
  lc : List Nat := []
  lf : Str := ""
  gk : List (Str × Str) := []
  sf : Bool := false
  mv : List (Nat × Nat × Nat × Nat) := []
def posK (p : Pos) : Nat × Nat × Nat × Nat := (p.line, p.col, p.endLine, p.endCol)
/-- a + b, perhaps an own one -/
def mkBin (M : Mo) (p : Pos) (op : Operator) (x y : Ep) : Ep :=
  match op with
  | .Add => if M.oa.contains (posK p) = true then .oad x y else .bin .Add x y
  | op => .bin op x y
/-- a == b, perhaps an own one -/
def mkCmp (M : Mo) (p : Pos) (op : CmpOp) (x y : Ep) : Ep :=
  match op with
  | .Eq => if M.oq.contains (posK p) = true then .oeq x y else .cmp .Eq x y
  | op => .cmp op x y
/-- x.find(a) -/
def isFnd (M : Mo) (m : Str) (as : List Expr) : Bool := M.sf && decide (m = "find") && (match as with | [a] => !isStar a | _ => false)
def mkFnd (x : Ep) (es : Eps) : Option Ep :=
  match es with
  | .cons a .nil => some (.fnd x a)
  | _ => none
/-- list(d.items()) -/
def isDi (as : List Expr) : Bool := match as with | [.Call (.Attribute _ m _) [] [] _] => decide (m = "items") | _ => false
/-- list(o) of an own object -/
def isLi (M : Mo) (as : List Expr) : Bool := match as with | [.Name _ p] => M.lp.contains (posK p) | _ => false
/-- x.get(a, b) -/
def isGet (M : Mo) (m : Str) (as : List Expr) : Bool := M.dg && decide (m = "get") && (match as with | [a, b] => !isStar a && !isStar b | _ => false)
def mkGet (x : Ep) (es : Eps) : Option Ep :=
  match es with
  | .cons a (.cons b .nil) => some (.dgt x a b)
  | _ => none
/-- how deep a list is one's own -/
def Mo.deep (M : Mo) (p : Pos) : Option Nat := (M.dp.find? fun q => q.1 == p.line && q.2.1 == p.col).map fun q => q.2.2
def mkLc (o : Option Nat) (t : Tg) (i : Epi) (cs : Eps) (x : Ep) (own : List Nat) : Ep :=
  match o with
  | some k => .lcd k t i cs x own
  | none => .lc t i cs x own
def mkLst (o : Option Nat) (es : Eps) : Ep :=
  match o with
  | some k => .lstd k es
  | none => .lst es
def visB (sc : Scope) (x : Str) : Bool := match sc.names.lookup x with | some .local => true | some .cell => true | some .free => true | _ => false
def glB (sc : Scope) (x : Str) : Bool := match sc.names.lookup x with | some .globalImplicit => true | _ => false
def slot : List Str → Str → Option Nat
  | [], _ => none
  | y :: r, x => if x = y then some 0 else (slot r x).map (· + 1)
def cMany (f : Expr → Option Ep) : List Expr → Option Eps
  | [] => some .nil
  | e :: es => if isStar e = true then none else (f e).bind fun x => (cMany f es).map (.cons x)
def cAnd (f : Expr → Option Ep) : List Expr → Option Ep
  | [] => none
  | [a] => f a
  | a :: b :: r => (f a).bind fun x => (cAnd f (b :: r)).map (.and x)
def cOr (f : Expr → Option Ep) : List Expr → Option Ep
  | [] => none
  | [a] => f a
  | a :: b :: r => (f a).bind fun x => (cOr f (b :: r)).map (.or x)
/-- a target's names, all own locals of the block -/
def cTn (N : List Str) (sc : Scope) (all : Str → Bool) (x : Str) : Option Nat :=
  if (sc.names.lookup x = some .local ∨ (all x = true ∧ sc.names.lookup x = some .cell)) then slot N x else none
mutual
def cTg (N : List Str) (sc : Scope) (all : Str → Bool) : Nat → Expr → Option Tg
  | 0, _ => none
  | n + 1, e => match e with
    | .Name x _ => (cTn N sc all x).map .n
    | .Tuple es _ _ => (cTns N sc all n es).map .t
    | _ => none
def cTns (N : List Str) (sc : Scope) (all : Str → Bool) : Nat → List Expr → Option Tgs
  | 0, _ => none
  | n + 1, es => match es with
    | [] => some .nil
    | e :: es => (cTg N sc all n e).bind fun t => (cTns N sc all n es).map fun ts => .cons t ts
end
mutual
def ownOf (N : List Str) : Nat → Expr → List (Str × Nat)
  | 0, _ => []
  | n + 1, e => match e with
    | .Name x _ => (match slot N x with | some i => [(x, i)] | none => [])
    | .Tuple es _ _ => ownsOf N n es
    | _ => []
def ownsOf (N : List Str) : Nat → List Expr → List (Str × Nat)
  | 0, _ => []
  | n + 1, es => match es with
    | [] => []
    | e :: es => ownOf N n e ++ ownsOf N n es
end
def isSC (as : List Expr) : Bool := match as with | [.SetComp _ _ _ _] => true | _ => false
def isRng (e : Expr) : Bool := match e with | .Call (.Name x _) _ _ _ => decide (x = "range" ∨ x = "enumerate" ∨ x = "reversed") | _ => false
def isLR (as : List Expr) : Bool := match as with | [a] => isRng a | _ => false
/-- enumerate wants a tuple of targets -/
def enOk (tg : Expr) (i : Epi) : Bool := match i with | .enum _ => isTup tg | _ => true
/-- a thing whose method is called -/
def okBase : Expr → Bool
  | .Name _ _ => true
  | .Attribute _ _ _ => true
  | .Subscript _ _ _ => true
  | .BinOp _ _ _ _ => true
  | _ => false
/-- is it the handled error's name? -/
def hnd (M : Mo) : Expr → Option Str
  | .Name n _ => if M.hn = some n then some n else none
  | _ => none
mutual
def cE (M : Mo) (N : List Str) (hot : Bool) : Nat → Scope → Expr → Option Ep
  | 0, _, _ => none
  | n + 1, sc, e => match e with
    | .Name x _ => if visB sc x = true ∧ x ≠ "__debug__" ∧ x ≠ "__classdict__" then (slot N x).map .v else if glB sc x = true ∧ x ≠ "__debug__" then (M.gk.lookup x).map fun s => .c (.str s) else none
    | .Constant c _ _ => (match c with | .int i => some (.c (.int i)) | .bool b => some (.c (.bl b)) | .none => some (.c .non) | .str x => some (.c (.str x)) | _ => none)
    | .BinOp a op b bp => (cE M N hot n sc a).bind fun x => (cE M N hot n sc b).map fun y => mkBin M bp op x y
    | .UnaryOp op a _ => (match op with | .USub => (cE M N hot n sc a).map .neg | .Not => (cE M N hot n sc a).map .not | _ => none)
    | .BoolOp op es _ => if es.length < 2 then none else (match op with | .And => cAnd (cE M N hot n sc) es | .Or => cOr (cE M N hot n sc) es)
    | .Compare a ops bs kp => (match ops, bs with
      | [op], [b] => (cE M N hot n sc a).bind fun x => (cE M N hot n sc b).map fun y => mkCmp M kp op x y
      | [o1, o2], [b, c] => (cE M N hot n sc a).bind fun x => (cE M N hot n sc b).bind fun y => (cE M N hot n sc c).map fun z => .chn o1 o2 x y z
      | _, _ => none)
    | .IfExp c a b _ => (cT M N hot n sc c).bind fun x => (cE M N hot n sc a).bind fun y => (cE M N hot n sc b).map fun z => .ife x y z
    | .Subscript a i _ => (match i with
      | .Slice lo hi st _ => (match st with | none => (cE M N hot n sc a).bind fun x => (cO M N hot n sc lo).bind fun l => (cO M N hot n sc hi).map fun h => .sl x l h | some _ => none)
      | i => (cE M N hot n sc a).bind fun x => (cE M N hot n sc i).map fun y => .ix x y)
    | .Tuple es _ _ => (cMany (cE M N hot n sc) es).map .tup
    | .List es p => (cMany (cE M N hot n sc) es).map (mkLst (M.deep p))
    | .Dict ks vs _ => if ks.isEmpty = true ∧ vs.isEmpty = true then some (.dnw M.dt) else none
    | .Attribute a f _ => (match hnd M a with
      | some h => if M.xf.contains f = true then (slot N h).map fun i => .exf i M.ec f else none
      | none => if okBase a = true ∧ M.fl.contains f = true then (cE M N hot n sc a).map fun x => .fld M.al x f else none)
    | .Call f as ks cpos => (match f, ks with
      | .Name x _, [] => if glB sc x = true ∧ x ≠ "__debug__" ∧ x ≠ "__name__" ∧ as ≠ [] then cC M N hot n sc x as else if M.cv = true ∧ visB sc x = true ∧ x ≠ "__debug__" ∧ x ≠ "__classdict__" ∧ as ≠ [] then (slot N x).bind fun i => (cMany (cE M N hot n sc) as).map (.cll (.v i)) else none
      | .Attribute a m ap, [] => if isFnd M m as = true then (if okBase a = true ∧ (ap.endLine == cpos.line) = true then (cE M N hot n sc a).bind fun x => (cMany (cE M N hot n sc) as).bind fun es => mkFnd x es else none) else if isGet M m as = true then (if okBase a = true ∧ (ap.endLine == cpos.line) = true then (cE M N hot n sc a).bind fun x => (cMany (cE M N hot n sc) as).bind fun es => mkGet x es else none) else if okBase a = true ∧ M.me.contains m = true ∧ as.length < 20 ∧ (ap.endLine == cpos.line) = true then (cE M N hot n sc a).bind fun x => (cMany (cE M N hot n sc) as).map fun es => .mth m x es else none
      | _, _ => none)
    | .ListComp e gs scope lp => (match gs with
      | [⟨tg, it, ifs, 0⟩] => if hot = false ∧ blkC N sc scope (ownOf N 9 tg) = true ∧ ifs.length ≤ 1 then
          (cI M N hot n sc it).bind fun i => (cTg N (relS scope sc) (fun x => scope.names.lookup x == some .cell) 9 tg).bind fun t => if tgIn ((ownOf N 9 tg).map (·.2)) t = true ∧ enOk tg i = true then
            (cMany (cT M N hot n (relS scope sc)) ifs).bind fun cs => (cE M N hot n (relS scope sc) e).map fun x => mkLc (M.deep lp) t i cs x ((ownOf N 9 tg).map (·.2))
          else none else none
      | gs => cK M N hot n sc false e gs scope)
    | .DictComp ke e gs scope _ => (match gs with
      | [⟨tg, it, ifs, 0⟩] => if hot = false ∧ blkC N sc scope (ownOf N 9 tg) = true ∧ ifs.length ≤ 1 then
          (cI M N hot n sc it).bind fun i => (cTg N (relS scope sc) (fun x => scope.names.lookup x == some .cell) 9 tg).bind fun t => if tgIn ((ownOf N 9 tg).map (·.2)) t = true ∧ enOk tg i = true then
            (cMany (cT M N hot n (relS scope sc)) ifs).bind fun cs => (cE M N hot n (relS scope sc) ke).bind fun y => (cE M N hot n (relS scope sc) e).map fun x => .dcp t i cs y x ((ownOf N 9 tg).map (·.2))
          else none else none
      | _ => none)
    | _ => none
def cK (M : Mo) (N : List Str) (hot : Bool) : Nat → Scope → Bool → Expr → List Comprehension → Scope → Option Ep
  | 0, _, _, _, _, _ => none
  | n + 1, sc, st, e, gs, scope => match gs with
    | [⟨tg, it, ifs, 0⟩] => if st = true ∧ hot = false ∧ blkC N sc scope (ownOf N 9 tg) = true ∧ ifs.length ≤ 1 then
        (cI M N hot n sc it).bind fun i => (cTg N (relS scope sc) (fun x => scope.names.lookup x == some .cell) 9 tg).bind fun t => if tgIn ((ownOf N 9 tg).map (·.2)) t = true ∧ enOk tg i = true then
          (cMany (cT M N hot n (relS scope sc)) ifs).bind fun cs => (cE M N hot n (relS scope sc) e).map fun x => .sst t i cs x ((ownOf N 9 tg).map (·.2))
        else none else none
    | [⟨tg, it, ifs, 0⟩, ⟨tg1, it1, ifs1, 0⟩] => if hot = false ∧ blkC N sc scope (ownOf N 9 tg ++ ownOf N 9 tg1) = true ∧ ifs.length ≤ 1 ∧ ifs1.length ≤ 1 then
        (cI M N hot n sc it).bind fun i => (cTg N (relS scope sc) (fun x => scope.names.lookup x == some .cell) 9 tg).bind fun t =>
        (cI M N hot n (relS scope sc) it1).bind fun i1 => (cTg N (relS scope sc) (fun x => scope.names.lookup x == some .cell) 9 tg1).bind fun t1 =>
        if tgIn ((ownOf N 9 tg ++ ownOf N 9 tg1).map (·.2)) t = true ∧ tgIn ((ownOf N 9 tg1).map (·.2)) t1 = true ∧ enOk tg i = true ∧ enOk tg1 i1 = true then
          (cMany (cT M N hot n (relS scope sc)) ifs).bind fun cs => (cMany (cT M N hot n (relS scope sc)) ifs1).bind fun cs1 => (cE M N hot n (relS scope sc) e).map fun x => if st = true then .sst2 t i cs t1 i1 cs1 x ((ownOf N 9 tg ++ ownOf N 9 tg1).map (·.2)) ((ownOf N 9 tg1).map (·.2)) else .lc2 t i cs t1 i1 cs1 x ((ownOf N 9 tg ++ ownOf N 9 tg1).map (·.2)) ((ownOf N 9 tg1).map (·.2))
        else none else none
    | _ => none
def cC (M : Mo) (N : List Str) (hot : Bool) : Nat → Scope → Str → List Expr → Option Ep
  | 0, _, _, _ => none
  | n + 1, sc, x, as => match slot M.fs x with
    | some k => (cMany (cE M N hot n sc) as).map (.call k)
    | none => match M.nw.lookup x with
      | some k => (cMany (cE M N hot n sc) as).map (.call k)
      | none => if M.gc.contains x = true then (cMany (cE M N hot n sc) as).map (.bi .gcd)
        else if M.bn.contains x = true then
          (if x = "isinstance" then (match as with
            | [a, .Name t _] => (match hnd M a with
              | some h => if glB sc t = true then (M.et.lookup t).bind fun cs => (slot N h).map fun i => .exi i M.ec cs else none
              | none => if glB sc t = true ∧ M.bn.contains t = true ∧ isStar a = false then (tyName t).bind fun ty => (cE M N hot n sc a).map (.isi ty) else if glB sc t = true ∧ t ≠ "__debug__" ∧ isStar a = false then (M.ic.lookup t).bind fun c => (cE M N hot n sc a).map (.isc M.al c) else none)
            | _ => none)
          else if x = "list" ∧ isLi M as = true then (match as with
            | [a] => if hot = false ∧ isStar a = false then (cE M N hot n sc a).map (.lio M.lc M.lf) else none
            | _ => none)
          else if x = "list" ∧ isDi as = true then (match as with
            | [.Call (.Attribute a _ ap) [] [] cp] => if hot = false ∧ okBase a = true ∧ (ap.endLine == cp.line) = true then (cE M N hot n sc a).map .dit else none
            | _ => none)
          else if x = "list" ∧ isLR as = true then (match as with
            | [.Call (.Name y _) [a] [] _] => if hot = false ∧ y = "range" ∧ glB sc y = true ∧ M.bn.contains y = true ∧ isStar a = false then (cE M N hot n sc a).map .lrg else none
            | _ => none)
          else if x = "sorted" ∧ isSC as = true then (match as with
            | [.SetComp e gs scope _] => cK M N hot n sc true e gs scope
            | _ => none)
          else (biName x).bind fun b => if hot = false ∨ needCalm b = false then (cMany (cE M N hot n sc) as).map (.bi b) else none)
        else none
def cT (M : Mo) (N : List Str) (hot : Bool) : Nat → Scope → Expr → Option Ep
  | 0, _, _ => none
  | n + 1, sc, e => match e with
    | .UnaryOp op a _ => (match op with | .Not => (cT M N hot n sc a).map .not | _ => none)
    | .BoolOp op es _ => (match op with | .And => cAnd (cT M N hot n sc) es | .Or => cOr (cT M N hot n sc) es)
    | .IfExp _ _ _ _ => none
    | e => (cE M N hot n sc e)
def cO (M : Mo) (N : List Str) (hot : Bool) : Nat → Scope → Option Expr → Option Epo
  | 0, _, _ => none
  | n + 1, sc, o => match o with | none => some .no | some e => (cE M N hot n sc e).map .so
def cI (M : Mo) (N : List Str) (hot : Bool) : Nat → Scope → Expr → Option Epi
  | 0, _, _ => none
  | n + 1, sc, e => if isRng e = true then (match e with
    | .Call (.Name x _) as [] _ => if glB sc x = true ∧ M.bn.contains x = true ∧ hot = false then
        (match as with
        | [a] => if isStar a = true then none else if x = "range" then (cE M N hot n sc a).map .r1 else if x = "enumerate" then (cE M N hot n sc a).map .enum else if x = "reversed" then (cE M N hot n sc a).map .rev else none
        | [a, b] => if isStar a = true ∨ isStar b = true then none else if x = "range" then (cE M N hot n sc a).bind fun y => (cE M N hot n sc b).map fun z => .r2 y z else none
        | [a, b, c] => if x = "range" then (cMany (cE M N hot n sc) [a, b, c]).map .r3 else none
        | _ => none) else none
    | _ => none) else (cE M N hot n sc e).map .over
end
structure Good (M : Mo) (N : List Str) (hot : Bool) (sc : Scope) (C : Ctx) : Prop where
  hN : C.X.N = N
  nd : N.Nodup
  hsc : C.X.env.scope = sc
  hk : C.X.K = C.G.K
  calm : hot = false → C.X.calm = true
  hh : (hot = false ∨ M.fs ≠ [] ∨ M.me ≠ [] ∨ M.oq ≠ [] ∨ M.oa ≠ [] ∨ M.cv = true) → ∀ pins σ H s, Inv C.X pins σ H s → HotP hot C.X.A C.X.stack H s
  gd : C.X.A.guards = some []
  un : C.X.A.units + 65 < cLine
  tk : Takes C.X C.W
  bn : ∀ x, M.bn.contains x = true → C.X.mg x = none
  gc : ∀ x, M.gc.contains x = true → C.X.mg x = some (.builtin "math.gcd")
  fns : ∀ x f, slot M.fs x = some f → FnI C hot (C.Φ.call f) x
  nws : ∀ x f, hot = false → M.nw.lookup x = some f → NwI C (C.Φ.call f) x
  mes : ∀ m c f, M.me.contains m = true → C.Φ.meth c m = some f → MeI C hot c m (C.Φ.call f)
  fls : ∀ f c, M.fl.contains f = true → M.al.contains c = true → Cls C.X.K (C.G.cl c) ∧ NoAttr C.X.K (C.G.cl c) f
  hnc : hot = false → M.hn = none
  ics : ∀ t c, M.ic.lookup t = some c → IsC C M.al c t
  oqs : ∀ c f, M.oq ≠ [] → C.Φ.meth c "__eq__" = some f → OpC C hot "__eq__" false c (C.Φ.call f)
  oas : ∀ c f, M.oa ≠ [] → C.Φ.meth c "__add__" = some f → OpC C hot "__add__" true c (C.Φ.call f)
  cvs : ∀ c f, M.cv = true → C.Φ.meth c "__call__" = some f → ClO C hot c (C.Φ.call f)
  xf : ∀ n f p pos i, M.hn = some n → slot N n = some i → M.xf.contains f = true → RE C (.Attribute (.Name n p) f pos) (.exf i M.ec f)
  xi : ∀ n t cs p p1 p2 pos i, M.hn = some n → slot N n = some i → M.et.lookup t = some cs → Gl C.X "isinstance" → C.X.mg "isinstance" = none → Gl C.X t → RE C (.Call (.Name "isinstance" p) [.Name n p1, .Name t p2] [] pos) (.exi i M.ec cs)
  lis : ∀ c, hot = false → M.lp ≠ [] → M.lc.contains c = true → LiI C c M.lf
  gks : ∀ x s, M.gk.lookup x = some s → ∃ u, C.X.mg x = some u ∧ RelV (.str s) u
  hws : ∀ x f, hot = true → M.nw.lookup x = some f → FnI C true (C.Φ.call f) x ∧ ∀ pins σ H s, Inv C.X pins σ H s → HotP true C.X.A C.X.stack H s
def isSet : Expr → Bool
  | .Set _ _ _ => true
  | _ => false
end EG
namespace EG
open PySem L2 L2H
theorem Good.blk {M : Mo} {N : List Str} {sc : Scope} {C : Ctx} (G : Good M N false sc C) (s : Shared) (H : Hp) (scope : Scope) (cl : List (Str × Addr)) (Ca : Addr) (fp : List Addr) :
    Good M N false (relS scope sc) (C.blk s H scope cl Ca fp) := by
  refine ⟨G.hN, G.nd, ?_, G.hk, G.calm, fun _ => calm_hot (G.calm rfl), G.gd, G.un, ?_, G.bn, G.gc, fun x f h => ⟨(G.fns x f h).ex⟩, fun x f h0 h => ⟨(G.nws x f h0 h).ex⟩, fun m c f h1 h2 => ⟨(G.mes m c f h1 h2).cls, (G.mes m c f h1 h2).ex⟩, G.fls, G.hnc, (fun t c h => ⟨(G.ics t c h).m, (G.ics t c h).ob, (G.ics t c h).no⟩), (fun c f h1 h2 => ⟨⟨(G.oqs c f h1 h2).cls, (G.oqs c f h1 h2).ex⟩, (G.oqs c f h1 h2).ins, (G.oqs c f h1 h2).sf, (G.oqs c f h1 h2).nf⟩), (fun c f h1 h2 => ⟨⟨(G.oas c f h1 h2).cls, (G.oas c f h1 h2).ex⟩, (G.oas c f h1 h2).ins, (G.oas c f h1 h2).sf, (G.oas c f h1 h2).nf⟩), (fun c f h1 h2 => ⟨⟨(G.cvs c f h1 h2).cls, (G.cvs c f h1 h2).ex⟩, (G.cvs c f h1 h2).fi⟩), fun n f p pos i h => absurd (h.symm.trans (G.hnc rfl)) (by simp), fun n t cs p p1 p2 pos i h => absurd (h.symm.trans (G.hnc rfl)) (by simp), (fun c h0 h1 h2 => ⟨(G.lis c h0 h1 h2).ex⟩), G.gks, fun x f h => nomatch h⟩
  · show relS scope C.X.env.scope = _
    rw [G.hsc]
  · rintro u s' ⟨a, B, sI, pins, σ, H, cls, d, e, I, nb, up, sky, na, os, ag, w⟩
    exact w.elim
theorem base_attr {a : Expr} (h : okBase a = true) (f : Str) (env : PySem.Env) : attributeBase a f env (eval a env) = eval a env := by
  cases a <;> first | rfl | cases h
theorem mark_no {e : Expr} (h : isSet e = false) (op : CmpOp) : behindInMarks op e = false := by cases e <;> first | rfl | cases h
theorem fold_no {e : Expr} (h : isSet e = false) (env : PySem.Env) : ∀ x, foldedSetIterable e env x = pure x := by cases e <;> first | (intro _; rfl) | cases h
theorem plain_ix {e : Expr} (h : ∀ a b c d, e = .Slice a b c d → False) : PlainIx e := by
  intro o i
  cases e <;> first | rfl | exact (h _ _ _ _ rfl).elim
theorem visB_ok {sc : Scope} {x : Str} (h : visB sc x = true) : Vis sc x := by
  unfold visB at h
  split at h
  · rename_i e; exact .inl e
  · rename_i e; exact .inr (.inl e)
  · rename_i e; exact .inr (.inr e)
  · cases h
theorem glB_ok {sc : Scope} {x : Str} (h : glB sc x = true) : sc.names.lookup x = some .globalImplicit := by
  unfold glB at h
  split at h
  · rename_i e; exact e
  · cases h
theorem slot_ok : ∀ {N : List Str} {x : Str} {i : Nat}, slot N x = some i → N[i]? = some x
  | [], _, _, h => by cases h
  | y :: r, x, i, h => by
    unfold slot at h
    split at h
    · rename_i e; subst e; cases h; rfl
    · simp only [Option.map_eq_some_iff] at h
      obtain ⟨j, h1, rfl⟩ := h
      simpa using slot_ok h1
theorem beq_no {x y : Str} (h : x ≠ y) : (x == y) = false := by
  cases e : x == y with
  | false => rfl
  | true => exact absurd (eq_of_beq e) h
section
variable {M : Mo} {N : List Str} {hot : Bool} {C : Ctx} {sc : Scope}
theorem Good.gl (G : Good M N hot sc C) {x : Str} (h : glB sc x = true) : Gl C.X x := by
  unfold Gl PySem.Env.kindOf
  rw [G.hsc]
  exact glB_ok h
theorem cE_notSet {n : Nat} {pe : Expr} {e : Ep} (h : cE M N hot n sc pe = some e) : isSet pe = false := by
  cases n with
  | zero => simp only [cE] at h; cases h
  | succ n => cases pe <;> first | rfl | (simp only [cE] at h; cases h)
theorem cE_name {n : Nat} {x : Str} {p : Pos} {e : Ep} (h : cE M N hot n sc (.Name x p) = some e) (G : Good M N hot sc C) : (∃ i, e = .v i ∧ PE C.X (.Name x p) (tVar i) ∧ RE C (.Name x p) e) ∨ ∃ s, e = .c (.str s) ∧ RE C (.Name x p) e := by
  cases n with
  | zero => simp only [cE] at h; cases h
  | succ n =>
    simp only [cE] at h
    split at h
    · rename_i hc
      simp only [Option.map_eq_some_iff] at h
      obtain ⟨j, h1, h2⟩ := h
      cases h2
      have a1 : C.X.N[j]? = some x := by rw [G.hN]; exact slot_ok h1
      have a2 : Vis C.X.env.scope x := by rw [G.hsc]; exact visB_ok hc.1
      exact .inl ⟨j, rfl, pe_var a1 a2 (beq_no hc.2.1) (beq_no hc.2.2), r_var a1 a2 (beq_no hc.2.1) (beq_no hc.2.2)⟩
    · split at h
      · rename_i hc
        simp only [Option.map_eq_some_iff] at h
        obtain ⟨s, h1, rfl⟩ := h
        obtain ⟨u, h2, h3⟩ := G.gks x s h1
        refine .inr ⟨s, rfl, fun ε o hh Hi0 H0 Hi H σ Q I k => ?_⟩
        simp only [evalD] at hh
        cases rp_some hh
        exact tU_of (pe_glob (G.gl hc.1) h2 h3 (beq_no hc.2)) (k Hi H _ (Step.refl I.st.s) rfl)
      · cases h
theorem cMany_a {f : Expr → Option Ep} (hf : ∀ pe e, f pe = some e → RE C pe e) : ∀ {pes : List Expr} {es : Eps}, cMany f pes = some es → RA C pes es ∧ noStars pes = true
  | [], es, h => by cases h; exact ⟨a_nil, rfl⟩
  | pe :: pes, es, h => by
    simp only [cMany] at h
    split at h
    · cases h
    · rename_i hs
      have hs : isStar pe = false := by simpa using hs
      simp only [Option.bind_eq_some_iff, Option.map_eq_some_iff] at h
      obtain ⟨x, h1, xs, h2, rfl⟩ := h
      obtain ⟨a1, a2⟩ := cMany_a hf h2
      refine ⟨a_cons (hf pe x h1) a1 hs, ?_⟩
      unfold noStars at a2 ⊢
      rw [List.all_cons, a2, hs]; rfl
theorem cMany_n {f : Expr → Option Ep} (hf : ∀ pe e, f pe = some e → RE C pe e) (m : Nat) : ∀ {pes : List Expr} {es : Eps}, cMany f pes = some es → RN C m pes es
  | [], es, h => by cases h; exact n_nil
  | pe :: pes, es, h => by
    simp only [cMany] at h
    split at h
    · cases h
    · rename_i hs
      have hs : isStar pe = false := by simpa using hs
      simp only [Option.bind_eq_some_iff, Option.map_eq_some_iff] at h
      obtain ⟨x, h1, xs, h2, rfl⟩ := h
      exact n_cons (hf pe x h1) (cMany_n hf m h2) hs
theorem cMany_k {f : Expr → Option Ep} (hf : ∀ pe e, f pe = some e → RE C pe e) : ∀ {pes : List Expr} {es : Eps}, cMany f pes = some es → RK C pes es
  | [], es, h => by cases h; exact k_nil
  | pe :: pes, es, h => by
    simp only [cMany] at h
    split at h
    · cases h
    · rename_i hs
      have hs : isStar pe = false := by simpa using hs
      simp only [Option.bind_eq_some_iff, Option.map_eq_some_iff] at h
      obtain ⟨x, h1, xs, h2, rfl⟩ := h
      exact k_cons (hf pe x h1) (cMany_k hf h2) hs
theorem cAnd_e {f : Expr → Option Ep} (hf : ∀ pe e, f pe = some e → RE C pe e) {pos : Pos} : ∀ {pes : List Expr} {e : Ep}, cAnd f pes = some e → RE C (.BoolOp .And pes pos) e
  | [], e, h => by cases h
  | [pe], e, h => r_one (hf pe e h)
  | pe :: pb :: r, e, h => by
    simp only [cAnd, Option.bind_eq_some_iff, Option.map_eq_some_iff] at h
    obtain ⟨x, h1, y, h2, rfl⟩ := h
    exact r_and (hf pe x h1) (cAnd_e hf h2)
theorem cOr_e {f : Expr → Option Ep} (hf : ∀ pe e, f pe = some e → RE C pe e) {pos : Pos} : ∀ {pes : List Expr} {e : Ep}, cOr f pes = some e → RE C (.BoolOp .Or pes pos) e
  | [], e, h => by cases h
  | [pe], e, h => r_one (hf pe e h)
  | pe :: pb :: r, e, h => by
    simp only [cOr, Option.bind_eq_some_iff, Option.map_eq_some_iff] at h
    obtain ⟨x, h1, y, h2, rfl⟩ := h
    exact r_or (hf pe x h1) (cOr_e hf h2)
theorem cAnd_t {f : Expr → Option Ep} (hf : ∀ pe e, f pe = some e → RT C pe e) {pos : Pos} : ∀ {pes : List Expr} {e : Ep}, cAnd f pes = some e → RW C (.BoolOp .And pes pos) e
  | [], e, h => by cases h
  | [pe], e, h => w_and1 (hf pe e h)
  | pe :: pb :: r, e, h => by
    simp only [cAnd, Option.bind_eq_some_iff, Option.map_eq_some_iff] at h
    obtain ⟨x, h1, y, h2, rfl⟩ := h
    exact w_and (hf pe x h1) (cAnd_t hf h2)
theorem cOr_t {f : Expr → Option Ep} (hf : ∀ pe e, f pe = some e → RT C pe e) {pos : Pos} : ∀ {pes : List Expr} {e : Ep}, cOr f pes = some e → RW C (.BoolOp .Or pes pos) e
  | [], e, h => by cases h
  | [pe], e, h => w_or1 (hf pe e h)
  | pe :: pb :: r, e, h => by
    simp only [cOr, Option.bind_eq_some_iff, Option.map_eq_some_iff] at h
    obtain ⟨x, h1, y, h2, rfl⟩ := h
    exact w_or (hf pe x h1) (cOr_t hf h2)
/-! targets -/
theorem cTn_ok {all : Str → Bool} {x : Str} {i : Nat} {p : Pos} (h : cTn N sc all x = some i) (G : Good M N hot sc C) (ha : ∀ x, all x = true → C.X.fn x = true) : PG C.X (.Name x p) (gName i) := by
  unfold cTn at h
  split at h
  · rename_i hc
    refine pg_name (by rw [G.hN]; exact G.nd) (by rw [G.hN]; exact slot_ok h) ?_ ?_
    · rw [G.hsc]
      rcases hc with e | ⟨_, e⟩
      · exact .inl e
      · exact .inr e
    · rw [G.hsc]
      rcases hc with e | ⟨e, _⟩
      · exact .inr e
      · exact .inl (ha x e)
  · cases h
theorem cTg_both {all : Str → Bool} (G : Good M N hot sc C) (hc : C.X.calm = true) (ha : ∀ x, all x = true → C.X.fn x = true) : ∀ n, (∀ {tg : Expr} {t : Tg}, cTg N sc all n tg = some t → PG C.X tg (tgT C.X.K t)) ∧
    ∀ {es : List Expr} {ts : Tgs}, cTns N sc all n es = some ts → PGs C.X es (gsT C.X.K ts) ∧ (assignEach es C.X.env).length = tgLen ts ∧ (assignEach es C.X.env).findIdx? (·.1) = none
  | 0 => ⟨fun h => (by simp only [cTg] at h; cases h), fun h => (by simp only [cTns] at h; cases h)⟩
  | n + 1 => by
    obtain ⟨ih1, ih2⟩ := cTg_both G hc ha n
    refine ⟨fun {tg t} h => ?_, fun {es ts} h => ?_⟩
    · cases tg
      case Name x p =>
        simp only [cTg, Option.map_eq_some_iff] at h
        obtain ⟨i, h1, rfl⟩ := h
        exact cTn_ok h1 G ha
      case Tuple es k p =>
        simp only [cTg, Option.map_eq_some_iff] at h
        obtain ⟨is, h1, rfl⟩ := h
        obtain ⟨a1, a2, a3⟩ := ih2 h1
        exact pg_tup hc a1 a2 a3
      all_goals (simp only [cTg] at h; cases h)
    · cases es with
      | nil => simp only [cTns, Option.some.injEq] at h; subst h; exact ⟨pgs_nil, rfl, rfl⟩
      | cons e es =>
        simp only [cTns, Option.bind_eq_some_iff, Option.map_eq_some_iff] at h
        obtain ⟨t, h1, ts', h2, rfl⟩ := h
        obtain ⟨a1, a2, a3⟩ := ih2 h2
        have hae : assignEach (e :: es) C.X.env = (false, assign e C.X.env) :: assignEach es C.X.env := by
          cases n with
          | zero => simp only [cTg] at h1; cases h1
          | succ n =>
            cases e <;> first | rfl | (simp only [cTg] at h1; cases h1)
        refine ⟨pgs_cons (ih1 h1) a1 (by rw [hae]; rfl), ?_, ?_⟩
        · rw [hae]
          show (assignEach es C.X.env).length + 1 = tgLen ts' + 1
          rw [a2]
        · rw [hae, List.findIdx?_cons, a3]; rfl
theorem cTg_ok {all : Str → Bool} {tg : Expr} {t : Tg} {n : Nat} (h : cTg N sc all n tg = some t) (G : Good M N hot sc C) (hc : C.X.calm = true) (ha : ∀ x, all x = true → C.X.fn x = true) : PG C.X tg (tgT C.X.K t) := (cTg_both G hc ha n).1 h
end
end EG
namespace EG
open PySem PySem.Spec PyProof.Rows L2 L2H
section
variable {prog : Program} {w : World} {A : Around} {E : Value → Shared → Prop} {hh : Heap} {ge : Array GenState} {dr : Drawn} {tt : Nat} {oz : OsState}
/-- the bound ValueError.__init__ of an exception is called -/
theorem mw_call {u e t0 C N : Addr} {dv : Option Addr} {rest : List Value} {Q : Value → Shared → Prop} {nm q : Str} {bs bm : List Value} {hd : Bool} {sn : List Str} {sub : List Value} {ab : Bool} {col : Option Bool} {dd : Option Addr} {k0 k1 k2 k3 k5 : Option Value}
    (hC : hh.get? C = some (excClassObj nm q C N bs bm hd sn sub ab col dd k0 k1 k2 k3 k5 "ValueError.__new__"))
    (he : hh.get? e = some { cls := .ref C, dict := dv, data := .fields #[.ref t0, .none, .none, .none, .bool false, .none] })
    (hu : hh.get? u = some (PySem.W.kxs_mw "ValueError.__init__" e)) (hz : rest.length ≤ sizeLine)
    (hq : ∀ h2 t1, (∀ b ob, b ≠ e → hh.get? b = some ob → h2.get? b = some ob) → h2.get? e = some { cls := .ref C, dict := dv, data := .fields #[.ref t1, .none, .none, .none, .bool false, .none] } → Q .none ⟨h2, ge, dr, tt, oz⟩) :
    wpAny (model prog w) A (call (.ref u) rest) Q E ⟨hh, ge, dr, tt, oz⟩ := by
  have FB := F.excBase_ValueError
  refine wpAny_call (codeAny_of_tree ?_)
  show wpAny _ A.in1 (callAny (.ref u) ⟨rest, []⟩) _ _ _
  simp only [callAny]
  refine wpAny_bind (wpAny_load hu ?_)
  have hty : (Value.type "method-wrapper" == Value.type "method" || Value.type "method-wrapper" == Value.type "builtin_function_or_method"
      || Value.type "method-wrapper" == Value.type "method-wrapper") = true := by decide
  simp only [PySem.W.kxs_mw, hty, if_true]
  refine PySem.W.KFB.if_so (by decide) ?_
  refine wpAny_bind (PySem.W.check_bound_init FB.toExcCallFacts hC he rfl ?_)
  refine wpAny_bind (wpAny_pure (wpAny_pure ?_))
  refine ⟨plainId_quiet FB.init.plain _, codeAny_builtin FB.initEntry ?_⟩
  exact PySem.W.exc_init_tree (cls := .ref C) (t0 := t0) (dv := dv) (c2 := .none) (c3 := .none) (b4 := .bool false) he hz fun h2 k e2 _ => hq h2 _ k e2
end
section
variable {X : Cx} {pins : List (Addr × Obj)} {σ : L2.St} {H : Hp} {s : Shared}
/-- what the text's and the class's own parts say of an error's __init__ -/
structure SupE (X : Cx) (C fI : Addr) (slf : Str) : Prop where
  ks : X.env.kindOf "super" = some .globalImplicit
  kc : X.env.kindOf "__class__" = some .free
  fu : X.env.func = some fI
  fn : ∃ (oc : Value) (od : Option Addr) (fd : FuncData) (osl : Array (Option Value)) (ar : Arg), X.K.lookup fI = some ⟨oc, od, .func fd, osl⟩ ∧ (fd.params.posonlyargs ++ fd.params.args).head? = some ar ∧ ar.arg = slf
  cd : ∃ (cda : Addr) (ccl : Value) (cdd : Option Addr) (vs : Array Value) (ccs : Array (Option Value)) (file : Str) (tf : Tok), X.env.code = .ref cda ∧ X.K.lookup cda = some ⟨ccl, cdd, .fields vs, ccs⟩ ∧ vs[2]? = some (.str file tf) ∧ ((X.prog.main.file : Str) == file) = true
  tp : (X.prog.main.scope.names.lookup ("super" : Str)).isSome = false
  sp : X.mg "super" = none
  cl : ∃ (cc : Addr) (cv : Value) (cld : Option Addr) (csl : Array (Option Value)), X.env.cells.lookup ("__class__" : Str) = some cc ∧ X.K.lookup cc = some ⟨cv, cld, .cell (some (.ref C)), csl⟩
  sf : X.env.kindOf slf = some .local
  n0 : X.N[0]? = some slf
  ox : OexC X.K C
  md : ∃ cd : ClassData, PySem.W.clsIn X.K C = some cd ∧ PySem.W.alongIn X.K "__init__" ((cd.mro.dropWhile (· != .ref C)).drop 1) = some (some (.builtin "ValueError.__init__"))
  su : PySem.W.mroIn X.K C (.ref C) = some true
  no : PySem.W.nsIn X.K cStatics "thirdparty.any" = some none
  ve : PySem.W.subIn X.K (.ref C) (.type "ValueError") = some true
theorem sup_ok {body : List Stmt} {C fI a : Addr} {slf text : Str} {p0 p1 ap cp tp : Pos} {kk : Nat} {pl : Sem Bool} {Q : Value → Shared → Prop} (S : SupE X C fI slf) (I : Inv X pins σ H s) (hσ : σ[0]? = some (some (.ref a))) (ha : H a = some (exo a C none))
    (he : eval (.Call (.Attribute (.Call (.Name "super" p0) [] [] p1) "__init__" ap) [.Constant (.str text) kk tp] [] cp) X.env = (do
      let ov ← attributeBase (.Call (.Name "super" p0) [] [] p1) "__init__" X.env (eval (.Call (.Name "super" p0) [] [] p1) X.env)
      standAt ap.atName
      let (f, first) ← holding [ov] (getMethod ov "__init__" pl)
      callWith cp f first (backTo cp (starEach [.Constant (.str text) kk tp] X.env)) []))
    (k : ∀ s', Inv X pins σ H s' → Q .none s') :
    PySem.wpAt (model X.prog X.w) X.A (.func body X.env) (eval (.Call (.Attribute (.Call (.Name "super" p0) [] [] p1) "__init__" ap) [.Constant (.str text) kk tp] [] cp) X.env) Q X.xe s := by
  obtain ⟨oc, od, fd, osl, ar, f1, f2, f3⟩ := S.fn
  obtain ⟨cda, ccl, cdd, vs, ccs, file, tf, c1, c2, c3, c4⟩ := S.cd
  obtain ⟨cc, cv, cld, csl, e1, e2⟩ := S.cl
  obtain ⟨cd, g1, g2⟩ := S.md
  have KX := I.kIn
  have hk := I.ok.kind
  obtain ⟨oD, hD1, hD2⟩ : ∃ oD, s.heap.get? C = some oD ∧ oD.data = .cls cd := by
    have g1' := g1
    unfold PySem.W.clsIn at g1'
    split at g1'
    · rename_i c d cd' sl ho
      cases g1'
      exact ⟨_, KX _ _ ho, rfl⟩
    · cases g1'
  obtain ⟨t1, hx⟩ := exo_at I.hok ha
  refine ks_wpAt_MethodCall (pl := pl) ?_ he
  refine ks_wpAt_super_base S.ks S.kc (by decide) S.fu (KX _ _ f1) rfl f2 c1 (KX _ _ c2) rfl c3 c4 S.tp ?_
  obtain ⟨mb, b1, b2⟩ := I.ok.mod.blt
  refine PySem.W.ks_loadName_global hk S.ks (PySem.Calls.loadGlobal_builtin (mg := X.mg) (mb := mb) (v := .type "super") (by rw [I.ok.glob]; exact I.ok.mod.glob.keeps I.bk) S.sp (by rw [I.ok.blt]; exact b1.keeps I.bk) ((b2 _ (by decide +kernel)).trans (by decide +kernel)) ⟨rfl, ?_⟩)
  refine wpAny_loadName_free hk S.kc e1 ⟨_, KX _ _ e2, rfl⟩ ?_
  obtain ⟨m, hm, hl⟩ := I.loc
  obtain ⟨u, ru, lu⟩ := hl 0 slf (.ref a) S.n0 hσ (.inl S.sf)
  obtain rfl : u = Value.ref a := ru
  rw [f3]
  have hms : m slf = some (Value.ref a) := by
    have sf : X.env.kindOf slf = some .local := S.sf
    rcases lu with ⟨_, z⟩ | ⟨z, _⟩
    · exact z
    · rw [sf] at z
      rcases z with z | z <;> cases z
  refine wpAny_loadName_local hk S.sf hm hms ?_
  obtain ⟨hp, g, d, t, os⟩ := s
  refine ks_wpAny_isType_cls hD1 hD2 ⟨rfl, ?_⟩
  refine ks_wpAny_call_super hD1 hD2 hx rfl (fun c z => by cases z) (PySem.W.looks_mroIn KX S.su) fun h2 q1 q2 => ?_
  have I2 : Inv X pins σ H ⟨h2, g, d, t, os⟩ := Inv.kept (t' := t) I q2
  have KX2 := I2.kIn
  have hx2 := q2 _ _ hx
  have hI : PySem.W.Looks (model X.prog X.w) h2 (isInstance (.ref a) (.type "ValueError")) true :=
    (PySem.W.InstAt.type (⟨hx2, rfl, rfl, trivial⟩ : PySem.W.InstAt h2 a { cls := .ref C, dict := none, data := .fields #[.ref t1, .none, .none, .none, .bool false, .none] } C none)).andThen (PySem.W.looks_subIn KX2 S.ve)
  refine PySem.W.kxs_getMethod PySem.W.kxs_ValueError q1 (PySem.W.looks_opaque KX2 S.no) (l₀ := cd.mro) (fun A Q E s kk q => wpAny_bind ((PySem.W.looks_clsIn KX2 g1) A _ E s kk (wpAny_pure q))) rfl KX2 g2 hI (fun z => ?_) (by decide) ?_
  · subst z
    rw [hx] at hD1; cases hD1; cases hD2
  · have I3 : Inv X pins σ H ⟨h2.push (PySem.W.kxs_mw "ValueError.__init__" a), g, d, t + 1, os⟩ := Inv.kept (t' := t + 1) I2 fun b u e => Heap.get?_push_of_some _ e
    have hu : (h2.push (PySem.W.kxs_mw "ValueError.__init__" a)).get? h2.objs.size = some (PySem.W.kxs_mw "ValueError.__init__" a) := Heap.get?_push_at rfl rfl
    refine PySem.W.kxs_callWith (i := "ValueError.__init__") (x := a) rfl (PySem.Calls.evalArgs_plain ?_)
    show wpAny _ _ (spliced [(false, eval (.Constant (.str text) kk tp) X.env)]) _ _ _
    unfold spliced
    refine wpAny_bind (PySem.Calls.Constant_str ?_)
    refine wpAny_bind (wpAny_pure ?_)
    refine wpAny_bind (wpAny_holding ?_)
    unfold spliced
    refine wpAny_pure (wpAny_pure ⟨hu, ?_⟩)
    obtain ⟨nm, q, N, bs, bm, sn, sub, ab, col, dd, k0, k1, k2, k3, k5, hC, hbm⟩ := S.ox.cls
    have I4 := Inv.tok (t := t + 1 + 1) I3
    refine mw_call (I4.kIn _ _ hC) (Heap.get?_push_of_some _ hx2) hu (by simp [sizeLine_eq]) fun h3 t3 w1 w2 => ?_
    have J := I4.write (t' := t + 1 + 1) (x := a) (e := a) (o := exo a C none) (by rw [ha]; exact True.intro) (.inl rfl) w1 ⟨_, w2⟩ (exo_ok w2)
    have eu : upd H a (exo a C none) = H := by
      funext b
      by_cases hb : b = a
      · rw [hb, upd_same, ha]
      · rw [upd_ne hb]
    rw [eu] at J
    exact k _ J
end
end EG
namespace EG
open PySem PySem.Spec PyProof.Rows L2 L2H
/-! ### an own error's __init__: super().__init__(text), then its fields -/
def isSup : Stmt → Bool
  | .Expr (.Call (.Attribute (.Call (.Name x _) [] [] _) m ap) [.Constant (.str _) _ _] [] cp) _ => decide (x = "super") && decide (m = "__init__") && (ap.endLine == cp.line)
  | _ => false
def cErr (N : List Str) (sc : Scope) (slf : Str) : List Stmt → Option (List (Str × Nat))
  | [] => some []
  | st :: r => match st with
    | .Assign [.Attribute (.Name y _) f _] (.Name x _) _ => if y = slf ∧ visB sc slf = true ∧ slf ≠ "__debug__" ∧ slf ≠ "__classdict__" ∧ visB sc x = true ∧ x ≠ "__debug__" ∧ x ≠ "__classdict__" then (slot N x).bind fun i => (cErr N sc slf r).map fun fs => (f, i) :: fs else none
    | _ => none
/-- the fields that are stored: the last one first -/
def putF (vs : List V) : List (Str × Nat) → List (Str × V) → Option (List (Str × V))
  | [], acc => some acc
  | (f, i) :: r, acc => (vs[i]?).bind fun v => putF vs r ((f, v) :: acc)
theorem sup_form {x m : Str} {p0 p1 ap cp tp : Pos} {text : Str} {kk : Nat} {env : PySem.Env} (hl : (ap.endLine == cp.line) = true) :
    eval (.Call (.Attribute (.Call (.Name x p0) [] [] p1) m ap) [.Constant (.str text) kk tp] [] cp) env = (do
      let ov ← attributeBase (.Call (.Name x p0) [] [] p1) m env (eval (.Call (.Name x p0) [] [] p1) env)
      standAt ap.atName
      let (f, first) ← holding [ov] (getMethod ov m (do return (← importBound (.Call (.Name x p0) [] [] p1) env).getD true))
      callWith cp f first (backTo cp (starEach [.Constant (.str text) kk tp] env)) []) := by
  show (do
      let ov ← attributeBase (.Call (.Name x p0) [] [] p1) m env (eval (.Call (.Name x p0) [] [] p1) env)
      standAt ap.atName
      methodCall (.Call (.Name x p0) [] [] p1) m ap cp env ov (1 + 0) (backTo cp (starEach [.Constant (.str text) kk tp] env)) (backToKw cp (keywordEach [] env))) = _
  unfold methodCall calleeOf methodCallPos
  have f : methodCallForm (1 + 0) (backTo cp (starEach [.Constant (.str text) kk tp] env)) (backToKw cp (keywordEach [] env)) = true := rfl
  rw [f]
  simp only [hl, Bool.not_true, Bool.false_or, if_true]
  rfl
section
variable {X : Cx} {pins : List (Addr × Obj)} {σ : L2.St} {H : Hp} {s : Shared}
/-- the stores, one behind the other, once the dict stands -/
theorem stores1 {C a dx : Addr} {slf : Str} {vs : List V} (ox : OexC X.K C) (n0 : X.N[0]? = some slf) (hσ : σ[0]? = some (some (.ref a))) (hvs : ∀ (i : Nat) (v : V), vs[i]? = some v → σ[i]? = some (some v)) (hna : ∀ f, PySem.W.findIn X.K (.ref C) f = some none ∨ True) :
    ∀ {sts : List Stmt} {fs : List (Str × Nat)} {acc out : List (Str × V)} {H : Hp} {Dn : Ends}, cErr X.N X.env.scope slf sts = some fs → (∀ p ∈ fs, PySem.W.findIn X.K (.ref C) p.1 = some none) → putF vs fs acc = some out → acc.length + fs.length ≤ 900 → H a = some (exo a C (some dx)) → H dx = some (exd dx acc) → dx ≠ a →
      (∀ H', (∀ b, b ≠ dx → H' b = H b) → H' dx = some (exd dx out) → Dn.nx σ H') → sU X sts Dn σ H
  | [], fs, acc, out, H, Dn, hc, hn, hp, hl, h1, h2, h3, k => by
    simp only [cErr, Option.some.injEq] at hc
    subst hc
    simp only [putF, Option.some.injEq] at hp
    subst hp
    exact sU_of pss_nil (k H (fun b _ => rfl) h2)
  | st :: r, fs, acc, out, H, Dn, hc, hn, hp, hl, h1, h2, h3, k => by
    simp only [cErr] at hc
    split at hc
    · rename_i y py f pf x px p
      split at hc
      · rename_i hcc
        obtain ⟨rfl, c1, c2, c3, c4, c5, c6⟩ := hcc
        simp only [Option.bind_eq_some_iff, Option.map_eq_some_iff] at hc
        obtain ⟨i, g1, fs', g2, rfl⟩ := hc
        simp only [putF, Option.bind_eq_some_iff] at hp
        obtain ⟨v, g3, g4⟩ := hp
        have ps := ps_ost (X := X) (f := f) (p' := pf) (pos := p) (pe_var (pos := py) n0 (visB_ok c1) (beq_no c2) (beq_no c3)) (pe_var (pos := px) (slot_ok g1) (visB_ok c4) (beq_no c5) (beq_no c6))
        refine sU_of (pss_cons ps psU) ?_
        refine ⟨v, hvs i v g3, .ref a, hσ, a, C, rfl, ox, hn (f, i) List.mem_cons_self, .inr ⟨dx, acc, h1, h2, by simp at hl; omega, ?_⟩⟩
        refine stores1 ox n0 hσ hvs hna g2 (fun p hp => hn p (List.mem_cons_of_mem _ hp)) g4 (by simp at hl ⊢; omega) (by rw [upd_ne (Ne.symm h3)]; exact h1) upd_same h3 fun H' w1 w2 => k H' (fun b hb => by rw [w1 b hb, upd_ne hb]) w2
      · cases hc
    · cases hc
/-- the first store makes the dict -/
theorem stores0 {C a : Addr} {slf : Str} {vs : List V} (ox : OexC X.K C) (n0 : X.N[0]? = some slf) (hσ : σ[0]? = some (some (.ref a))) (hvs : ∀ (i : Nat) (v : V), vs[i]? = some v → σ[i]? = some (some v))
    {sts : List Stmt} {fs : List (Str × Nat)} {out : List (Str × V)} {H : Hp} {Dn : Ends} (hne : fs ≠ []) (hc : cErr X.N X.env.scope slf sts = some fs) (hn : ∀ p ∈ fs, PySem.W.findIn X.K (.ref C) p.1 = some none) (hp : putF vs fs [] = some out) (hl : fs.length ≤ 900) (h1 : H a = some (exo a C none))
    (k : ∀ dx, H dx = none → dx ≠ a → Dn.nx σ (upd (upd H dx (exd dx out)) a (exo a C (some dx)))) : sU X sts Dn σ H := by
  cases sts with
  | nil => simp only [cErr, Option.some.injEq] at hc; exact absurd hc.symm hne
  | cons st r =>
    simp only [cErr] at hc
    split at hc
    · rename_i y py f pf x px p
      split at hc
      · rename_i hcc
        obtain ⟨rfl, c1, c2, c3, c4, c5, c6⟩ := hcc
        simp only [Option.bind_eq_some_iff, Option.map_eq_some_iff] at hc
        obtain ⟨i, g1, fs', g2, rfl⟩ := hc
        simp only [putF, Option.bind_eq_some_iff] at hp
        obtain ⟨v, g3, g4⟩ := hp
        have ps := ps_ost (X := X) (f := f) (p' := pf) (pos := p) (pe_var (pos := py) n0 (visB_ok c1) (beq_no c2) (beq_no c3)) (pe_var (pos := px) (slot_ok g1) (visB_ok c4) (beq_no c5) (beq_no c6))
        refine sU_of (pss_cons ps psU) ?_
        refine ⟨v, hvs i v g3, .ref a, hσ, a, C, rfl, ox, hn (f, i) List.mem_cons_self, .inl ⟨h1, fun dx hdx hda => ?_⟩⟩
        refine stores1 (a := a) (dx := dx) ox n0 hσ hvs (fun _ => .inr trivial) g2 (fun p hp => hn p (List.mem_cons_of_mem _ hp)) g4 (by simp at hl ⊢; omega) upd_same (by rw [upd_ne hda, upd_same]) hda fun H' w1 w2 => ?_
        have e : H' = upd (upd H dx (exd dx out)) a (exo a C (some dx)) := by
          funext b
          by_cases hb : b = dx
          · subst hb
            rw [w2, upd_ne hda, upd_same]
          · rw [w1 b hb]
            by_cases hb2 : b = a
            · subst hb2; rw [upd_same, upd_same]
            · rw [upd_ne hb2, upd_ne hb2, upd_ne hb, upd_ne hb]
        rw [e]
        exact k dx hdx hda
      · cases hc
    · cases hc
end
/-- what an error's __init__ promises: its fields stand -/
def spX (C : Addr) (fs : List (Str × Nat)) (n : Nat) : Sp := fun vs H Q _ => vs.length = n ∧ ∃ a vs' out, vs = V.ref a :: vs' ∧ H a = some (exo a C none) ∧ putF vs fs [] = some out ∧ ∀ dx, H dx = none → dx ≠ a → Q .non (upd (upd H dx (exd dx out)) a (exo a C (some dx)))
/-- what the module's own parts say of an error's __init__ -/
structure SupK (P : Program) (K : PySem.W.Frag) (mg : Str → Option Value) (C fI : Addr) (F : NdefX.NF) (slf : Str) (N ps : List Str) (fs : List (Str × Nat)) : Prop where
  sc : NdefX.NScope N ps ["__class__"] F.scope
  bd : ∃ st sts, F.body = st :: sts ∧ isSup st = true ∧ cErr N F.scope slf sts = some fs
  ne : fs ≠ []
  le : fs.length ≤ 900
  nf : ∀ p ∈ fs, PySem.W.findIn K (.ref C) p.1 = some none
  ks : F.scope.names.lookup ("super" : Str) = some .globalImplicit
  kc : F.scope.names.lookup ("__class__" : Str) = some .free
  sf : F.scope.names.lookup slf = some .local
  n0 : N[0]? = some slf
  p0 : ps[0]? = some slf
  hd : ∃ ar, (F.params.posonlyargs ++ F.params.args).head? = some ar ∧ ar.arg = slf
  cd : ∃ (ccl : Value) (cdd : Option Addr) (vs : Array Value) (ccs : Array (Option Value)) (file : Str) (tf : Tok), K.lookup F.c = some ⟨ccl, cdd, .fields vs, ccs⟩ ∧ vs[2]? = some (.str file tf) ∧ ((P.main.file : Str) == file) = true
  ci : PySem.W.codeIn K (.ref F.c) F.qual = true
  tp : (P.main.scope.names.lookup ("super" : Str)).isSome = false
  sp : mg "super" = none
  cl : ∃ (cc : Addr) (cv : Value) (cld : Option Addr) (csl : Array (Option Value)), F.cl = [(("__class__" : Str), cc)] ∧ K.lookup cc = some ⟨cv, cld, .cell (some (.ref C)), csl⟩
  ox : OexC K C
  md : ∃ cd : ClassData, PySem.W.clsIn K C = some cd ∧ PySem.W.alongIn K "__init__" ((cd.mro.dropWhile (· != .ref C)).drop 1) = some (some (.builtin "ValueError.__init__"))
  su : PySem.W.mroIn K C (.ref C) = some true
  no : PySem.W.nsIn K cStatics "thirdparty.any" = some none
  ve : PySem.W.subIn K (.ref C) (.type "ValueError") = some true
theorem err_ok {P : Program} {w : World} {K : PySem.W.Frag} {mg : Str → Option Value} {base : Heap} {C fI : Addr} {F : NdefX.NF} {slf : Str} {N ps : List Str} {fs : List (Str × Nat)} {oc doc pm ctv : Value} {od : Option Addr} {osl : Array (Option Value)} {k : Nat}
    (S : SupK P K mg C fI F slf N ps fs) (lk : K.lookup fI = some ⟨oc, od, .func (F.fd doc pm ctv), osl⟩) : FnOk P w K mg base (L2.CX P w) (k + 1) fI (F.fd doc pm ctv) ps (spX C fs ps.length) := by
  refine ⟨fun vs H Q E h => h.1, fun A outer s H args us vs Q E hr e0 hb r hsp => ?_⟩
  obtain ⟨hl, a, vs', out, rfl, ha, hp, hk⟩ := hsp
  obtain ⟨st, sts, b1, b2, b3⟩ := S.bd
  obtain ⟨cc, cv, cld, csl, l1, l2⟩ := S.cl
  obtain ⟨ar, a1, a2⟩ := S.hd
  obtain ⟨ccl, cdd, cvs, ccs, file, tf, d1, d2, d3⟩ := S.cd
  have KX : K.In s.heap := e0.mod.kin.keeps fun b o e => (e0.bs b o e).1
  have lim : s.heap.NoLimit := e0.mod.nolimit.keeps fun b o e => (e0.bs b o e).1
  have hcb : base.get? cc = some ⟨cv, cld, .cell (some (.ref C)), csl⟩ := e0.mod.kin _ _ l2
  refine ks_codeAny_call_defAt hr.depth (KX fI _ lk) rfl lim (PySem.W.codeRec_of KX S.ci) (body := st :: sts) (by show FuncBody.stmts F.body = _; rw [b1]) hb S.sc.nocell (fun x hx => S.sc.par x.1 (List.of_mem_zip hx).1) (fun h₀ hns kp => ?_) S.sc.co S.sc.gen S.sc.kind
  have CA : NdefX.CellsAt F.cl ["__class__"] [none] s.heap H := by
    refine ⟨rfl, fun y c hy => ?_, fun x y c hx hy => ?_, fun i y hy => ?_⟩
    · rw [l1] at hy
      simp only [List.lookup] at hy
      split at hy
      · cases hy
        exact ⟨(e0.bs _ _ hcb).2, _, _, (e0.bs _ _ hcb).1, rfl⟩
      · cases hy
    · rw [l1] at hx hy
      simp only [List.lookup] at hx hy
      split at hx
      · rename_i z1
        split at hy
        · rename_i z2
          exact (eq_of_beq z1).trans (eq_of_beq z2).symm
        · cases hy
      · cases hx
    · cases i with
      | zero =>
        obtain rfl : ("__class__" : Str) = y := Option.some.inj hy
        refine ⟨cc, by rw [l1]; simp [List.lookup], fun v hv => by simp at hv⟩
      | succ i => simp at hy
  have I : Inv (NdefX.ncx (L2.CX P w) P w K mg base N F fI A outer s H E) [] (NdefX.startF N (V.ref a :: vs') [none]) H { s with heap := h₀, toks := s.toks + (ps.zip us).length } := NdefX.inv_startN S.sc hr.hd e0 hl r CA hns kp
  have SE : SupE (NdefX.ncx (L2.CX P w) P w K mg base N F fI A outer s H E) C fI slf :=
    ⟨S.ks, S.kc, rfl, ⟨oc, od, _, osl, ar, lk, a1, a2⟩, ⟨F.c, ccl, cdd, cvs, ccs, file, tf, rfl, d1, d2, d3⟩, S.tp, S.sp, ⟨cc, cv, cld, csl, by show F.cl.lookup _ = _; rw [l1]; simp [List.lookup], l2⟩, S.sf, S.n0, S.ox, S.md, S.su, S.no, S.ve⟩
  generalize hX : NdefX.ncx (L2.CX P w) P w K mg base N F fI A outer s H E = X at I SE
  have hst : ∃ p0 p1 ap cp tp pos text kk, st = .Expr (.Call (.Attribute (.Call (.Name "super" p0) [] [] p1) "__init__" ap) [.Constant (.str text) kk tp] [] cp) pos ∧ (ap.endLine == cp.line) = true := by
    unfold isSup at b2
    split at b2
    · simp only [Bool.and_eq_true, decide_eq_true_eq] at b2
      obtain ⟨⟨rfl, rfl⟩, q3⟩ := b2
      exact ⟨_, _, _, _, _, _, _, _, rfl, q3⟩
    · cases b2
  obtain ⟨p0, p1, ap, cp, tp, pos, text, kk, rfl, hline⟩ := hst
  have hpos : (NdefX.startF N (V.ref a :: vs') [none])[0]? = some (some (.ref a)) := rfl
  have hvs : ∀ (i : Nat) (v : V), (V.ref a :: vs')[i]? = some v → (NdefX.startF N (V.ref a :: vs') [none])[i]? = some (some v) := fun i v e => by
    unfold NdefX.startF
    have hi : i < (V.ref a :: vs').length := (List.getElem?_eq_some_iff.mp e).1
    rw [List.getElem?_append_left (by simpa using hi), List.getElem?_map, e]; rfl
  have fin : ∀ s', Inv X [] (NdefX.startF N (V.ref a :: vs') [none]) H s' → wpAny (model X.prog X.w) X.A (execs sts X.env) (SP X [] { nx := fun _ H' => Q .non H', rt := Q }) X.xe s' := fun s' J => by
    subst hX
    exact stores0 (X := NdefX.ncx (L2.CX P w) P w K mg base N F fI A outer s H E) S.ox S.n0 hpos hvs S.ne b3 S.nf hp S.le ha hk [] s' J
  have key : PySem.wpAt (model X.prog X.w) X.A (.func (.Expr (.Call (.Attribute (.Call (.Name "super" p0) [] [] p1) "__init__" ap) [.Constant (.str text) kk tp] [] cp) pos :: sts) X.env) (execs (.Expr (.Call (.Attribute (.Call (.Name "super" p0) [] [] p1) "__init__" ap) [.Constant (.str text) kk tp] [] cp) pos :: sts) X.env)
      (SP X [] { nx := fun _ H' => Q .non H', rt := Q }) X.xe { s with heap := h₀, toks := s.toks + (ps.zip us).length } := by
    refine ks_wpAt_execs_cons (ks_wpAt_Expr_any (sup_ok SE I hpos ha (sup_form hline) fun s' J => ?_) I.quiet rfl)
    exact wpAt_of_wpAny (fin s' J)
  subst hX
  refine ks_wpAt_mono key (fun fl s' hs => ?_) fun e s' hs => hs
  cases fl with
  | next => obtain ⟨σ', H', J, q⟩ := hs; exact ⟨V.non, H', J.os, J.bare, J.base, J.hok, (rfl : RelV V.non Value.none), q⟩
  | ret u => obtain ⟨v, σ', H', J, rv, q⟩ := hs; exact ⟨v, H', J.os, J.bare, J.base, J.hok, rv, q⟩
  | brk => obtain ⟨σ', H', J, q⟩ := hs; exact q.elim
  | cont => obtain ⟨σ', H', J, q⟩ := hs; exact q.elim
end EG
namespace EG
open PySem PySem.Spec PyProof.Rows L2 L2H
/-! ### raise C(..) -/
theorem putE_ok {G : Gt} {Hi : Hp} {ds : List (Option D)} {vs : List V} (h : ∀ (i : Nat) (d : D), ds[i]? = some (some d) → ∃ v, vs[i]? = some v ∧ Rep G Hi d v) :
    ∀ {fs : List (Str × Nat)} {ns ns' : List Str} {xs xs' : List D} {ws : List V}, putE ds fs ns xs = some (ns', xs') → RepL G Hi xs ws → ns.length = xs.length → ∃ ws', putF vs fs (ns.zip ws) = some (ns'.zip ws') ∧ RepL G Hi xs' ws' ∧ ns'.length = xs'.length
  | [], ns, ns', xs, xs', ws, e, hr, hl => by
    simp only [putE, Option.some.injEq, Prod.mk.injEq] at e
    obtain ⟨rfl, rfl⟩ := e
    exact ⟨ws, rfl, hr, hl⟩
  | (f, i) :: r, ns, ns', xs, xs', ws, e, hr, hl => by
    simp only [putE, Option.bind_eq_some_iff] at e
    obtain ⟨d, e1, e2⟩ := e
    have e3 : ds[i]? = some (some d) := by
      cases q : ds[i]? with
      | none => rw [q] at e1; cases e1
      | some o => rw [q] at e1; cases o with
        | none => cases e1
        | some d' => cases e1; rfl
    obtain ⟨v, g1, g2⟩ := h i d e3
    obtain ⟨ws', k1, k2, k3⟩ := putE_ok h (fs := r) (ns := f :: ns) (xs := d :: xs) (ws := v :: ws) e2 (RepL.cons g2 hr) (by simp [hl])
    refine ⟨ws', ?_, k2, k3⟩
    simp only [putF, g1, Option.bind_some]
    exact k1
/-- an error class of the program that may be raised -/
structure RsI (C : Ctx) (φ : List Vl → Rs Vl) (x : Str) : Prop where
  ex : ∃ (k c : Nat) (fI : Addr) (fd : FuncData) (ps : List Str) (fs : List (Str × Nat)), C.X.mg x = some (.ref (C.G.cl c)) ∧ OexC C.X.K (C.G.cl c) ∧ PySem.W.findIn C.X.K (.ref (C.G.cl c)) "__init__" = some (some (.ref fI)) ∧ PySem.W.typeIn C.X.K (.ref fI) = some (.type "function") ∧
    FnOk C.X.prog C.X.w C.X.K C.X.mg C.X.base (L2.CX C.X.prog C.X.w) k fI fd ps (spX (C.G.cl c) fs ps.length) ∧ Room (k + 1) C.X.A ∧ Binds C.X.K fd ps [] ∧ ∀ as o, φ as = some o → as.length + 1 = ps.length ∧ as.length ≤ 1000 ∧ ∃ ns xs, putE (none :: as.map Vl.keep) fs [] [] = some (ns, xs) ∧ o = .er c ns xs
theorem args_keep {G : Gt} {Hi H : Hp} : ∀ {as : List Vl} {vs : List V}, ArgsOk G Hi H as vs → ∀ (i : Nat) (d : D), (as.map Vl.keep)[i]? = some (some d) → ∃ v, vs[i]? = some v ∧ Rep G Hi d v
  | [], _, _, i, d, h => by simp at h
  | a :: as, _, h, i, d, e => by
    obtain ⟨x, ys, rfl, h3, h4⟩ := h
    cases i with
    | zero =>
      simp at e
      match a, h3, e with
      | .sh d', h3, e => cases e; exact ⟨x, rfl, h3⟩
      | .bo n d', _, e => cases e
    | succ i =>
      obtain ⟨v, g1, g2⟩ := args_keep h4 i d (by simpa using e)
      exact ⟨v, by simpa using g1, g2⟩
section
variable {C : Ctx} {pos pos2 : Pos}
theorem s_rse (hc : C.X.calm = true) (tk : Takes C.X C.W) {x : Str} {f : Nat} {e : Expr} {es : List Expr} {as : Eps} {p : Pos} (F : RsI C (C.Φ.call f) x) (hg : Gl C.X x) (hd : (x == ("__debug__" : Str)) = false) (hs : noStars (e :: es) = true)
    (ha : RA C (e :: es) as) : RS C (.Raise (some (.Call (.Name x p) (e :: es) [] pos)) none pos2) (.rse f as) := fun ε o h Hi0 H0 Hi H σ Dn I k => by
  simp only [execD] at h
  obtain ⟨lv, c, fI, fd, ps, fs, hm, ox, hf, ht, F1, hr, hb, hφ⟩ := F.ex
  obtain ⟨s1, s2⟩ := noStars_cons hs
  have pr := ps_raise (pos := pos2) hc tk (pmk_oex (p := p) (pos := pos) ox hf ht F1 hr hb (dvs := []) .nil (fun pins σ H s e s' I cx => by
    obtain ⟨_, _, _, _, _, _, _, _, _, _, _, _, z⟩ := cx
    exact z.elim) hg hm paU hd (star_no s1) (stars_no s2))
  refine sU1_of pr ?_
  rcases ob_some h with ⟨c', ns, ds, h1, rfl⟩ | ⟨rs, h1, h2⟩
  · exact ha ε _ h1 Hi0 H0 Hi H σ _ I (erO I k)
  · refine ha ε _ h1 Hi0 H0 Hi H σ _ I fun Hi1 H1 xs s3 o1 => ?_
    rcases ob_some h2 with ⟨c', ns, ds, h3, rfl⟩ | ⟨r, h3, h4⟩
    · obtain ⟨g1, g2, ns', xs', g3, g4⟩ := hφ rs _ h3
      cases g4
      have hlen := o1.length
      refine ⟨by omega, fun a hH => ?_⟩
      rw [List.append_nil]
      obtain ⟨ws', w1, w2, w3⟩ := putE_ok (G := C.G) (Hi := Hi1) (vs := V.ref a :: xs) (fun i d e => by
        cases i with
        | zero => simp at e
        | succ i => obtain ⟨v, q1, q2⟩ := args_keep o1 i d (by simpa using e); exact ⟨v, by simpa using q1, q2⟩) g3 (ws := []) rfl rfl
      refine ⟨by simp; omega, a, xs, _, rfl, upd_same, w1, fun dx hdx hda => ⟨rfl, dx, _, upd_same, by rw [upd_ne hda, upd_same], ?_, ?_⟩⟩
      · rw [upd_ne hda] at hdx; exact hdx
      · have hdx1 : H1 dx = none := by rw [upd_ne hda] at hdx; exact hdx
        have e : upd (del (upd (upd (upd H1 a (exo a (C.G.cl c) none)) dx (exd dx (ns.zip ws'))) a (exo a (C.G.cl c) (some dx))) a) dx (.xd (ns.zip ws')) = upd H1 dx (.xd (ns.zip ws')) := by
          funext b
          by_cases b1 : b = dx
          · subst b1; rw [upd_same, upd_same]
          · rw [upd_ne b1, upd_ne b1]
            by_cases b2 : b = a
            · subst b2; rw [del_same, hH]
            · rw [del_ne b2, upd_ne b2, upd_ne b1, upd_ne b2]
        rw [e]
        have st := Step.new (o := .xd (ns.zip ws')) s3.s hdx1
        refine k _ _ σ _ _ (ex_trans s3.i st.i) ((I.step s3).step st) ⟨rfl, w3, .inr ⟨dx, ws', rfl, upd_same, RepL.mono st.i _ _ w2⟩⟩
    · cases h4
/-- an own error without an __init__ of its own -/
structure RsO (C : Ctx) (c : Nat) (x : Str) : Prop where
  g : C.X.mg x = some (.ref (C.G.cl c))
  e : PySem.W.excIn C.X.K (C.G.cl c) [.type "ValueError", .type "Exception", .type "BaseException", .type "object"] "ValueError.__new__" = true
  k : PySem.W.keepIn C.X.K (.ref (C.G.cl c)) = true
  b : PySem.W.subIn C.X.K (.ref (C.G.cl c)) (.type "BaseException") = some true
  t : PySem.W.typeIn C.X.K (.ref (C.G.cl c)) = some (.type "type")
theorem pmk_none {X : Cx} {Ca : Addr} {x : Str} {p pos : Pos} (q : PySem.W.excIn X.K Ca [.type "ValueError", .type "Exception", .type "BaseException", .type "object"] "ValueError.__new__" = true) (gC : X.mg x = some (.ref Ca)) (kC : PySem.W.keepIn X.K (.ref Ca) = true) (r : Raises X (.ref Ca)) (hg : Gl X x)
    (hdb : (x == ("__debug__" : Str)) = false) : L2.PMk X (.Call (.Name x p) [] [] pos) (fun _ H Q => Q (.ref Ca) none H) := by
  intro pins s σ H Q I h
  refine wpAny_Call_Name_kw (ld_glob I hg gC (PySem.W.callWith_K0 I.kIn kC ?_) hdb)
  show wpAny _ _ (call (.ref Ca) []) _ _ _
  obtain ⟨bm, N, nm, qn, bs, hdct, sn, sub, ab, col, dd, k0, k1, k2, k3, k5, mN, hC, hN, hni, T⟩ := exc_obj I.kIn q
  exact wpAny_call_exc_subT PySem.F.excBase_ValueError T hC hN hni (fun h' e hm => mk_of I hm r h (I.hok.gone hm.new)) (Nat.zero_le _)
theorem s_rse0 (hc : C.X.calm = true) (tk : Takes C.X C.W) {x : Str} {c : Nat} {p : Pos} (F : RsO C c x) (hg : Gl C.X x) (hd : (x == ("__debug__" : Str)) = false) : RS C (.Raise (some (.Call (.Name x p) [] [] pos)) none pos2) (.rse0 c) := fun ε o h Hi0 H0 Hi H σ Dn I k => by
  simp only [execD, Option.some.injEq] at h
  subst h
  refine sU1_of (ps_raise (pos := pos2) hc tk (pmk_none (p := p) (pos := pos) F.e F.g F.k (raises_own F.b F.t) hg hd)) ?_
  exact k _ _ σ _ _ (Evl.Ex.refl _) I ⟨rfl, rfl, .inl ⟨rfl, rfl⟩⟩
end
end EG
namespace EG
open PySem PySem.Spec PyProof.Rows L2 L2H
/-! ### try: .. except x as n: .. -/
def Ctx.tr (C : Ctx) (pn : List (Addr × Obj)) (xe : Value → Shared → Prop) (W : WX) : Ctx := ⟨C.X.tr pn xe, C.G, W, C.xp, C.Φ⟩
def Ctx.suite (C : Ctx) (a : Addr) (pn : List (Addr × Obj)) (cls : Value) (d : Option Addr) : Ctx := ⟨C.X.suite a pn, C.G, fun _ _ _ _ => False, some (a, cls, d), C.Φ⟩
section
variable {G : Gt} {xp : Xp} {Hi0 H0 Hi H : Hp} {σ : L2.St} {ε : Env}
theorem noEx_get : ∀ {ε : Env} {i : Nat} {r : Option Vl}, noEx ε = true → ε[i]? = some r → (∀ c ns ds, r ≠ some (.ex c ns ds)) ∧ ∀ c ns ds, r ≠ some (.no c ns ds)
  | [], _, _, _, h => by simp at h
  | x :: r, 0, q, h, e => by
    simp at e; subst e
    refine ⟨fun c ns ds z => ?_, fun c ns ds z => ?_⟩ <;> (subst z; simp [noEx] at h)
  | x :: r, i + 1, q, h, e => by
    refine noEx_get (ε := r) (i := i) ?_ (by simpa using e)
    match x, h with
    | none, h => simpa [noEx] using h
    | some (.sh _), h => simpa [noEx] using h
    | some (.fr _ _), h => simpa [noEx] using h
    | some (.bo _ _), h => simpa [noEx] using h
    | some (.us _ _), h => simpa [noEx] using h
theorem SlOk.reXp {xp' : Xp} {fp : List Addr} {r : Option Vl} {v : Option V} (h : SlOk G xp H0 Hi H fp r v) (h1 : ∀ c ns ds, r ≠ some (.ex c ns ds)) (h2 : ∀ c ns ds, r ≠ some (.no c ns ds)) : SlOk G xp' H0 Hi H fp r v := by
  match r, h with
  | none, h => exact h
  | some (.sh d), h => exact h
  | some (.fr n d), h => exact h
  | some (.bo n d), h => exact h
  | some (.us n d), h => exact h
  | some (.ex c ns ds), _ => exact absurd rfl (h1 c ns ds)
  | some (.no c ns ds), _ => exact absurd rfl (h2 c ns ds)
theorem EnvOk.reXp {xp' : Xp} (I : EnvOk G xp Hi0 H0 Hi H σ ε) (h : noEx ε = true) : EnvOk G xp' Hi0 H0 Hi H σ ε := by
  obtain ⟨F, f1, f2, f3⟩ := I.sl
  exact ⟨I.st, I.len, F, fun i r v e1 e2 => (f1 i r v e1 e2).reXp (noEx_get h e1).1 (noEx_get h e1).2, f2, f3⟩
/-- the caught error stands in slot i -/
theorem EnvOk.catch {a : Addr} {cls : Value} {d : Option Addr} {c : Nat} {ns : List Str} {ds : List D} (I : EnvOk G (some (a, cls, d)) Hi0 H0 Hi H σ ε) (x : ExOk G Hi c ns ds cls d) (i : Nat) : EnvOk G (some (a, cls, d)) Hi0 H0 Hi H (σ.set i (some (.ref a))) (ε.set i (some (.ex c ns ds))) := by
  obtain ⟨F, f1, f2, f3⟩ := I.sl
  refine ⟨I.st, by simpa using I.len, fun j => if j = i then [] else F j, fun j r v h1 h2 => ?_, fun j k p hjk h1 h2 => ?_, fun j hj => ?_⟩
  · rcases set_get h1 with ⟨a1, a2, a3⟩ | ⟨a1, a2⟩
    · subst a1 a2
      rcases set_get h2 with ⟨_, b2, _⟩ | ⟨b1, _⟩
      · subst b2
        simp only [if_true]
        exact ⟨rfl, a, cls, d, rfl, rfl, x⟩
      · exact absurd rfl b1
    · rcases set_get h2 with ⟨b1, _, _⟩ | ⟨_, b2⟩
      · exact absurd b1 a1
      · simp only [a1, if_false]
        exact f1 j r v a2 b2
  · simp only at h1 h2
    by_cases hj : j = i
    · rw [if_pos hj] at h1; cases h1
    · rw [if_neg hj] at h1
      by_cases hk : k = i
      · rw [if_pos hk] at h2; cases h2
      · rw [if_neg hk] at h2
        exact f2 j k p hjk h1 h2
  · rw [List.length_set] at hj
    simp only
    split
    · rfl
    · exact f3 j hj
end
section
variable {C : Ctx} {pos pos' np : Pos}
theorem s_tre {body suite : List Stmt} {b₀ : Stmt} {x n : Str} {i : Nat} {b s : Sms} {cs : List Nat} {hc : Value} (hs : C.X.stack = C.X.env :: C.X.outer) (hf : C.X.env.frame = some C.X.env.locals) (hN : C.X.N.Nodup) (hi : C.X.N[i]? = some n) (hln : C.X.env.kindOf n = some .local) (hn : Names C.X x hc) (tk : Takes C.X C.W)
    (hcs : ∀ c, cs.contains c = true → PySem.W.exmOne C.X.K (.ref (C.G.cl c)) hc = some true)
    (hb : ∀ W pn xe, Takes (C.X.tr pn xe) W → PassesOwn (model C.X.prog C.X.w) C.X.A C.X.env xe → RSs (C.tr pn xe W) body b)
    (hsu : ∀ a oe cls d pn, Zc cls d oe → (∃ vs, oe.data = .fields vs) → RSs (C.suite a ((a, oe) :: pn) cls d) (b₀ :: suite) s) :
    RS C (.Try body [.ExceptHandler (some (.Name x np)) (some n) (b₀ :: suite) pos'] [] [] pos) (.tre b cs i s) := fun ε o h Hi0 H0 Hi H σ Dn I k => by
  simp only [execD, Option.bind_eq_some_iff] at h
  obtain ⟨o1, h1, h2⟩ := h
  let tb : WX → TS := fun W Dn σ H => ∀ pn xe, Takes (C.X.tr pn xe) W → PassesOwn (model C.X.prog C.X.w) C.X.A C.X.env xe → sU (C.X.tr pn xe) body Dn σ H
  let ts : Addr → Value → Option Addr → TS := fun a cls d Dn σ H => ∀ oe pn, Zc cls d oe → (∃ vs, oe.data = .fields vs) → sU (C.X.suite a ((a, oe) :: pn)) (b₀ :: suite) Dn σ H
  have pr : PS C.X (.Try body [.ExceptHandler (some (.Name x np)) (some n) (b₀ :: suite) pos'] [] [] pos) (fun D σ H => tb (wAs C.X.K hc i ts C.W D) D σ H) :=
    ps_try_as (tb := tb) (ts := ts) hs hf hN hi hln hn tk (fun W pn xe t p => ⟨fun pins s σ H Dn I h => h pn xe t p pins s I⟩) (fun a oe cls d pn z v => ⟨fun pins s σ H Dn I h => h oe pn z v pins s I⟩)
  refine sU1_of pr fun pn xe t p => ?_
  refine hb _ pn xe t p ε o1 h1 Hi0 H0 Hi H σ _ I ?_
  cases o1 with
  | nx ε2 => cases h2; exact k
  | bk ε2 => cases h2; exact k
  | ct ε2 => cases h2; exact k
  | rt r => cases h2; exact k
  | er c ns ds ε2 =>
    simp only at h2
    split at h2
    · rename_i hz
      simp only [Option.bind_eq_some_iff] at h2
      obtain ⟨o2, h3, h4⟩ := h2
      refine fun Hi' H' σ' cls d e I' x => ⟨true, ?_, fun _ a ha oe pn' z v => ?_, fun z => nomatch z⟩
      · rw [x.1]; exact hcs c hz.1
      · have I2 := (I'.reXp (xp' := some (a, cls, d)) hz.2).catch x i
        refine hsu a oe cls d pn' z v _ o2 h3 Hi0 H0 Hi' H' _ _ I2 ?_
        have fin : ∀ (ε3 : Env) (Hi2 H2 : Hp) (σ3 : L2.St), noEx (ε3.set i none) = true → EnvOk C.G (some (a, cls, d)) Hi0 H0 Hi2 H2 σ3 ε3 → EnvOk C.G C.xp Hi0 H0 Hi2 H2 (σ3.set i none) (ε3.set i none) := fun ε3 Hi2 H2 σ3 hno J => (J.clear i).reXp hno
        cases o2 with
        | nx ε3 =>
          simp only [exitT] at h4
          split at h4
          · rename_i hno; cases h4
            exact fun Hi2 H2 σ3 e2 J => k Hi2 H2 _ (ex_trans e e2) (fin ε3 Hi2 H2 σ3 hno J)
          · cases h4
        | bk ε3 =>
          simp only [exitT] at h4
          split at h4
          · rename_i hno; cases h4
            exact fun Hi2 H2 σ3 e2 J => k Hi2 H2 _ (ex_trans e e2) (fin ε3 Hi2 H2 σ3 hno J)
          · cases h4
        | ct ε3 =>
          simp only [exitT] at h4
          split at h4
          · rename_i hno; cases h4
            exact fun Hi2 H2 σ3 e2 J => k Hi2 H2 _ (ex_trans e e2) (fin ε3 Hi2 H2 σ3 hno J)
          · cases h4
        | rt r => cases h4; exact k
        | er c2 ns2 ds2 ε3 => cases h4
    · cases h2
end
end EG
namespace EG
open PySem PySem.Spec PyProof.Rows L2 L2H
section
variable {C : Ctx} {pos p : Pos}
/-- e.f in an except suite -/
theorem r_exf {a : Addr} {oe : Obj} {cls : Value} {d : Option Addr} {pn : List (Addr × Obj)} {i : Nat} {al : List Nat} {n f : Str} (hz : Zc cls d oe) (hf : ∃ vs, oe.data = .fields vs) (hv : PE (C.suite a ((a, oe) :: pn) cls d).X (.Name n p) (tVar i))
    (hx : ∀ c, al.contains c = true → XfC C.X.K (C.G.cl c) ∧ PySem.W.findIn C.X.K (.ref (C.G.cl c)) f = some none) : RE (C.suite a ((a, oe) :: pn) cls d) (.Attribute (.Name n p) f pos) (.exf i al f) := by
  intro ε o h Hi0 H0 Hi H σ Q I k
  simp only [evalD] at h
  obtain ⟨r, h1, rfl⟩ := rl_some h
  have hg : ∃ c ns ds, getS ε i = some (.ex c ns ds) := by
    unfold exfD at h1
    split at h1
    · rename_i c ns ds e; exact ⟨c, ns, ds, e⟩
    · cases h1
  obtain ⟨c, ns, ds, hg⟩ := hg
  rw [hg] at h1
  simp only [exfD] at h1
  split at h1
  case isFalse => cases h1
  case isTrue hal =>
  simp only [Option.map_eq_some_iff] at h1
  obtain ⟨d0, h2, rfl⟩ := h1
  obtain ⟨v, fp, e1, e2, a', cls', d', e3, e4, e5⟩ := I.at hg
  have e3 : some (a, cls, d) = some (a', cls', d') := e3
  cases e3
  subst e4
  obtain ⟨x1, x2, x3⟩ := e5
  have x1 : cls = .ref (C.G.cl c) := x1
  rcases x3 with ⟨x3, _⟩ | ⟨dd, vs, x4, x5, x6⟩
  · rw [x3] at h2; cases h2
  · obtain ⟨w, j, g1, g2, g3⟩ := lookup_zip (Bors.of (Evl.Ex.refl _) 0 ds vs x6) x2 h2
    obtain ⟨w', g4, g5⟩ := x6.get g2
    rw [g3] at g4; cases g4
    obtain ⟨t1, t2⟩ := hx c hal
    exact tU_of (pe_xf (X := C.X) (C := C.G.cl c) t1 t2 hz hf hv) ⟨.ref a, e1, rfl, x1, dd, ns.zip vs, w, x4, I.st.s _ _ x5, g1, k Hi H w (Step.refl I.st.s) g5⟩
end
end EG
namespace EG
open PySem PySem.Spec PyProof.Rows L2 L2H
/-- what the class must say, so that isinstance asks its instances rightly -/
structure IsX (K : PySem.W.Frag) (D : Addr) : Prop where
  cl : (PySem.W.clsIn K D).isSome = true
  ga : PySem.W.findIn K (.ref D) "__getattribute__" = some (some (.builtin "BaseException.__getattribute__"))
  gt : PySem.W.findIn K (.ref D) "__getattr__" = some none
  su : PySem.W.subIn K (.ref D) (.type "BaseException") = some true
  ca : PySem.W.findIn K (.ref D) "__class__" = some (some (.builtin "object.__class__"))
  sp : PySem.W.specialIn K (.builtin "object.__class__") "__get__" = some (some (.builtin "getset_descriptor.__get__"))
  tk : PySem.W.takesIn K (.builtin "object.__class__") = some true
  mo : PySem.W.mroIn K D (.type "object") = some true
def rIsX (K : PySem.W.Frag) (D a : Addr) (d : Option Addr) : List V → Hp → VK → Prop := fun xs H Q => ∃ (c : V) (cv : Value) (b : Bool), xs = [.ref a, c] ∧ (∀ u, RelV c u → u = cv) ∧ PySem.W.kitOne K (.ref D) cv = some b ∧ (d = none ∨ ∃ dd fs, d = some dd ∧ H dd = some (.xd fs)) ∧ Q (.bl b) H
theorem call_isX {X : Cx} {a D : Addr} {oe : Obj} {d : Option Addr} {pn : List (Addr × Obj)} (S : IsX X.K D) (hz : Zc (.ref D) d oe) (hf : ∃ vs, oe.data = .fields vs) : CallR (X.suite a ((a, oe) :: pn)) (.builtin "isinstance") (rIsX X.K D a d) := by
  intro pins s σ H xs us Q I r h
  obtain ⟨c, cv, b, rfl, hcv, e, hd, q⟩ := h
  cases r with
  | cons rx rr =>
    cases rr with
    | cons rt rr =>
      cases rr
      cases rx
      have ec := hcv _ rt
      subst ec
      obtain ⟨hget, _⟩ := I.pin (a, oe) (List.mem_append.mpr (.inl List.mem_cons_self))
      obtain ⟨vs, hv⟩ := hf
      obtain ⟨oc, od, oda, osl⟩ := oe
      obtain ⟨z1, z2⟩ := hz
      dsimp only at z1 z2 hv
      subst z1 z2 hv
      have J : ∃ od2, PySem.W.InstAt s.heap a ⟨.ref D, od, .fields vs, osl⟩ D od2 := by
        rcases hd with rfl | ⟨dd, fs, rfl, hx⟩
        · exact ⟨none, hget, rfl, rfl, trivial⟩
        · obtain ⟨mA, ⟨o2, es, ep, g1, g2⟩, _⟩ := I.hok dd _ hx
          exact ⟨some o2, hget, rfl, rfl, g1⟩
      obtain ⟨od2, J⟩ := J
      exact PySem.W.kia_one (PySem.W.kitx_exc S.cl S.ga S.gt S.su S.ca S.sp S.tk S.mo) I.kIn J e (fun z => nomatch z) fun tk => ⟨.bl b, H, I.kept (t' := tk) fun _ _ z => z, rfl, q⟩
section
variable {C : Ctx} {pos p p1 p2 : Pos}
/-- isinstance(e, T) in an except suite -/
theorem r_exi {a : Addr} {oe : Obj} {cls : Value} {d : Option Addr} {pn : List (Addr × Obj)} {i : Nat} {al cs : List Nat} {n t : Str} {tv : V} {cv : Value} (hz : Zc cls d oe) (hf : ∃ vs, oe.data = .fields vs) (hv : PE (C.suite a ((a, oe) :: pn) cls d).X (.Name n p1) (tVar i)) (ht : PE (C.suite a ((a, oe) :: pn) cls d).X (.Name t p2) (tC tv)) (hcv : ∀ u, RelV tv u → u = cv)
    (hg : Gl C.X "isinstance") (hm : C.X.mg "isinstance" = none) (hx : ∀ c, al.contains c = true → IsX C.X.K (C.G.cl c) ∧ PySem.W.kitOne C.X.K (.ref (C.G.cl c)) cv = some (cs.contains c)) :
    RE (C.suite a ((a, oe) :: pn) cls d) (.Call (.Name "isinstance" p) [.Name n p1, .Name t p2] [] pos) (.exi i al cs) := by
  intro ε o h Hi0 H0 Hi H σ Q I k
  simp only [evalD] at h
  split at h
  · rename_i c ns ds hgs
    split at h
    case isFalse => cases h
    case isTrue hal =>
    cases rp_some h
    obtain ⟨v, fp, e1, e2, a', cls', d', e3, e4, e5⟩ := I.at hgs
    have e3 : some (a, cls, d) = some (a', cls', d') := e3
    cases e3
    subst e4
    obtain ⟨x1, x2, x3⟩ := e5
    have x1 : cls = .ref (C.G.cl c) := x1
    subst x1
    obtain ⟨t1, t2⟩ := hx c hal
    refine tU_of (pe_callB (X := (C.suite a ((a, oe) :: pn) (.ref (C.G.cl c)) d).X) (call_isX (X := C.X) t1 hz hf) hg hm (by decide +kernel) (pa_cons hv (pa_cons ht pa_nil)) (by decide) (by decide) rfl rfl) ⟨.ref a, e1, ?_⟩
    refine ⟨tv, cv, _, rfl, hcv, t2, ?_, k Hi H _ (Step.refl I.st.s) rfl⟩
    rcases x3 with ⟨_, x3⟩ | ⟨dd, vs, x4, x5, _⟩
    · exact .inl x3
    · exact .inr ⟨dd, _, x4, I.st.s _ _ x5⟩
  · cases h
end
end EG
namespace EG
open PySem PySem.Spec PyProof.Rows L2 L2H
/-! ### self.f = e in an own class's __init__ -/
theorem putF_new {f : Str} {y : V} : ∀ {ns : List Str} {vs : List V}, ns.contains f = false → ns.length = vs.length → L2.putF f y (ns.zip vs) = (ns ++ [f]).zip (vs ++ [y])
  | [], [], _, _ => rfl
  | [], _ :: _, _, h => by simp at h
  | _ :: _, [], _, h => by simp at h
  | n :: ns, v :: vs, h, hl => by
    rw [List.contains_cons, Bool.or_eq_false_iff] at h
    have ih := putF_new (f := f) (y := y) (ns := ns) (vs := vs) h.2 (by simpa using hl)
    simp only [List.zip_cons_cons, List.cons_append]
    unfold L2.putF
    have hne : n ≠ f := fun z => by rw [z] at h; simp at h
    first
      | rw [if_neg hne, ih]
      | rw [if_neg (Ne.symm hne), ih]
      | (simp only [hne, if_false]; rw [ih])
      | (simp only [h.1]; simp [ih])
section
variable {G : Gt} {xp : Xp} {Hi0 H0 Hi H : Hp} {σ : L2.St} {ε : Env}
theorem EnvOk.grow (I : EnvOk G xp Hi0 H0 Hi H σ ε) {i c : Nat} {ns ns' : List Str} {ds ds' : List D} {p dx : Addr} {vs vs' : List V} {fp : List Addr} (hu : noUs ε = true) (hε : ε[i]? = some (some (.no c ns ds))) (hσ : σ[i]? = some (some (.ref p)))
    (hH : H p = some (.ins (G.cl c) dx (ns.zip vs))) (hl : ns'.length = ds'.length) (hr : RepL G Hi ds' vs') : EnvOk G xp Hi0 H0 Hi (upd H p (.ins (G.cl c) dx (ns'.zip vs'))) σ (ε.set i (some (.no c ns' ds'))) := by
  obtain ⟨F, f1, f2, f3⟩ := I.sl
  obtain ⟨p', dx', ws, g1, g2, g3, g4, g5, g6, g7, g8, g9, g10, g11, g12⟩ := f1 i _ _ hε hσ
  cases g1
  rw [hH] at g4
  have hdd : dx = dx' := by injection g4 with g4; injection g4 with _ g4 _
  subst hdd
  refine ⟨⟨I.st.i, Evl.Ex.mut I.st.h g10, Evl.Ex.mut I.st.s g8, I.st.n⟩, by simpa using I.len, F, fun j r v h1 h2 => ?_, f2, fun j hj => f3 j (by simpa using hj)⟩
  rcases set_get h1 with ⟨a1, a2, _⟩ | ⟨a1, a2⟩
  · subst a1 a2
    rw [hσ] at h2; cases h2
    exact ⟨p, dx, vs', rfl, g2, g3, upd_same, by rw [upd_ne (Ne.symm g3)]; exact g5, hl, hr, g8, g9, g10, g11, g12⟩
  · have q := f1 j r v a2 h2
    refine q.stay (Evl.Ex.refl _) (fun z hz => ⟨?_, (q.mem z hz).2.1⟩) fun hz => by rw [noUs_get hu a2] at hz; cases hz
    rw [upd_ne fun (w : z = p) => ?_]
    subst w
    exact f2 j i z a1 hz (by rw [g2]; exact List.mem_cons_self)
end
section
variable {C : Ctx} {pos pos' p : Pos} {pa : Expr} {a : Ep}
theorem s_sfl {x f : Str} {i : Nat} {al : List Nat} (hx : PE C.X (.Name x p) (tVar i)) (ha : RE C pa a) (hc : ∀ c, al.contains c = true → Cls C.X.K (C.G.cl c) ∧ NoAttr C.X.K (C.G.cl c) f) (hs : swapsWith pa (some (.Attribute (.Name x p) f pos')) pos.line C.X.env = pure false) :
    RS C (.Assign [.Attribute (.Name x p) f pos'] pa pos) (.sfl al i f a) := fun ε o h Hi0 H0 Hi H σ Dn I k => by
  simp only [execD] at h
  refine sU1_of (ps_fld hx peU hs) (ob1 ha h I k fun r h1 Hi1 H1 u s1 I1 e0 o1 => ?_)
  simp only [Option.bind_eq_some_iff] at h1
  obtain ⟨d, h2, ⟨c, ns, ds⟩, h3, h4⟩ := h1
  split at h4
  · cases h4
  · rename_i hz
    cases h4
    have hz1 : ns.contains f = false := by
      cases q : ns.contains f with
      | false => rfl
      | true => exact absurd (.inr (.inl q)) hz
    have hz0 : al.contains c = true := by
      cases q : al.contains c with
      | true => rfl
      | false => exact absurd (.inl q) hz
    have hz2 : ns.length < 1000 := by
      by_cases q : 1000 ≤ ns.length
      · exact absurd (.inr (.inr q)) hz
      · omega
    have hg : getS ε i = some (.no c ns ds) ∧ noUs ε = true := by
      unfold newD at h3
      split at h3
      · rename_i c2 ns2 ds2 e
        split at h3
        · rename_i hu
          cases h3; exact ⟨e, hu⟩
        · cases h3
      · cases h3
    obtain ⟨hg, hun⟩ := hg
    obtain ⟨Hi2, f1, s2, f3⟩ := o1.keep s1 h2
    have I2 := I.step s2
    obtain ⟨v, fp, e1, pp, dx, vs, e2, e3, e4, e5, e6, e7, e8, _⟩ := I2.at hg
    subst e2
    have hvl : ns.length = vs.length := by rw [e7, e8.length]
    refine ⟨.ref pp, e1, pp, _, dx, _, rfl, e5, (hc c hz0).1, (hc c hz0).2, ?_, ?_⟩
    · rw [List.length_zip, hvl, Nat.min_self, ← hvl]; exact hz2
    · rw [putF_new hz1 hvl]
      exact k Hi2 _ σ s2.i (I2.grow (fp := fp) hun (getS_some hg) e1 e5 (by simp [e7]) (e8.append (RepL.cons f3 RepL.nil)))
end
end EG
namespace EG
open PySem PySem.Spec PyProof.Rows L2 L2H
/-! ### an own error's class, from the module's own parts -/
abbrev veT : List Value := [.type "ValueError", .type "Exception", .type "BaseException", .type "object"]
/-- what the text of an error's __init__ must be -/
def supB (st : Stmt) (slf : Str) (N ps : List Str) (fs : List (Str × Nat)) : Bool :=
  NdefX.nscB N ps ["__class__"] (defScope st) && (match defBody st with | s :: sts => isSup s && decide (cErr N (defScope st) slf sts = some fs) | [] => false) && decide (fs ≠ []) && decide (fs.length ≤ 900) &&
    decide ((defScope st).names.lookup ("super" : Str) = some .globalImplicit) && decide ((defScope st).names.lookup ("__class__" : Str) = some .free) && decide ((defScope st).names.lookup slf = some .local) && decide (N[0]? = some slf) && decide (ps[0]? = some slf) &&
    (match ((defArgs st).posonlyargs ++ (defArgs st).args).head? with | some ar => decide (ar.arg = slf) | none => false)
structure ErrC (P : Program) (K : PySem.W.Frag) (mg : Str → Option Value) (C fI : Addr) (fd : FuncData) (ps : List Str) (fs : List (Str × Nat)) : Prop where
  ox : OexC K C
  fi : PySem.W.findIn K (.ref C) "__init__" = some (some (.ref fI))
  ti : PySem.W.typeIn K (.ref fI) = some (.type "function")
  fn : ∀ w base, FnOk P w K mg base (L2.CX P w) 1 fI fd ps (spX C fs ps.length)
theorem err_mk {P : Program} {K : PySem.W.Frag} {mg : Str → Option Value} {C Fu fI ca cc N0 : Addr} {nm q qual slf file : Str} {bs : List Value} {sn : List Str} {sub : List Value} {ab : Bool} {col : Option Bool} {dd : Option Addr} {m0 m1 m2 m3 m5 : Option Value}
    {oc dc pm ct ccl cv : Value} {od cdd cld : Option Addr} {osl ccs csl : Array (Option Value)} {vs : Array Value} {tf : Tok} {st : Stmt} {N ps : List Str} {fs : List (Str × Nat)}
    (xL : K.lookup C = some (excClassObj nm q C N0 bs (.ref Fu :: veT) true sn sub ab col dd m0 m1 m2 m3 m5 "ValueError.__new__"))
    (sa : PySem.W.findIn K (.ref C) "__setattr__" = some (some (.builtin "object.__setattr__"))) (eC : PySem.W.subIn K (.ref C) (.type "BaseException") = some true) (tC : PySem.W.typeIn K (.ref C) = some (.type "type")) (kC : PySem.W.keepIn K (.ref C) = true)
    (fi : PySem.W.findIn K (.ref C) "__init__" = some (some (.ref fI))) (ti : PySem.W.typeIn K (.ref fI) = some (.type "function"))
    (li : K.lookup fI = some ⟨oc, od, .func (PySem.W.fnX "__init__" qual (defArgs st) (defBody st) (defScope st) [("__class__", cc)] .none .none dc pm none (.ref ca) ct), osl⟩)
    (lc : K.lookup ca = some ⟨ccl, cdd, .fields vs, ccs⟩) (v2 : vs[2]? = some (.str file tf)) (vf : ((P.main.file : Str) == file) = true) (ci : PySem.W.codeIn K (.ref ca) qual = true)
    (lcc : K.lookup cc = some ⟨cv, cld, .cell (some (.ref C)), csl⟩) (al : PySem.W.alongIn K "__init__" (.ref Fu :: veT) = some (some (.builtin "ValueError.__init__")))
    (su : PySem.W.mroIn K C (.ref C) = some true) (no : PySem.W.nsIn K cStatics "thirdparty.any" = some none) (ve : PySem.W.subIn K (.ref C) (.type "ValueError") = some true)
    (nf : ∀ p ∈ fs, PySem.W.findIn K (.ref C) p.1 = some none) (tp : (P.main.scope.names.lookup ("super" : Str)).isSome = false) (sp : mg "super" = none) (tx : supB st slf N ps fs = true) :
    ErrC P K mg C fI (PySem.W.fnX "__init__" qual (defArgs st) (defBody st) (defScope st) [("__class__", cc)] .none .none dc pm none (.ref ca) ct) ps fs := by
  have ox : OexC K C := ⟨⟨nm, q, N0, bs, _, sn, sub, ab, col, dd, m0, m1, m2, m3, m5, xL, rfl⟩, sa, eC, tC, kC⟩
  refine ⟨ox, fi, ti, fun w base => ?_⟩
  unfold supB at tx
  simp only [Bool.and_eq_true, decide_eq_true_eq] at tx
  obtain ⟨⟨⟨⟨⟨⟨⟨⟨⟨t1, t2⟩, t3⟩, t4⟩, t5⟩, t6⟩, t7⟩, t8⟩, t9⟩, t10⟩ := tx
  have hcl : ∃ cd : ClassData, PySem.W.clsIn K C = some cd ∧ cd.mro = .ref C :: .ref Fu :: veT := by
    unfold PySem.W.clsIn
    rw [xL]
    exact ⟨_, rfl, rfl⟩
  obtain ⟨cd, c1, c2⟩ := hcl
  have S : SupK P K mg C fI ⟨"__init__", qual, defArgs st, defBody st, defScope st, [("__class__", cc)], ca⟩ slf N ps fs := by
    refine ⟨NdefX.nscope_by t1, ?_, t3, t4, nf, t5, t6, t7, t8, t9, ?_, ⟨ccl, cdd, vs, ccs, file, tf, lc, v2, vf⟩, ci, tp, sp, ⟨cc, cv, cld, csl, rfl, lcc⟩, ox, ⟨cd, c1, ?_⟩, su, no, ve⟩
    · show ∃ s sts, defBody st = s :: sts ∧ _
      cases hb : defBody st with
      | nil => rw [hb] at t2; cases t2
      | cons s sts =>
        rw [hb] at t2
        simp only [Bool.and_eq_true, decide_eq_true_eq] at t2
        exact ⟨s, sts, rfl, t2.1, t2.2⟩
    · cases ha : ((defArgs st).posonlyargs ++ (defArgs st).args).head? with
      | none => rw [ha] at t10; cases t10
      | some ar => rw [ha] at t10; exact ⟨ar, rfl, by simpa using t10⟩
    · rw [c2]
      have : (Value.ref C != Value.ref C) = false := by simp
      simp only [List.dropWhile, this]
      exact al
  exact err_ok S li
theorem exm_of {K : PySem.W.Frag} {C S : Addr} (h1 : PySem.W.subIn K (.ref S) (.type "BaseException") = some true) (h2 : PySem.W.isClsIn K S = true) (h3 : PySem.W.typeIn K (.ref S) = some (.type "type")) (h4 : PySem.W.subIn K (.ref C) (.ref S) = some true) :
    PySem.W.exmOne K (.ref C) (.ref S) = some true := by
  have e1 : (PySem.W.subIn K (.ref S) (.type "BaseException") == some true) = true := by rw [h1] <;> rfl
  have e2 : ((PySem.W.clsIn K S).isSome && PySem.W.typeIn K (.ref S) == some (.type "type")) = true := by
    have h2' : (PySem.W.clsIn K S).isSome = true := h2
    rw [h2', h3] <;> rfl
  show (if (PySem.W.subIn K (.ref S) (.type "BaseException") == some true) = true then (if ((PySem.W.clsIn K S).isSome && PySem.W.typeIn K (.ref S) == some (.type "type")) = true then PySem.W.subIn K (.ref C) (.ref S) else none) else none) = some true
  rw [if_pos e1, if_pos e2]
  exact h4
theorem lk_mem {α β : Type} [BEq α] [LawfulBEq α] {x : α} {y : β} : ∀ {l : List (α × β)}, l.lookup x = some y → (x, y) ∈ l
  | [], h => by cases h
  | (a, b) :: l, h => by
    simp only [List.lookup] at h
    split at h
    · rename_i e
      cases h
      rw [eq_of_beq e]; exact List.mem_cons_self
    · exact List.mem_cons_of_mem _ (lk_mem h)
end EG
namespace EG
open PySem L2 L2H
def plainT : Expr → Bool
  | .UnaryOp _ _ _ => false
  | .BoolOp _ _ _ => false
  | .IfExp _ _ _ _ => false
  | _ => true
theorem t_vac {C : Ctx} {pe : Expr} {e : Ep} (h : ∀ ε, testD C.Φ e ε = none) : RT C pe e := fun ε b hb => by rw [h] at hb; cases hb
structure COk (M : Mo) (N : List Str) (hot : Bool) (n : Nat) : Prop where
  e : ∀ sc pe e C, cE M N hot n sc pe = some e → Good M N hot sc C → RE C pe e ∧ (plainT pe = true → RT C pe e)
  c : ∀ sc x as e C p pos, cC M N hot n sc x as = some e → Good M N hot sc C → glB sc x = true → x ≠ "__debug__" → x ≠ "__name__" → as ≠ [] → RE C (.Call (.Name x p) as [] pos) e ∧ RT C (.Call (.Name x p) as [] pos) e
  t : ∀ sc pe e C, cT M N hot n sc pe = some e → Good M N hot sc C → RT C pe e
  o : ∀ sc po o C, cO M N hot n sc po = some o → Good M N hot sc C → RO C po o
  i : ∀ sc pe it C tg, cI M N hot n sc pe = some it → Good M N hot sc C → enOk tg it = true → RI C tg pe it ∧ RL C tg pe it ∧ isSet pe = false
  k : ∀ sc st e gs scope ep C, cK M N hot n sc st e gs scope = some ep → Good M N hot sc C → (∀ ε, testD C.Φ ep ε = none) ∧ (st = false → ∀ p, RE C (.ListComp e gs scope p) ep) ∧ (st = true → ∀ p p2 pos, Gl C.X "sorted" → C.X.mg "sorted" = none → RE C (.Call (.Name "sorted" p) [.SetComp e gs scope p2] [] pos) ep)
section
variable {M : Mo} {N : List Str} {hot : Bool}
theorem rb_rb {α β γ : Type} (o : Rs α) (f : α → Rs β) (g : β → Rs γ) : rb (rb o f) g = rb o fun x => rb (f x) g := by
  match o with
  | some (.ok a) => rfl
  | some (.er _ _ _) => rfl
  | none => rfl
theorem c_c {n : Nat} (ih : COk M N hot n) {sc : Scope} {x : Str} {as : List Expr} {e : Ep} {C : Ctx} {p pos : Pos} (h : cC M N hot (n + 1) sc x as = some e) (G : Good M N hot sc C) (c1 : glB sc x = true) (c2 : x ≠ "__debug__") (c3 : x ≠ "__name__") (c4 : as ≠ []) :
    RE C (.Call (.Name x p) as [] pos) e ∧ RT C (.Call (.Name x p) as [] pos) e := by
  have he : ∀ pe e, cE M N hot n sc pe = some e → RE C pe e := fun pe e h => (ih.e sc pe e C h G).1
  have hg := G.gl c1
  cases as with
  | nil => exact absurd rfl c4
  | cons a0 ar =>
  simp only [cC] at h
  split at h
  · rename_i k hk
    simp only [Option.map_eq_some_iff] at h
    obtain ⟨es, h1, rfl⟩ := h
    obtain ⟨a1, a2⟩ := cMany_a he h1
    have hne : M.fs ≠ [] := fun z => by rw [z] at hk; cases hk
    have r := r_call (pos := pos) (p := p) G.tk (G.hh (.inr (.inl hne))) (G.fns x k hk) hg (beq_no c2) a2 a1
    exact ⟨r, t_truth G.hk (fun _ => rfl) r fun ε => by simp only [testD, evalD, rb_rb]⟩
  · split at h
    · rename_i k hk
      simp only [Option.map_eq_some_iff] at h
      obtain ⟨es, h1, rfl⟩ := h
      obtain ⟨a1, a2⟩ := cMany_a he h1
      cases hot with
      | false =>
        have r := r_new (pos := pos) (p := p) (G.calm rfl) G.tk (G.nws x k rfl hk) hg (beq_no c2) a2 a1
        exact ⟨r, t_truth G.hk (fun _ => rfl) r fun ε => by simp only [testD, evalD, rb_rb]⟩
      | true =>
        have r := r_call (pos := pos) (p := p) G.tk (G.hws x k rfl hk).2 (G.hws x k rfl hk).1 hg (beq_no c2) a2 a1
        exact ⟨r, t_truth G.hk (fun _ => rfl) r fun ε => by simp only [testD, evalD, rb_rb]⟩
    · split at h
      · rename_i hgc
        simp only [Option.map_eq_some_iff] at h
        obtain ⟨es, h1, rfl⟩ := h
        obtain ⟨a1, a2⟩ := cMany_a he h1
        have r := r_gcd (pos := pos) (p := p) G.hk G.gd G.un hg (G.gc x hgc) (beq_no c2) a2 a1
        exact ⟨r, t_truth G.hk (fun _ => rfl) r fun ε => by simp only [testD, evalD, rb_rb]⟩
      · split at h
        · rename_i hb
          split at h
          · rename_i hx
            split at h
            · rename_i a t p2 heq
              cases heq
              split at h
              · rename_i h0 hh0
                split at h
                case isFalse => cases h
                case isTrue hgt =>
                simp only [Option.bind_eq_some_iff, Option.map_eq_some_iff] at h
                obtain ⟨cs, h1, i, h2, rfl⟩ := h
                subst hx
                have hna : ∃ pn, a0 = .Name h0 pn ∧ M.hn = some h0 := by
                  unfold hnd at hh0
                  split at hh0
                  · split at hh0
                    · rename_i hq; cases hh0; exact ⟨_, rfl, hq⟩
                    · cases hh0
                  · cases hh0
                obtain ⟨pn, rfl, hhn⟩ := hna
                have r := G.xi h0 t cs p pn p2 pos i hhn h2 h1 hg (G.bn _ hb) (G.gl hgt)
                refine ⟨r, t_truth G.hk (fun _ => rfl) r fun ε => ?_⟩
                simp only [testD, evalD]
                cases getS ε i with
                | none => rfl
                | some v => cases v <;> first | rfl | (simp only; split <;> rfl)
              split at h
              · rename_i hc2
                simp only [Option.bind_eq_some_iff, Option.map_eq_some_iff] at h
                obtain ⟨ty, h1, y, h2, rfl⟩ := h
                subst hx
                have htn : t ≠ "__name__" := fun z => by
                  have q : tyName ("__name__" : Str) = none := by decide +kernel
                  rw [z, q] at h1; cases h1
                have htd : t ≠ "__debug__" := fun z => by
                  have q : tyName ("__debug__" : Str) = none := by decide +kernel
                  rw [z, q] at h1; cases h1
                have r := r_isi (p := p) (p2 := p2) (pos := pos) G.hk h1 hg (G.bn _ hb) (G.gl hc2.1) (G.bn t hc2.2.1) htn (beq_no htd) hc2.2.2 (he _ _ h2)
                refine ⟨r, t_truth G.hk (fun _ => rfl) r fun ε => ?_⟩
                simp only [testD, evalD, rb_rb]
                congr 1; funext z
                cases isiD ty z.d <;> rfl
              · split at h
                · rename_i hc3
                  simp only [Option.bind_eq_some_iff, Option.map_eq_some_iff] at h
                  obtain ⟨c, h1, y, h2, rfl⟩ := h
                  subst hx
                  have r := r_isc (p := p) (p2 := p2) (pos := pos) G.hk (G.ics t c h1) hg (G.bn _ hb) (G.gl hc3.1) (beq_no hc3.2.1) hc3.2.2 (he _ _ h2)
                  refine ⟨r, t_truth G.hk (fun _ => rfl) r fun ε => ?_⟩
                  simp only [testD, evalD, rb_rb]
                  congr 1; funext z
                  cases iscD M.al c z.d <;> rfl
                · cases h
            · cases h
          · split at h
            · rename_i hx
              split at h
              · rename_i a heq
                cases heq
                split at h
                · rename_i hc2
                  simp only [Option.map_eq_some_iff] at h
                  obtain ⟨z, h1, rfl⟩ := h
                  obtain ⟨rfl, hx2⟩ := hx
                  have hlp : M.lp ≠ [] := fun z => by
                    unfold isLi at hx2
                    split at hx2
                    · rw [z] at hx2; cases hx2
                    · cases hx2
                  exact ⟨r_lio (G.calm hc2.1) (fun c h => G.lis c hc2.1 hlp h) hg (G.bn _ hb) hc2.2 (he _ _ h1), t_vac fun ε => by simp only [testD]⟩
                · cases h
              · cases h
            split at h
            · rename_i hx
              split at h
              · rename_i a m ap cp heq
                cases heq
                split at h
                · rename_i hc2
                  simp only [Option.map_eq_some_iff] at h
                  obtain ⟨z, h1, rfl⟩ := h
                  obtain ⟨rfl, hx2⟩ := hx
                  obtain ⟨hh, hb0, hl0⟩ := hc2
                  have hm2 : m = "items" := of_decide_eq_true hx2
                  subst hm2
                  exact ⟨r_dit (G.calm hh) (he _ _ h1) hg (G.bn _ hb) (base_attr hb0 _ _) hl0, t_vac fun ε => by simp only [testD]⟩
                · cases h
              · cases h
            split at h
            · rename_i hx
              split at h
              · rename_i y p2 a p3 heq
                cases heq
                split at h
                · rename_i hc2
                  simp only [Option.map_eq_some_iff] at h
                  obtain ⟨z, h1, rfl⟩ := h
                  obtain ⟨rfl, _⟩ := hx
                  obtain ⟨d0, d1, d2, d3, d4⟩ := hc2
                  subst d1
                  exact ⟨r_lrg (G.calm d0) hg (G.bn _ hb) (G.gl d2) (G.bn _ d3) d4 (he _ _ h1), t_vac fun ε => by simp only [testD]⟩
                · cases h
              · cases h
            · split at h
              · rename_i hsc
                split at h
                · rename_i e gs scope p2 heq
                  cases heq
                  obtain ⟨k1, _, k3⟩ := ih.k sc true e gs scope _ C h G
                  obtain ⟨rfl, _⟩ := hsc
                  exact ⟨k3 rfl _ _ _ hg (G.bn _ hb), t_vac k1⟩
                · cases h
              simp only [Option.bind_eq_some_iff] at h
              obtain ⟨b, h1, h2⟩ := h
              split at h2
              · rename_i hcm
                simp only [Option.map_eq_some_iff] at h2
                obtain ⟨es, h3, rfl⟩ := h2
                obtain ⟨a1, a2⟩ := cMany_a he h3
                have r := r_bi (pos := pos) (p := p) G.hk G.gd G.un (fun z => hcm.elim G.calm fun w => absurd (z.symm.trans w) (by decide)) h1 hg (G.bn x hb) c3 (beq_no c2) a2 a1
                exact ⟨r, t_truth G.hk (fun _ => rfl) r fun ε => by simp only [testD, evalD, rb_rb]⟩
              · cases h2
        · cases h
theorem ts_of {n : Nat} {sc sc0 : Scope} {C : Ctx} (ih : COk M N false n) {ifs : List Expr} {cs : Eps} (hc : ifs.length ≤ 1) (h4 : cMany (cT M N false n sc) ifs = some cs) (G : Good M N false sc C) : RTs C ifs cs := by
  cases ifs with
  | nil => cases h4; exact ts_nil
  | cons c r =>
    cases r with
    | nil =>
      simp only [cMany] at h4
      split at h4
      · cases h4
      · simp only [Option.bind_eq_some_iff, Option.map_eq_some_iff] at h4
        obtain ⟨y, h6, ys, h7, rfl⟩ := h4
        cases h7
        exact ts_one (ih.t _ c y _ h6 G)
    | cons c2 r2 => exact absurd hc (by simp)
theorem cI_notSet {n : Nat} {sc : Scope} {pe : Expr} {i : Epi} (h : cI M N hot n sc pe = some i) : isSet pe = false := by
  cases n with
  | zero => simp only [cI] at h; cases h
  | succ n =>
    cases pe with
    | Set a b c =>
      simp only [cI, isRng, Bool.false_eq_true, if_false, Option.map_eq_some_iff] at h
      obtain ⟨e, h1, _⟩ := h
      exact cE_notSet h1
    | _ => rfl
theorem c_lc2 {n : Nat} {sc : Scope} {C : Ctx} (ih : COk M N hot n) (G : Good M N hot sc C) {el : Expr} {gs : List Comprehension} {scope : Scope} {ep : Ep} (h : cK M N hot (n + 1) sc false el gs scope = some ep) :
    ∃ (tg it tg1 it1 : Expr) (ifs ifs1 : List Expr) (own : List (Str × Nat)) (vs1 : List Nat) (g g1 : TG) (tt tt1 : TT) (te : TE) (wi1 : TI), gs = [⟨tg, it, ifs, 0⟩, ⟨tg1, it1, ifs1, 0⟩] ∧ hot = false ∧ BlkOk C.X.N C.X.env.scope scope own ∧ (∀ j ∈ vs1, j ∈ own.map (·.2)) ∧ (∀ s H Ca cl fp, PG (C.blk s H scope cl Ca fp).X tg g) ∧ (∀ s H Ca cl fp, PTs (C.blk s H scope cl Ca fp).X ifs tt) ∧
      (∀ s H Ca cl fp, PI (C.blk s H scope cl Ca fp).X tg1 it1 wi1) ∧ (∀ s H Ca cl fp, PG (C.blk s H scope cl Ca fp).X tg1 g1) ∧ (∀ s H Ca cl fp, PTs (C.blk s H scope cl Ca fp).X ifs1 tt1) ∧ (∀ s H Ca cl fp, PE (C.blk s H scope cl Ca fp).X el te) ∧ isSet it = false ∧ isSet it1 = false ∧ (∀ ε, testD C.Φ ep ε = none) ∧
      ∀ ε o, evalD C.Φ ep ε = some o → ∀ Hi0 H0 Hi H σ (Q : VK), EnvOk C.G C.xp Hi0 H0 Hi H σ ε → GoodV C H0 Hi H σ Q o → tLc2 (tUI C.X tg it) g tt wi1 g1 tt1 te (own.map (·.2)) vs1 σ H Q := by
  simp only [cK] at h
  split at h
  · split at h
    · rename_i hc; exact absurd hc.1 (by decide)
    · cases h
  · rename_i tg it ifs tg1 it1 ifs1
    split at h
    case isFalse => cases h
    case isTrue hc =>
    obtain ⟨hh, hc1, hc2, hc3⟩ := hc
    subst hh
    simp only [Option.bind_eq_some_iff] at h
    obtain ⟨i, h1, t, h2, i1, h6, t1, h7, h3⟩ := h
    split at h3
    case isFalse => cases h3
    case isTrue htg =>
    simp only [Option.bind_eq_some_iff, Option.map_eq_some_iff] at h3
    obtain ⟨cs, h4, cs1, h8, x, h5, h9⟩ := h3
    rw [if_neg (by decide)] at h9
    subst h9
    obtain ⟨g1, g2, g3, g4⟩ := htg
    have bk : BlkOk C.X.N C.X.env.scope scope (ownOf N 9 tg ++ ownOf N 9 tg1) := by rw [G.hN, G.hsc]; exact blkOk_by hc1
    obtain ⟨a1, a2, a3⟩ := ih.i sc it i C tg h1 G g3
    have Gb := fun s H Ca cl fp => G.blk s H scope Ca cl fp
    exact ⟨tg, it, tg1, it1, ifs, ifs1, ownOf N 9 tg ++ ownOf N 9 tg1, (ownOf N 9 tg1).map (·.2), tgT C.X.K t, tgT C.X.K t1, ttU C scope ifs, ttU C scope ifs1, teU C scope el, tiU C scope tg1 it1, rfl, rfl, bk, (fun j hj => by rw [List.map_append]; exact List.mem_append_right _ hj),
      (fun s H Ca cl fp => cTg_ok h2 (Gb s H cl Ca fp) (G.calm rfl) fun x z => z), (fun s H Ca cl fp => ⟨fun pins s' σ H Q I h => h s _ Ca cl fp pins s' I⟩), (fun s H Ca cl fp => ⟨fun pins s' σ H R I h => h s _ Ca cl fp pins s' I⟩),
      (fun s H Ca cl fp => cTg_ok h7 (Gb s H cl Ca fp) (G.calm rfl) fun x z => z), (fun s H Ca cl fp => ⟨fun pins s' σ H Q I h => h s _ Ca cl fp pins s' I⟩), (fun s H Ca cl fp => ⟨fun pins s' σ H Q I h => h s _ Ca cl fp pins s' I⟩), a3, cI_notSet h6, (fun ε => by simp only [testD]),
      r_lc2 (own := ownOf N 9 tg ++ ownOf N 9 tg1) (own1 := ownOf N 9 tg1) a1 g1 (fun s H Ca cl fp => ts_of (sc0 := sc) ih hc2 h4 (Gb s H cl Ca fp)) (fun s H Ca cl fp => (ih.i _ it1 i1 _ tg1 h6 (Gb s H cl Ca fp) g4).2.1) g2 (fun s H Ca cl fp => ts_of (sc0 := sc) ih hc3 h8 (Gb s H cl Ca fp)) (fun s H Ca cl fp => (ih.e _ el x _ h5 (Gb s H cl Ca fp)).1)⟩
  · cases h
theorem c_k {n : Nat} {sc : Scope} {C : Ctx} (ih : COk M N hot n) (G : Good M N hot sc C) {st : Bool} {el : Expr} {gs : List Comprehension} {scope : Scope} {ep : Ep} (h : cK M N hot (n + 1) sc st el gs scope = some ep) :
    (∀ ε, testD C.Φ ep ε = none) ∧ (st = false → ∀ p, RE C (.ListComp el gs scope p) ep) ∧ (st = true → ∀ p p2 pos, Gl C.X "sorted" → C.X.mg "sorted" = none → RE C (.Call (.Name "sorted" p) [.SetComp el gs scope p2] [] pos) ep) := by
  simp only [cK] at h
  split at h
  · rename_i tg it ifs
    split at h
    case isFalse => cases h
    case isTrue hc =>
    obtain ⟨hst, hh, hc1, hc2⟩ := hc
    subst hh
    subst hst
    simp only [Option.bind_eq_some_iff] at h
    obtain ⟨i, h1, t, h2, h3⟩ := h
    split at h3
    case isFalse => cases h3
    case isTrue htg =>
    simp only [Option.bind_eq_some_iff, Option.map_eq_some_iff] at h3
    obtain ⟨cs, h4, x, h5, rfl⟩ := h3
    have bk : BlkOk C.X.N C.X.env.scope scope (ownOf N 9 tg) := by rw [G.hN, G.hsc]; exact blkOk_by hc1
    obtain ⟨i1, i2, i3⟩ := ih.i sc it i C tg h1 G htg.2
    have Gb := fun s H Ca cl fp => G.blk s H scope Ca cl fp
    have hg : ∀ s H Ca cl fp, PG (C.blk s H scope cl Ca fp).X tg (tgT C.X.K t) := fun s H Ca cl fp => cTg_ok h2 (Gb s H cl Ca fp) (G.calm rfl) fun x z => z
    have ht : ∀ s H Ca cl fp, RTs (C.blk s H scope cl Ca fp) ifs cs := fun s H Ca cl fp => ts_of (sc0 := sc) ih hc2 h4 (Gb s H cl Ca fp)
    have hel : ∀ s H Ca cl fp, RE (C.blk s H scope cl Ca fp) el x := fun s H Ca cl fp => (ih.e _ el x _ h5 (Gb s H cl Ca fp)).1
    have ppt : ∀ s H Ca cl fp, PTs (C.blk s H scope cl Ca fp).X ifs (ttU C scope ifs) := fun s H Ca cl fp => ⟨fun pins s' σ H Q I h => h s _ Ca cl fp pins s' I⟩
    have ppe : ∀ s H Ca cl fp, PE (C.blk s H scope cl Ca fp).X el (teU C scope el) := fun s H Ca cl fp => ⟨fun pins s' σ H Q I h => h s _ Ca cl fp pins s' I⟩
    refine ⟨fun ε => by simp only [testD], (fun z => nomatch z), fun _ p p2 pos hgs hms ε o hr Hi0 H0 Hi H σ Q I k => ?_⟩
    exact tU_of (pe_callB (cr_sortedSet (G.calm rfl)) hgs hms PyProof.Rows.boot_sorted (pa_cons (pe_set1 (G.calm rfl) (by rw [G.hN]; exact G.nd) piU bk (fun s H Ca cl fp => hg s H Ca cl fp)
      (fun s H Ca cl fp => ppt s H Ca cl fp) (fun s H Ca cl fp => ppe s H Ca cl fp) (fold_no i3 _)) pa_nil)) (r_sst i1 htg.1 ht hel ε o hr Hi0 H0 Hi H σ Q I k)
  · rename_i tg it ifs tg1 it1 ifs1
    split at h
    case isFalse => cases h
    case isTrue hc =>
    obtain ⟨hh, hc1, hc2, hc3⟩ := hc
    subst hh
    simp only [Option.bind_eq_some_iff] at h
    obtain ⟨i, h1, t, h2, i1, h6, t1, h7, h3⟩ := h
    split at h3
    case isFalse => cases h3
    case isTrue htg =>
    simp only [Option.bind_eq_some_iff, Option.map_eq_some_iff] at h3
    obtain ⟨cs, h4, cs1, h8, x, h5, rfl⟩ := h3
    obtain ⟨g1, g2, g3, g4⟩ := htg
    have bk : BlkOk C.X.N C.X.env.scope scope (ownOf N 9 tg ++ ownOf N 9 tg1) := by rw [G.hN, G.hsc]; exact blkOk_by hc1
    obtain ⟨a1, a2, a3⟩ := ih.i sc it i C tg h1 G g3
    have Gb := fun s H Ca cl fp => G.blk s H scope Ca cl fp
    have hg : ∀ s H Ca cl fp, PG (C.blk s H scope cl Ca fp).X tg (tgT C.X.K t) := fun s H Ca cl fp => cTg_ok h2 (Gb s H cl Ca fp) (G.calm rfl) fun x z => z
    have hg1 : ∀ s H Ca cl fp, PG (C.blk s H scope cl Ca fp).X tg1 (tgT C.X.K t1) := fun s H Ca cl fp => cTg_ok h7 (Gb s H cl Ca fp) (G.calm rfl) fun x z => z
    have ht : ∀ s H Ca cl fp, RTs (C.blk s H scope cl Ca fp) ifs cs := fun s H Ca cl fp => ts_of (sc0 := sc) ih hc2 h4 (Gb s H cl Ca fp)
    have ht1 : ∀ s H Ca cl fp, RTs (C.blk s H scope cl Ca fp) ifs1 cs1 := fun s H Ca cl fp => ts_of (sc0 := sc) ih hc3 h8 (Gb s H cl Ca fp)
    have hel : ∀ s H Ca cl fp, RE (C.blk s H scope cl Ca fp) el x := fun s H Ca cl fp => (ih.e _ el x _ h5 (Gb s H cl Ca fp)).1
    have hi1 : ∀ s H Ca cl fp, RL (C.blk s H scope cl Ca fp) tg1 it1 i1 := fun s H Ca cl fp => (ih.i _ it1 i1 _ tg1 h6 (Gb s H cl Ca fp) g4).2.1
    have b3 : isSet it1 = false := cI_notSet h6
    have hv : ∀ j ∈ (ownOf N 9 tg1).map (·.2), j ∈ (ownOf N 9 tg ++ ownOf N 9 tg1).map (·.2) := fun j hj => by rw [List.map_append]; exact List.mem_append_right _ hj
    have ppt : ∀ s H Ca cl fp, PTs (C.blk s H scope cl Ca fp).X ifs (ttU C scope ifs) := fun s H Ca cl fp => ⟨fun pins s' σ H Q I h => h s _ Ca cl fp pins s' I⟩
    have ppt1 : ∀ s H Ca cl fp, PTs (C.blk s H scope cl Ca fp).X ifs1 (ttU C scope ifs1) := fun s H Ca cl fp => ⟨fun pins s' σ H Q I h => h s _ Ca cl fp pins s' I⟩
    have ppe : ∀ s H Ca cl fp, PE (C.blk s H scope cl Ca fp).X el (teU C scope el) := fun s H Ca cl fp => ⟨fun pins s' σ H Q I h => h s _ Ca cl fp pins s' I⟩
    have ppi : ∀ s H Ca cl fp, PI (C.blk s H scope cl Ca fp).X tg1 it1 (tiU C scope tg1 it1) := fun s H Ca cl fp => ⟨fun pins s' σ H R I h => h s _ Ca cl fp pins s' I⟩
    refine ⟨fun ε => by split <;> simp only [testD], fun z p ε o hr Hi0 H0 Hi H σ Q I k => ?_, fun z p p2 pos hgs hms ε o hr Hi0 H0 Hi H σ Q I k => ?_⟩
    · subst z
      rw [if_neg (by decide)] at hr
      exact tU_of (pe_lc2 (G.calm rfl) (by rw [G.hN]; exact G.nd) piU bk hv (fun s H Ca cl fp => hg s H Ca cl fp) (fun s H Ca cl fp => ppt s H Ca cl fp) (fun s H Ca cl fp => ppi s H Ca cl fp) (fun s H Ca cl fp => hg1 s H Ca cl fp) (fun s H Ca cl fp => ppt1 s H Ca cl fp) (fun s H Ca cl fp => ppe s H Ca cl fp) (fold_no a3 _) (fun env => fold_no b3 env))
        (r_lc2 a1 g1 ht hi1 g2 ht1 hel ε o hr Hi0 H0 Hi H σ Q I k)
    · subst z
      rw [if_pos rfl] at hr
      exact tU_of (pe_callB (cr_sortedSet (G.calm rfl)) hgs hms PyProof.Rows.boot_sorted (pa_cons (pe_set2 (G.calm rfl) (by rw [G.hN]; exact G.nd) piU bk hv (fun s H Ca cl fp => hg s H Ca cl fp) (fun s H Ca cl fp => ppt s H Ca cl fp) (fun s H Ca cl fp => ppe s H Ca cl fp) (fold_no a3 _)
        (fun s H Ca cl fp => ppi s H Ca cl fp) (fun s H Ca cl fp => hg1 s H Ca cl fp) (fun s H Ca cl fp => ppt1 s H Ca cl fp) (fun env => fold_no b3 env)) pa_nil)) (r_sst2 a1 g1 ht hi1 g2 ht1 hel ε o hr Hi0 H0 Hi H σ Q I k)
  · cases h
theorem c_lc {n : Nat} {sc : Scope} {C : Ctx} (ih : COk M N hot n) (G : Good M N hot sc C) {el : Expr} {gs : List Comprehension} (hgs : ∃ tg it ifs, gs = [⟨tg, it, ifs, 0⟩]) {scope : Scope} {p : Pos} {e : Ep} (h : cE M N hot (n + 1) sc (.ListComp el gs scope p) = some e) :
    ∃ (tg it : Expr) (ifs : List Expr) (own : List (Str × Nat)) (g : TG) (tt : TT) (te : TE), gs = [⟨tg, it, ifs, 0⟩] ∧ BlkOk C.X.N C.X.env.scope scope own ∧ (∀ s H Ca cl fp, PG (C.blk s H scope cl Ca fp).X tg g) ∧
      (∀ s H Ca cl fp, PTs (C.blk s H scope cl Ca fp).X ifs tt) ∧ (∀ s H Ca cl fp, PE (C.blk s H scope cl Ca fp).X el te) ∧ isSet it = false ∧ hot = false ∧ (∀ ε, testD C.Φ e ε = none) ∧
      ∀ ε o, evalD C.Φ e ε = some o → ∀ Hi0 H0 Hi H σ (Q : VK), EnvOk C.G C.xp Hi0 H0 Hi H σ ε → GoodV C H0 Hi H σ Q o → tLc (tUI C.X tg it) g tt te (own.map (·.2)) σ H Q := by
  obtain ⟨tg, it, ifs, rfl⟩ := hgs
  simp only [cE] at h
  · split at h
    · rename_i hc
      obtain ⟨hh, hc1, hc2⟩ := hc
      subst hh
      simp only [Option.bind_eq_some_iff] at h
      obtain ⟨i, h1, t, h2, h3⟩ := h
      split at h3
      · rename_i htg
        simp only [Option.bind_eq_some_iff, Option.map_eq_some_iff] at h3
        obtain ⟨cs, h4, x, h5, rfl⟩ := h3
        have bk : BlkOk C.X.N C.X.env.scope scope (ownOf N 9 tg) := by rw [G.hN, G.hsc]; exact blkOk_by hc1
        obtain ⟨i1, i2, i3⟩ := ih.i sc it i C tg h1 G htg.2
        have Gb := fun s H Ca cl fp => G.blk s H scope Ca cl fp
        have hg : ∀ s H Ca cl fp, PG (C.blk s H scope cl Ca fp).X tg (tgT C.X.K t) := fun s H Ca cl fp => cTg_ok h2 (Gb s H cl Ca fp) (G.calm rfl) fun x z => z
        have ht : ∀ s H Ca cl fp, RTs (C.blk s H scope cl Ca fp) ifs cs := fun s H Ca cl fp => by
          cases ifs with
          | nil => cases h4; exact ts_nil
          | cons c r =>
            cases r with
            | nil =>
              simp only [cMany] at h4
              split at h4
              · cases h4
              · simp only [Option.bind_eq_some_iff, Option.map_eq_some_iff] at h4
                obtain ⟨y, h6, ys, h7, rfl⟩ := h4
                cases h7
                exact ts_one (ih.t _ c y _ h6 (Gb s H cl Ca fp))
            | cons c2 r2 => exact absurd hc2 (by simp)
        have hel : ∀ s H Ca cl fp, RE (C.blk s H scope cl Ca fp) el x := fun s H Ca cl fp => (ih.e _ el x _ h5 (Gb s H cl Ca fp)).1
        refine ⟨tg, it, ifs, _, tgT C.X.K t, (fun σ H Q => ∀ s Hb Ca cl fp, tUTs (C.blk s Hb scope cl Ca fp).X ifs σ H Q), (fun σ H Q => ∀ s Hb Ca cl fp, tU (C.blk s Hb scope cl Ca fp).X el σ H Q), rfl, bk, hg, (fun s H Ca cl fp => ⟨fun pins s' σ H Q I h => h s _ Ca cl fp pins s' I⟩), (fun s H Ca cl fp => ⟨fun pins s' σ H Q I h => h s _ Ca cl fp pins s' I⟩), i3, rfl, (fun ε => by unfold mkLc; split <;> simp only [testD]), ?_⟩
        unfold mkLc
        split
        · exact r_lcd i1 htg.1 ht hel
        · exact r_lc i1 htg.1 ht hel
      · cases h3
    · cases h
theorem meth_form {a : Expr} {m : Str} {ap p : Pos} {es : List Expr} {env : PySem.Env} (hb : okBase a = true) (hl : (ap.endLine == p.line) = true) (hs : noStars es = true) (hlen : es.length < 20) :
    eval ((a.Attribute m ap).Call es [] p) env = (do
      let ov ← eval a env
      standAt ap.atName
      let __x ← holding [ov] (getMethod ov m (do return (← importBound a env).getD true))
      match __x with
        | (f, first) => callWith p f first (backTo p (starEach es env)) (backToKw p (keywordEach [] env))) := by
  have hst := stars_no (pos := p) (env := env) hs
  have f : methodCallForm (es.length + 0) (backTo p (starEach es env)) (backToKw p (keywordEach [] env)) = true := by
    unfold methodCallForm
    have h1 : (backTo p (starEach es env)).all (fun x => !x.1) = true := by
      rw [List.all_eq_true]
      intro x hx
      rw [List.any_eq_false] at hst
      have := hst x hx
      simpa using this
    rw [h1]
    have h2 : (backToKw p (keywordEach [] env)).all (fun x => x.1.isSome) = true := rfl
    rw [h2]
    show (true && true && decide (es.length + 0 + 0 < 30)) = true
    simp; omega
  show (do
      let ov ← attributeBase a m env (eval a env)
      standAt ap.atName
      methodCall a m ap p env ov (es.length + 0) (backTo p (starEach es env)) (backToKw p (keywordEach [] env))) = _
  rw [base_attr hb]
  unfold methodCall calleeOf methodCallPos
  rw [f]
  simp only [hl, Bool.not_true, Bool.false_or, if_true]
  rfl
theorem c_ok : ∀ n, COk M N hot n
  | 0 => by
    refine ⟨fun sc pe e C h _ => ?_, fun sc x as e C p pos h _ _ _ _ _ => ?_, fun sc pe e C h _ => ?_, fun sc pe e C h _ => ?_, fun sc pe e C tg h _ _ => ?_, fun sc st e gs scope ep C h _ => ?_⟩
    · simp only [cE] at h; cases h
    · simp only [cC] at h; cases h
    · simp only [cT] at h; cases h
    · simp only [cO] at h; cases h
    · simp only [cI] at h; cases h
    · simp only [cK] at h; cases h
  | n + 1 => by
    have ih := c_ok n
    refine ⟨fun sc pe e C h G => ?_, fun sc x as e C p pos h G c1 c2 c3 c4 => c_c ih h G c1 c2 c3 c4, fun sc pe e C h G => ?_, fun sc po o C h G => ?_, fun sc pe it C tg h G hen => ?_, fun sc st e gs scope ep C h G => c_k ih G h⟩
    · have he : ∀ pe e, cE M N hot n sc pe = some e → RE C pe e := fun pe e h => (ih.e sc pe e C h G).1
      cases pe
      case Name x p =>
        rcases cE_name h G with ⟨i, rfl, h1, h2⟩ | ⟨s, rfl, h2⟩
        · exact ⟨h2, fun _ => t_truth G.hk (fun _ => rfl) h2 fun ε => by simp only [testD, evalD]⟩
        · exact ⟨h2, fun _ => t_truth G.hk (fun _ => rfl) h2 fun ε => by simp only [testD, evalD, rp, rb, Vl.d]⟩
      case Constant c k p =>
        simp only [cE] at h
        have go : ∀ {t : V} {d : D}, PE C.X (.Constant c k p) (tC t) → (∀ K H, Rep K H d t) → RE C (.Constant c k p) (.c d) ∧ (plainT (.Constant c k p) = true → RT C (.Constant c k p) (.c d)) := fun {t d} h1 h2 =>
          ⟨r_const h1 h2, fun _ => t_truth G.hk (fun _ => rfl) (r_const h1 h2) fun ε => by simp only [testD, evalD, rp, rb, Vl.d]⟩
        split at h
        · cases h; exact go pe_int fun _ _ => rfl
        · cases h; exact go pe_bl fun _ _ => rfl
        · cases h; exact go pe_non fun _ _ => rfl
        · cases h; exact go pe_str fun _ _ => rfl
        · cases h
      case BinOp a op b p =>
        simp only [cE, Option.bind_eq_some_iff, Option.map_eq_some_iff] at h
        obtain ⟨x, h1, y, h2, rfl⟩ := h
        unfold mkBin
        split
        · split
          · rename_i hoa
            have hne : M.oa ≠ [] := fun z => by rw [z] at hoa; cases hoa
            exact ⟨r_oad G.hk (G.hh (.inr (.inr (.inr (.inr (.inl hne)))))) (fun c f hm => G.oas c f hne hm) (he _ _ h1) (he _ _ h2), fun _ => t_vac fun ε => by simp only [testD]⟩
          · exact ⟨r_bin (he _ _ h1) (he _ _ h2), fun _ => t_vac fun ε => by simp only [testD]⟩
        · exact ⟨r_bin (he _ _ h1) (he _ _ h2), fun _ => t_vac fun ε => by simp only [testD]⟩
      case UnaryOp op a p =>
        simp only [cE] at h
        refine ⟨?_, fun z => nomatch z⟩
        split at h
        · simp only [Option.map_eq_some_iff] at h
          obtain ⟨x, h1, rfl⟩ := h
          exact r_neg (he _ _ h1)
        · simp only [Option.map_eq_some_iff] at h
          obtain ⟨x, h1, rfl⟩ := h
          exact r_not (he _ _ h1)
        · cases h
      case BoolOp op es p =>
        simp only [cE] at h
        refine ⟨?_, fun z => nomatch z⟩
        split at h
        · cases h
        · split at h
          · exact cAnd_e he h
          · exact cOr_e he h
      case Compare a ops bs p =>
        simp only [cE] at h
        split at h
        · simp only [Option.bind_eq_some_iff, Option.map_eq_some_iff] at h
          obtain ⟨x, h1, y, h2, rfl⟩ := h
          have hm := fun op => mark_no (cE_notSet h2) op
          have hun : C.X.A.units < cLine := by have := G.un; omega
          unfold mkCmp
          split
          · split
            · rename_i hoq
              have hne : M.oq ≠ [] := fun z => by rw [z] at hoq; cases hoq
              have hot' := G.hh (.inr (.inr (.inr (.inl hne))))
              exact ⟨r_oeq G.hk hot' hun (fun c f hm => G.oqs c f hne hm) (he _ _ h1) (he _ _ h2) (hm _), fun _ => t_oeq G.hk hot' hun (fun c f hm => G.oqs c f hne hm) (he _ _ h1) (he _ _ h2) (hm _)⟩
            · exact ⟨r_cmp G.hk G.un (he _ _ h1) (he _ _ h2) (hm _), fun _ => t_cmp G.hk G.un (he _ _ h1) (he _ _ h2) (hm _)⟩
          · exact ⟨r_cmp G.hk G.un (he _ _ h1) (he _ _ h2) (hm _), fun _ => t_cmp G.hk G.un (he _ _ h1) (he _ _ h2) (hm _)⟩
        · simp only [Option.bind_eq_some_iff, Option.map_eq_some_iff] at h
          obtain ⟨x, h1, y, h2, z, h3, rfl⟩ := h
          have hm := fun op => mark_no (cE_notSet h3) op
          exact ⟨r_chn G.hk G.un (he _ _ h1) (he _ _ h2) (he _ _ h3) (hm _), fun _ => t_chn G.hk G.un (he _ _ h1) (he _ _ h2) (he _ _ h3) (hm _)⟩
        · cases h
      case IfExp c a b p =>
        simp only [cE, Option.bind_eq_some_iff, Option.map_eq_some_iff] at h
        obtain ⟨x, h1, y, h2, z, h3, rfl⟩ := h
        exact ⟨r_ife (ih.t sc c x C h1 G) (he _ _ h2) (he _ _ h3), fun z => nomatch z⟩
      case Subscript a i p =>
        simp only [cE] at h
        split at h
        · split at h
          · simp only [Option.bind_eq_some_iff, Option.map_eq_some_iff] at h
            obtain ⟨x, h1, l, h2, hh, h3, rfl⟩ := h
            exact ⟨r_sl G.hk (he _ _ h1) (ih.o sc _ _ C h2 G) (ih.o sc _ _ C h3 G), fun _ => t_vac fun ε => by simp only [testD]⟩
          · cases h
        · rename_i hne
          simp only [Option.bind_eq_some_iff, Option.map_eq_some_iff] at h
          obtain ⟨x, h1, y, h2, rfl⟩ := h
          have r := r_ix (pos := p) G.hk G.un (he _ _ h1) (he _ _ h2) (plain_ix hne)
          refine ⟨r, fun _ => t_truth G.hk (fun _ => rfl) r fun ε => ?_⟩
          simp only [testD, evalD, rb_rb]
      case Tuple es k p =>
        simp only [cE, Option.map_eq_some_iff] at h
        obtain ⟨xs, h1, rfl⟩ := h
        exact ⟨r_tup (cMany_k he h1), fun _ => t_vac fun ε => by simp only [testD]⟩
      case List es p =>
        simp only [cE, Option.map_eq_some_iff] at h
        obtain ⟨xs, h1, rfl⟩ := h
        unfold mkLst
        split
        · exact ⟨r_lstd (cMany_n he _ h1), fun _ => t_vac fun ε => by simp only [testD]⟩
        · exact ⟨r_lst (cMany_k he h1), fun _ => t_vac fun ε => by simp only [testD]⟩
      case Dict ks vs p =>
        simp only [cE] at h
        split at h
        · rename_i hc
          cases h
          cases ks with
          | cons _ _ => cases hc.1
          | nil => cases vs with
            | cons _ _ => cases hc.2
            | nil => exact ⟨r_dnw, fun _ => t_vac fun ε => by simp only [testD]⟩
        · cases h
      case Attribute a f p =>
        simp only [cE] at h
        split at h
        · rename_i h0 hh0
          split at h
          case isFalse => cases h
          case isTrue hxf =>
          simp only [Option.map_eq_some_iff] at h
          obtain ⟨i, h2, rfl⟩ := h
          have hna : ∃ pn, a = .Name h0 pn ∧ M.hn = some h0 := by
            unfold hnd at hh0
            split at hh0
            · split at hh0
              · rename_i hq; cases hh0; exact ⟨_, rfl, hq⟩
              · cases hh0
            · cases hh0
          obtain ⟨pn, rfl, hhn⟩ := hna
          exact ⟨G.xf h0 f pn p i hhn h2 hxf, fun _ => t_vac fun ε => by simp only [testD]⟩
        split at h
        · rename_i hc
          simp only [Option.map_eq_some_iff] at h
          obtain ⟨x, h1, rfl⟩ := h
          have r := r_fld (pos := p) G.hk (he _ _ h1) (fun c hal => G.fls f c hc.2 hal) (base_attr hc.1 f _)
          exact ⟨r, fun _ => t_truth G.hk (fun _ => rfl) r fun ε => by simp only [testD, evalD, rb_rb]⟩
        · cases h
      case Call f as ks p =>
        simp only [cE] at h
        split at h
        · rename_i x p2
          split at h
          · rename_i hc
            obtain ⟨h1, h2⟩ := ih.c sc x as e C p2 p h G hc.1 hc.2.1 hc.2.2.1 hc.2.2.2
            exact ⟨h1, fun _ => h2⟩
          · split at h
            · rename_i hc
              simp only [Option.bind_eq_some_iff, Option.map_eq_some_iff] at h
              obtain ⟨i, h1, es, h2, rfl⟩ := h
              cases as with
              | nil => exact absurd rfl hc.2.2.2.2
              | cons a0 ar =>
                obtain ⟨a1, a2⟩ := cMany_a he h2
                exact ⟨r_cll G.tk (G.hh (.inr (.inr (.inr (.inr (.inr hc.1)))))) (fun c f hm => G.cvs c f hc.1 hm) (by rw [G.hN]; exact slot_ok h1) (by rw [G.hsc]; exact visB_ok hc.2.1) (beq_no hc.2.2.1) (beq_no hc.2.2.2.1) a2 a1, fun _ => t_vac fun ε => by simp only [testD]⟩
            · cases h
        · rename_i a m ap
          split at h
          · rename_i hfnd
            split at h
            · rename_i hc
              simp only [Option.bind_eq_some_iff] at h
              obtain ⟨x, h1, es, h2, h3⟩ := h
              unfold isFnd at hfnd
              simp only [Bool.and_eq_true, decide_eq_true_eq] at hfnd
              obtain ⟨⟨_, rfl⟩, hst⟩ := hfnd
              split at hst
              · rename_i b0
                have hst : isStar b0 = false := by simpa using hst
                simp only [cMany, hst, Bool.false_eq_true, if_false, Option.bind_eq_some_iff, Option.map_eq_some_iff] at h2
                obtain ⟨y, h4, _, h6, rfl⟩ := h2
                cases h6
                cases h3
                exact ⟨r_fnd (he _ _ h1) (he _ _ h4) (base_attr hc.1 _ _) hc.2 hst, fun _ => t_vac fun ε => by simp only [testD]⟩
              · cases hst
            · cases h
          split at h
          · rename_i hget
            split at h
            · rename_i hc
              simp only [Option.bind_eq_some_iff] at h
              obtain ⟨x, h1, es, h2, h3⟩ := h
              unfold isGet at hget
              simp only [Bool.and_eq_true, decide_eq_true_eq] at hget
              obtain ⟨⟨_, rfl⟩, hst⟩ := hget
              split at hst
              · rename_i b0 b1
                simp only [Bool.and_eq_true, Bool.not_eq_true'] at hst
                simp only [cMany, hst.1, hst.2, Bool.false_eq_true, if_false, Option.bind_eq_some_iff, Option.map_eq_some_iff] at h2
                obtain ⟨y, h4, _, ⟨z, h5, _, h6, rfl⟩, rfl⟩ := h2
                cases h6
                cases h3
                exact ⟨r_dgt G.un (he _ _ h1) (he _ _ h4) (he _ _ h5) (fun m => base_attr hc.1 m _) hc.2 hst.1 hst.2, fun _ => t_vac fun ε => by simp only [testD]⟩
              · cases hst
            · cases h
          split at h
          · rename_i hc
            obtain ⟨d1, d2, d3, d4⟩ := hc
            have hme : M.me ≠ [] := fun z => by rw [z] at d2; cases d2
            simp only [Option.bind_eq_some_iff, Option.map_eq_some_iff] at h
            obtain ⟨x, h1, es, h2, rfl⟩ := h
            obtain ⟨a1, a2⟩ := cMany_a he h2
            have r : RE C (.Call (.Attribute a m ap) as [] p) (.mth m x es) := by
              cases as with
              | nil =>
                cases h2
                exact r_mth0 (pl := do return (← importBound a C.X.env).getD true) G.hk G.tk (G.hh (.inr (.inr (.inl hme)))) (fun c f h => G.mes m c f d2 h) (he _ _ h1) (meth_form d1 d4 rfl d3)
              | cons a0 ar =>
                exact r_mth (pl := do return (← importBound a C.X.env).getD true) G.hk G.tk (G.hh (.inr (.inr (.inl hme)))) (fun c f h => G.mes m c f d2 h) a2 (he _ _ h1) a1 ⟨_, _, rfl⟩ (meth_form d1 d4 a2 d3)
            exact ⟨r, fun _ => t_truth G.hk (fun _ => rfl) r fun ε => by simp only [testD, evalD, rb_rb]⟩
          · cases h
        · cases h
      case ListComp el gs scope p =>
        by_cases h1 : ∃ tg it ifs, gs = [⟨tg, it, ifs, 0⟩]
        · obtain ⟨tg, it, ifs, own, g, tt, te, rfl, bk, hg, ht, hel, i3, hz, tv, rd⟩ := c_lc ih G h1 h
          refine ⟨fun ε r hr Hi0 H0 Hi H σ Q I k => ?_, fun _ => t_vac tv⟩
          exact tU_of (pe_lc (G.calm hz) (by rw [G.hN]; exact G.nd) piU bk (fun s H Ca cl fp => hg s H Ca cl fp) (fun s H Ca cl fp => ht s H Ca cl fp) (fun s H Ca cl fp => hel s H Ca cl fp) (fold_no i3 _)) (rd ε r hr Hi0 H0 Hi H σ Q I k)
        · simp only [cE] at h
          split at h
          · exact absurd ⟨_, _, _, rfl⟩ h1
          · obtain ⟨k1, k2, _⟩ := ih.k sc false el gs scope _ C h G
            exact ⟨k2 rfl p, fun _ => t_vac k1⟩
      case DictComp ke el gs scope p =>
        simp only [cE] at h
        split at h
        case h_2 => cases h
        case h_1 tg it ifs =>
        split at h
        case isFalse => cases h
        case isTrue hc =>
        obtain ⟨hh, hc1, hc2⟩ := hc
        subst hh
        simp only [Option.bind_eq_some_iff] at h
        obtain ⟨i, h1, t, h2, h3⟩ := h
        split at h3
        case isFalse => cases h3
        case isTrue htg =>
        simp only [Option.bind_eq_some_iff, Option.map_eq_some_iff] at h3
        obtain ⟨cs, h4, y, h6, x, h5, rfl⟩ := h3
        have bk : BlkOk C.X.N C.X.env.scope scope (ownOf N 9 tg) := by rw [G.hN, G.hsc]; exact blkOk_by hc1
        obtain ⟨i1, i2, i3⟩ := ih.i sc it i C tg h1 G htg.2
        have Gb := fun s H Ca cl fp => G.blk s H scope Ca cl fp
        have hg : ∀ s H Ca cl fp, PG (C.blk s H scope cl Ca fp).X tg (tgT C.X.K t) := fun s H Ca cl fp => cTg_ok h2 (Gb s H cl Ca fp) (G.calm rfl) fun x z => z
        have ht : ∀ s H Ca cl fp, RTs (C.blk s H scope cl Ca fp) ifs cs := fun s H Ca cl fp => ts_of (sc0 := sc) ih hc2 h4 (Gb s H cl Ca fp)
        have hel : ∀ s H Ca cl fp, RE (C.blk s H scope cl Ca fp) el x := fun s H Ca cl fp => (ih.e _ el x _ h5 (Gb s H cl Ca fp)).1
        have hke : ∀ s H Ca cl fp, RE (C.blk s H scope cl Ca fp) ke y := fun s H Ca cl fp => (ih.e _ ke y _ h6 (Gb s H cl Ca fp)).1
        have ppt : ∀ s H Ca cl fp, PTs (C.blk s H scope cl Ca fp).X ifs (ttU C scope ifs) := fun s H Ca cl fp => ⟨fun pins s' σ H Q I h => h s _ Ca cl fp pins s' I⟩
        have ppe : ∀ s H Ca cl fp, PE (C.blk s H scope cl Ca fp).X el (teU C scope el) := fun s H Ca cl fp => ⟨fun pins s' σ H Q I h => h s _ Ca cl fp pins s' I⟩
        have ppk : ∀ s H Ca cl fp, PE (C.blk s H scope cl Ca fp).X ke (teU C scope ke) := fun s H Ca cl fp => ⟨fun pins s' σ H Q I h => h s _ Ca cl fp pins s' I⟩
        refine ⟨fun ε o hr Hi0 H0 Hi H σ Q I k => ?_, fun _ => t_vac fun ε => by simp only [testD]⟩
        exact tU_of (pe_dc (G.calm rfl) (by rw [G.hN]; exact G.nd) piU bk (fun s H Ca cl fp => hg s H Ca cl fp) (fun s H Ca cl fp => ppt s H Ca cl fp) (fun s H Ca cl fp => ppk s H Ca cl fp) (fun s H Ca cl fp => ppe s H Ca cl fp) (fold_no i3 _)) (r_dcp i1 htg.1 ht hke hel ε o hr Hi0 H0 Hi H σ Q I k)
      all_goals (simp only [cE] at h; cases h)
    · have ht : ∀ pe e, cT M N hot n sc pe = some e → RT C pe e := fun pe e h => ih.t sc pe e C h G
      cases pe
      case UnaryOp op a p =>
        simp only [cT] at h
        split at h
        · simp only [Option.map_eq_some_iff] at h
          obtain ⟨x, h1, rfl⟩ := h
          exact t_not (ht _ _ h1)
        · cases h
      case BoolOp op es p =>
        simp only [cT] at h
        split at h
        · exact (cAnd_t ht h).t
        · exact (cOr_t ht h).t
      case IfExp c a b p => simp only [cT] at h; cases h
      all_goals (simp only [cT] at h; exact (ih.e sc _ _ C h G).2 rfl)
    · simp only [cO] at h
      split at h
      · cases h; exact o_no
      · simp only [Option.map_eq_some_iff] at h
        obtain ⟨x, h1, rfl⟩ := h
        exact o_so (ih.e sc _ _ C h1 G).1
    · simp only [cI] at h
      split at h
      · rename_i hr
        split at h
        · rename_i x p2 as p
          split at h
          · rename_i hc
            obtain ⟨d1, d2, d3⟩ := hc
            have hg := G.gl d1
            have hm := G.bn _ d2
            split at h
            · rename_i a
              split at h
              · cases h
              · rename_i hs
                have hs : isStar a = false := by simpa using hs
                split at h
                · rename_i hx
                  subst hx
                  simp only [Option.map_eq_some_iff] at h
                  obtain ⟨y, h1, rfl⟩ := h
                  have ra := (ih.e sc _ _ C h1 G).1
                  exact ⟨fun ε o hh Hi0 H0 Hi H σ R I k => r1_ok hg hm hs ra gdC_ex hh I k, fun ε o hh Hi0 H0 Hi H σ R I k => r1_ok hg hm hs ra gdL_ex hh I k, rfl⟩
                · split at h
                  · rename_i hx
                    subst hx
                    simp only [Option.map_eq_some_iff] at h
                    obtain ⟨y, h1, rfl⟩ := h
                    have ra := (ih.e sc _ _ C h1 G).1
                    have : ∃ es kk tp, tg = .Tuple es kk tp := by
                      unfold enOk at hen
                      cases tg <;> first | exact ⟨_, _, _, rfl⟩ | cases hen
                    obtain ⟨es, kk, tp, rfl⟩ := this
                    exact ⟨i_enum G.hk hg hm hs ra, l_enum G.hk hg hm hs ra, rfl⟩
                  · split at h
                    · rename_i hx
                      subst hx
                      simp only [Option.map_eq_some_iff] at h
                      obtain ⟨y, h1, rfl⟩ := h
                      have ra := (ih.e sc _ _ C h1 G).1
                      exact ⟨i_rev G.hk hg hm hs ra, l_rev G.hk hg hm hs ra, rfl⟩
                    · cases h
            · rename_i a b
              split at h
              · cases h
              · rename_i hs
                have hs' : isStar a = false ∧ isStar b = false := by
                  cases ha : isStar a with
                  | true => exact absurd (.inl ha) hs
                  | false => cases hb : isStar b with
                    | true => exact absurd (.inr hb) hs
                    | false => exact ⟨rfl, rfl⟩
                split at h
                · rename_i hx
                  subst hx
                  simp only [Option.bind_eq_some_iff, Option.map_eq_some_iff] at h
                  obtain ⟨y, h1, z, h2, rfl⟩ := h
                  have ra := (ih.e sc _ _ C h1 G).1
                  have rb := (ih.e sc _ _ C h2 G).1
                  exact ⟨fun ε o hh Hi0 H0 Hi H σ R I k => r2_ok hg hm hs'.1 hs'.2 ra rb gdC_ex hh I k, fun ε o hh Hi0 H0 Hi H σ R I k => r2_ok hg hm hs'.1 hs'.2 ra rb gdL_ex hh I k, rfl⟩
                · cases h
            · rename_i a b c
              split at h
              · rename_i hx
                subst hx
                simp only [Option.map_eq_some_iff] at h
                obtain ⟨es, h1, rfl⟩ := h
                obtain ⟨a1, a2⟩ := cMany_a (fun pe e h => (ih.e sc pe e C h G).1) h1
                exact ⟨fun ε o hh Hi0 H0 Hi H σ R I k => r3_ok hg hm a2 a1 gdC_ex hh I k, fun ε o hh Hi0 H0 Hi H σ R I k => r3_ok hg hm a2 a1 gdL_ex hh I k, rfl⟩
              · cases h
            · cases h
          · cases h
        · cases h
      · simp only [Option.map_eq_some_iff] at h
        obtain ⟨a, h1, rfl⟩ := h
        have ra := (ih.e sc _ _ C h1 G).1
        exact ⟨i_over G.hk ra, l_over G.hk ra, cE_notSet h1⟩
end
end EG
namespace EG
open PySem L2 L2H
/-! ### statements: from the text -/
mutual
/-- the names whose lists are kept by other data -/
def retE : Ep → List Nat
  | .v _ => []
  | .c _ => []
  | .bin _ a b => retE a ++ retE b
  | .neg a => retE a
  | .not a => retE a
  | .and a b => retE a ++ retE b
  | .or a b => retE a ++ retE b
  | .cmp _ a b => retE a ++ retE b
  | .chn _ _ a b c => retE a ++ retE b ++ retE c
  | .ife c a b => retE c ++ retE a ++ retE b
  | .ix a b => retE a ++ retE b
  | .sl a _ _ => retE a
  | .tup es => retK es
  | .lst es => retK es
  | .call _ es => retA es
  | .bi _ es => retA es
  | .isi _ a => retE a
  | .lrg a => retE a
  | .lc _ _ _ e _ => (match e with | .v i => [i] | _ => []) ++ retE e
  | .fld _ a _ => retE a
  | .mth _ a es => retE a ++ retA es
  | .isc _ _ a => retE a
  | .oeq a b => retE a ++ retE b
  | .oad a b => retE a ++ retE b
  | .cll a es => retE a ++ retA es
  | .lio _ _ a => retE a
  | .fnd a b => retE a ++ retE b
  | .dit a => retE a
  | .dcp _ _ _ k e _ => retE k ++ (match e with | .v i => [i] | _ => []) ++ retE e
  | .dgt a k d => retE a ++ retE k ++ (match d with | .v i => [i] | _ => []) ++ retE d
  | .exf _ _ _ => []
  | .exi _ _ _ => []
  | .lcd _ _ _ _ e _ => (match e with | .v i => [i] | _ => []) ++ retE e
  | .lstd _ es => retK es
  | .dnw _ => []
  | .lc2 _ _ _ _ _ _ e _ _ => (match e with | .v i => [i] | _ => []) ++ retE e
  | .sst _ _ _ _ _ => []
  | .sst2 _ _ _ _ _ _ _ _ _ => []
def retK : Eps → List Nat
  | .nil => []
  | .cons e es => (match e with | .v i => [i] | _ => []) ++ retE e ++ retK es
def retA : Eps → List Nat
  | .nil => []
  | .cons e es => retE e ++ retA es
end
def keptV : Ep → List Nat
  | .v i => [i]
  | _ => []
/-- x.m(..), x a name -/
def asMeth : Expr → Option (Str × Str × List Expr)
  | .Call f as ks cpos => (match f, ks with
    | .Attribute (.Name x _) m apos, [] => if (apos.endLine == cpos.line) = true ∧ as.length < 20 ∧ (m = "append" ∨ m = "pop" ∨ m = "insert") then some (x, m, as) else none
    | _, _ => none)
  | _ => none
def isCall : Expr → Bool
  | .Call _ _ _ _ => true
  | _ => false
/-- does the comprehension's value go straight to the name? -/
def swapB (sc : Scope) (y : Str) (py : Pos) (scope : Scope) (pos : Pos) : Bool :=
  decide (sc.names.lookup y = some .local) && (py.line == pos.line) && !(scope.names.any fun (n, k) => n == y && (k == .local || k == .cell))
def cArg (M : Mo) (N : List Str) (hot : Bool) (n : Nat) (sc : Scope) : List Expr → Option Epo
  | [] => some .no
  | [a] => if isStar a = true then none else (cE M N hot n sc a).map .so
  | _ => none
def cLocal (M : Mo) (N : List Str) (hot : Bool) (n : Nat) (sc : Scope) (x : Str) : Option Nat := (cE M N hot n sc (.Name x ⟨0, 0, 0, 0⟩)).bind fun e => match e with | .v i => some i | _ => none
def notTup (t : Tg) : Bool := match t with | .n _ => true | _ => false
def keptI : Epi → List Nat
  | .over e => keptV e ++ retE e
  | .enum e => keptV e ++ retE e
  | .rev e => keptV e ++ retE e
  | _ => []
def notSl : Expr → Bool
  | .Slice _ _ _ _ => false
  | _ => true
/-- x[..][..], x a name: its slot, the last index first -/
def cPth (M : Mo) (N : List Str) (hot : Bool) (sc : Scope) : Nat → Expr → Option (Nat × Eps)
  | 0, _ => none
  | n + 1, e => match e with
    | .Name x _ => (cLocal M N hot n sc x).map fun i => (i, .nil)
    | .Subscript o j _ => if notSl j = true then (cPth M N hot sc n o).bind fun p => (cE M N hot n sc j).map fun jj => (p.1, .cons jj p.2) else none
    | _ => none
/-- within a def that an except suite calls -/
def Mo.bare (M : Mo) : Mo := { M with fs := [], nw := [], me := [], gc := [], er := [], er0 := [], hd := [], oq := [], oa := [], cv := false, hn := none }
/-- within an except suite only hot defs are called -/
def Mo.hot (M : Mo) (n : Str) : Mo := { M with fs := [], nw := M.hnw, me := [], gc := [], er := [], er0 := [], hd := [], oq := [], oa := [], cv := false, hn := some n }
def fhd : List ExceptHandler → Option (Str × Str × List Stmt)
  | [.ExceptHandler (some (.Name x _)) (some n) (b :: s) _] => some (x, n, b :: s)
  | _ => none
def isDC (e : Expr) : Bool := match e with | .DictComp _ _ _ _ _ => true | _ => false
/-- y[j], j written -/
def mvF (e : Expr) : Option (Str × Int) := match e with | .Subscript (.Name y _) (.Constant (.int j) _ _) _ => some (y, j) | _ => none
theorem mvF_some {e : Expr} {y : Str} {j : Int} (h : mvF e = some (y, j)) : ∃ p k p2 p3, e = .Subscript (.Name y p) (.Constant (.int j) k p2) p3 := by
  unfold mvF at h
  split at h
  · cases h; exact ⟨_, _, _, _, rfl⟩
  · cases h
def movT (t : Tg) (i : Nat) (j : Int) : Option (List Nat × Sm) := match t with | .n k => some ([], .mov k i j) | _ => none
/-- ahead of a change within own lists no slot borrows from them -/
def kuIf (s : Sm) (ss : Sms) : Sms := match s with | .setp _ _ _ _ => .cons .ku ss | _ => ss
mutual
def cS (M : Mo) (N : List Str) (sc : Scope) (hot : Bool) : Nat → Stmt → Option (List Nat × Sm)
  | 0, _ => none
  | n + 1, st => match st with
    | .Try body hs els fin _ => (match els, fin with
      | [], [] => (match fhd hs with
        | some (x, nm, suite) => if hot = false ∧ sc.names.lookup nm = some .local ∧ nm ≠ "__debug__" ∧ nm ≠ "__classdict__" ∧ glB sc x = true then
            (M.hd.lookup x).bind fun cs => (slot N nm).bind fun i => (cSs M N sc hot n body).bind fun b => (cSs (M.hot nm) N sc true n suite).map fun s => ([], .tre b cs i s) else none
        | none => none)
      | _, _ => none)
    | .Assign tgs e ap => (match tgs with
      | [tg] => if M.mv.contains (posK ap) = true then (match mvF e with
        | some (y, j) => (cLocal M N hot n sc y).bind fun i => (cTg N sc (fun _ => true) 9 tg).bind fun t => movT t i j
        | none => none) else (match asMeth e with
        | some (x, m, as) => if m = "pop" ∧ hot = false then (cLocal M N hot n sc x).bind fun i => (cArg M N hot n sc as).bind fun a => (cTg N sc (fun _ => true) 9 tg).map fun t => ([], .popT t i a) else none
        | none => (match tg with
          | .Subscript o j _ => (match o with
            | .Name x _ => (match j with
              | .Slice _ _ _ _ => none
              | j => if isComp e = true then none else (cLocal M N hot n sc x).bind fun i => (cE M N hot n sc j).bind fun jj => (cE M N hot n sc e).map fun ee => (keptV ee ++ retE ee, .setx i jj ee))
            | o => if isComp e = true ∨ notSl j = false then none else (cPth M N hot sc n o).bind fun p => (cE M N hot n sc j).bind fun jj => (cE M N hot n sc e).map fun ee => (keptV ee ++ retE ee, .setp p.1 p.2 jj ee))
          | .Attribute o f _ => (match o with
            | .Name x _ => if M.fl.contains f = true ∧ isComp e = false then (cLocal M N hot n sc x).bind fun i => (cE M N hot n sc e).map fun ee => (keptV ee ++ retE ee, .sfl M.al i f ee) else none
            | _ => none)
          | tg => if (isTup tg = true ∧ isTup e = true) ∨ isDC e = true then none else (cE M N hot n sc e).bind fun ee => (cTg N sc (fun _ => true) 9 tg).bind fun t => if hot = false ∨ notTup t = true then some (keptV ee ++ retE ee, .asg t ee) else none))
      | _ => none)
    | .Expr e _ => (match asMeth e with
      | some (x, m, as) => (cLocal M N hot n sc x).bind fun i =>
          if m = "append" then (match as with
            | [a] => (match asMeth a with
              | some (y, m2, as2) => if m2 = "pop" then (cLocal M N hot n sc y).bind fun j => (cArg M N hot n sc as2).map fun k => ([], .appPop i j k) else none
              | none => if isStar a = true then none else (cE M N hot n sc a).map fun aa => (keptV aa ++ retE aa, .app i aa))
            | _ => none)
          else if m = "insert" then (match as with
            | [a, b] => if isStar a = true ∨ isStar b = true then none else (cE M N hot n sc a).bind fun aa => (cE M N hot n sc b).map fun bb => (keptV bb ++ retE aa ++ retE bb, .ins i aa bb)
            | _ => none)
          else none
      | none => if isCall e = true then (cE M N hot n sc e).map fun ee => (retE ee, .exp ee) else none)
    | .Return v _ => (match v with
      | some e => (match e with
        | .Name x _ => (cLocal M N hot n sc x).map fun i => ([], .retV i)
        | e => (cE M N hot n sc e).map fun ee => (retE ee, .ret ee))
      | none => some ([], .ret (.c .non)))
    | .If c a b _ => (cT M N hot n sc c).bind fun cc => (cSs M N sc hot n a).bind fun aa => (cSs M N sc hot n b).map fun bb => (retE cc, .ifs cc aa bb)
    | .For tg it body els _ => (match els with
      | [] => if hot = true then none else (cTg N sc (fun _ => true) 9 tg).bind fun t => (cI M N hot n sc it).bind fun i => if enOk tg i = true then (cSs M N sc hot n body).map fun b => (keptI i, .frs t i b) else none
      | _ => none)
    | .While c body els _ => (match els with
      | [] => (cT M N hot n sc c).bind fun cc => (cSs M N sc hot n body).map fun b => ([], .whl cc b)
      | _ => none)
    | .Raise e c _ => (match e, c with
      | some (.Call (.Name x _) as [] _), none => if hot = false ∧ glB sc x = true ∧ x ≠ "__debug__" then (if as.isEmpty = true then (M.er0.lookup x).map fun c => ([], .rse0 c) else (M.er.lookup x).bind fun f => (cMany (cE M N hot n sc) as).map fun es => (retK es, .rse f es)) else none
      | _, _ => none)
    | .Pass _ => some ([], .pas)
    | .Break _ => some ([], .brk)
    | .Continue _ => some ([], .cnt)
    | _ => none
def cSs (M : Mo) (N : List Str) (sc : Scope) (hot : Bool) : Nat → List Stmt → Option Sms
  | 0, _ => none
  | n + 1, sts => match sts with
    | [] => some .nil
    | st :: rest => (cS M N sc hot n st).bind fun (is, s) => (cSs M N sc hot n rest).map fun ss => pre is (kuIf s (.cons s ss))
end
section
variable {M : Mo} {N : List Str} {hot : Bool} {sc : Scope} {C : Ctx}
theorem asMeth_some {e : Expr} {x m : Str} {as : List Expr} (h : asMeth e = some (x, m, as)) : ∃ p apos cpos, e = .Call (.Attribute (.Name x p) m apos) as [] cpos ∧ (apos.endLine == cpos.line) = true := by
  unfold asMeth at h
  split at h
  · split at h
    · split at h
      · rename_i hc
        cases h
        exact ⟨_, _, _, rfl, hc.1⟩
      · cases h
    · cases h
  · cases h
theorem cLocal_ok {n : Nat} {x : Str} {i : Nat} (h : cLocal M N hot n sc x = some i) (G : Good M N hot sc C) (p : Pos) : PE C.X (.Name x p) (tVar i) := by
  unfold cLocal at h
  simp only [Option.bind_eq_some_iff] at h
  obtain ⟨e, h1, h2⟩ := h
  cases n with
  | zero => simp only [cE] at h1; cases h1
  | succ n =>
    simp only [cE] at h1
    split at h1
    · rename_i hc
      simp only [Option.map_eq_some_iff] at h1
      obtain ⟨j, h3, h4⟩ := h1
      subst h4
      cases h2
      exact pe_var (by rw [G.hN]; exact slot_ok h3) (by rw [G.hsc]; exact visB_ok hc.1) (beq_no hc.2.1) (beq_no hc.2.2)
    · split at h1
      · simp only [Option.map_eq_some_iff] at h1
        obtain ⟨s, _, h4⟩ := h1
        subst h4
        cases h2
      · cases h1
theorem cArg_ok {n : Nat} {as : List Expr} {a : Epo} (h : cArg M N hot n sc as = some a) (he : ∀ pe e, cE M N hot n sc pe = some e → RE C pe e) : RPa C as a := by
  cases as with
  | nil => cases h; exact .inl ⟨rfl, rfl⟩
  | cons a0 ar =>
    cases ar with
    | cons a1 ar => simp only [cArg] at h; cases h
    | nil =>
      simp only [cArg] at h
      split at h
      · cases h
      · rename_i hs
        simp only [Option.map_eq_some_iff] at h
        obtain ⟨e, h1, rfl⟩ := h
        exact .inr ⟨a0, e, rfl, rfl, by simpa using hs, he _ _ h1⟩
structure GoodS (M : Mo) (N : List Str) (hot : Bool) (sc : Scope) (C : Ctx) : Prop extends Good M N hot sc C where
  pw : PassesOwn (model C.X.prog C.X.w) C.X.A C.X.env C.X.xe
  hf : ∀ x, C.X.fn x = true
  kd : C.X.env.scope.kind = .function
  rss : ∀ x f, hot = false → M.er.lookup x = some f → RsI C (C.Φ.call f) x
  rs0 : ∀ x c, hot = false → M.er0.lookup x = some c → RsO C c x
  hst : hot = false → C.X.stack = C.X.env :: C.X.outer
  hfr : hot = false → C.X.env.frame = some C.X.env.locals
  hds : ∀ x cs, hot = false → M.hd.lookup x = some cs → ∃ hc, (x == ("__debug__" : Str)) = false ∧ (C.X.mg x = some hc ∨ (C.X.mg x = none ∧ bootBuiltins x = some hc ∧ x ≠ "__name__")) ∧ ∀ c, cs.contains c = true → PySem.W.exmOne C.X.K (.ref (C.G.cl c)) hc = some true
  xfs : ∀ f c, M.xf.contains f = true → M.ec.contains c = true → XfC C.X.K (C.G.cl c) ∧ PySem.W.findIn C.X.K (.ref (C.G.cl c)) f = some none
  xis : ∀ t cs, M.et.lookup t = some cs → ∃ (tv : V) (cv : Value), ((C.X.mg t = some cv) ∨ (C.X.mg t = none ∧ bootBuiltins t = some cv ∧ t ≠ "__name__")) ∧ (t == ("__debug__" : Str)) = false ∧ RelV tv cv ∧ (∀ u, RelV tv u → u = cv) ∧
    ∀ c, M.ec.contains c = true → IsX C.X.K (C.G.cl c) ∧ PySem.W.kitOne C.X.K (.ref (C.G.cl c)) cv = some (cs.contains c)
  hfn : ∀ x f, hot = false → M.hnw.lookup x = some f → FnI C true (C.Φ.call f) x
theorem GoodS.tr (G : GoodS M N false sc C) {pn : List (Addr × Obj)} {xe : Value → Shared → Prop} {W : WX} (tk : Takes (C.X.tr pn xe) W) (pw : PassesOwn (model C.X.prog C.X.w) C.X.A C.X.env xe) : GoodS M N false sc (C.tr pn xe W) := by
  refine ⟨⟨G.hN, G.nd, G.hsc, G.hk, G.calm, fun _ => calm_hot (G.calm rfl), G.gd, G.un, tk, G.bn, G.gc, fun x f h => ⟨(G.fns x f h).ex⟩, fun x f h0 h => ⟨(G.nws x f h0 h).ex⟩, fun m c f h1 h2 => ⟨(G.mes m c f h1 h2).cls, (G.mes m c f h1 h2).ex⟩, G.fls, G.hnc, (fun t c h => ⟨(G.ics t c h).m, (G.ics t c h).ob, (G.ics t c h).no⟩), (fun c f h1 h2 => ⟨⟨(G.oqs c f h1 h2).cls, (G.oqs c f h1 h2).ex⟩, (G.oqs c f h1 h2).ins, (G.oqs c f h1 h2).sf, (G.oqs c f h1 h2).nf⟩), (fun c f h1 h2 => ⟨⟨(G.oas c f h1 h2).cls, (G.oas c f h1 h2).ex⟩, (G.oas c f h1 h2).ins, (G.oas c f h1 h2).sf, (G.oas c f h1 h2).nf⟩), (fun c f h1 h2 => ⟨⟨(G.cvs c f h1 h2).cls, (G.cvs c f h1 h2).ex⟩, (G.cvs c f h1 h2).fi⟩), fun n f p pos i h => absurd (h.symm.trans (G.hnc rfl)) (by simp), fun n t cs p p1 p2 pos i h => absurd (h.symm.trans (G.hnc rfl)) (by simp), (fun c h0 h1 h2 => ⟨(G.lis c h0 h1 h2).ex⟩), G.gks, fun x f h => nomatch h⟩, pw, G.hf, G.kd, fun x f h0 h => ⟨(G.rss x f h0 h).ex⟩, (fun x c h0 h => ⟨(G.rs0 x c h0 h).g, (G.rs0 x c h0 h).e, (G.rs0 x c h0 h).k, (G.rs0 x c h0 h).b, (G.rs0 x c h0 h).t⟩), G.hst, G.hfr, G.hds, G.xfs, G.xis, fun x f h0 h => ⟨(G.hfn x f h0 h).ex⟩⟩
theorem GoodS.toHot (G : GoodS M N false sc C) {n : Str} (hln : sc.names.lookup n = some .local) (hn1 : n ≠ "__debug__") (hn2 : n ≠ "__classdict__") {a : Addr} {oe : Obj} {cls : Value} {d : Option Addr} {pn : List (Addr × Obj)} (hz : Zc cls d oe) (hf : ∃ vs, oe.data = .fields vs) : GoodS (M.hot n) N true sc (C.suite a ((a, oe) :: pn) cls d) := by
  have hnd : ∀ p i, slot N n = some i → PE (C.suite a ((a, oe) :: pn) cls d).X (.Name n p) (tVar i) := fun p i hi =>
    pe_var (by show C.X.N[i]? = some n; rw [G.hN]; exact slot_ok hi) (by show Vis C.X.env.scope n; rw [G.hsc]; exact .inl hln) (beq_no hn1) (beq_no hn2)
  refine ⟨⟨G.hN, G.nd, G.hsc, G.hk, (fun z => nomatch z), (fun z => ?_), G.gd, G.un, takes0, G.bn, (fun x h => nomatch h), (fun x f h => nomatch h), (fun x f h0 h => nomatch h0), (fun m c f h1 h2 => nomatch h1), G.fls, (fun z => nomatch z), (fun t c h => ⟨(G.ics t c h).m, (G.ics t c h).ob, (G.ics t c h).no⟩), (fun c f h1 h2 => absurd rfl h1), (fun c f h1 h2 => absurd rfl h1), (fun c f h1 h2 => nomatch h1), (fun n' f p pos i h h1 h2 => ?_), (fun n' t cs p p1 p2 pos i h h1 h2 hg hm hgt => ?_), (fun c h0 h1 h2 => nomatch h0), G.gks, (fun x f _ h => ⟨⟨?_⟩, ?_⟩)⟩, PassesOwn.never, G.hf, G.kd, (fun x f h0 h => nomatch h0), (fun x c h0 h => nomatch h0), (fun z => nomatch z), (fun z => nomatch z), (fun x cs h0 h => nomatch h0), G.xfs, G.xis, (fun x f h0 h => nomatch h0)⟩
  · intro pins σ H s I
    have P1 := I.pin (a, oe) (List.mem_append_left _ (List.mem_cons_self))
    exact .inr ⟨rfl, (a, oe), P1.1, P1.2.1, fun hm => (List.mem_cons.mp (I.stkSub a hm)).elim P1.2.2.1 P1.2.2.2.1, P1.2.2.2.2⟩
  · obtain rfl : n = n' := Option.some.inj h
    exact r_exf hz hf (hnd p i h1) fun c hc => G.xfs f c h2 hc
  · obtain rfl : n = n' := Option.some.inj h
    obtain ⟨tv, cv, q1, q2, q3, q4, q5⟩ := G.xis t cs h2
    have ht : PE (C.suite a ((a, oe) :: pn) cls d).X (.Name t p2) (tC tv) := by
      rcases q1 with q1 | ⟨q1, q6, q7⟩
      · exact pe_glob (X := (C.suite a ((a, oe) :: pn) cls d).X) hgt q1 q3 q2
      · exact pe_bltn (X := (C.suite a ((a, oe) :: pn) cls d).X) hgt q1 q6 q3 q7 q2
    exact r_exi hz hf (hnd p1 i h1) ht q4 hg hm fun c hc => q5 c hc
  · obtain ⟨k, fa, fd, ps, e1, e2, e3, r, e5⟩ := (G.hfn x f rfl h).ex
    exact ⟨k, fa, fd, ps, e1, e2, e3, ⟨r.dp, r.un, r.gd⟩, e5⟩
  · intro pins σ H s I
    have P1 := I.pin (a, oe) (List.mem_append_left _ (List.mem_cons_self))
    exact .inr ⟨rfl, (a, oe), P1.1, P1.2.1, fun hm => (List.mem_cons.mp (I.stkSub a hm)).elim P1.2.2.1 P1.2.2.2.1, P1.2.2.2.2⟩
theorem swap_val {X : Cx} {el : Expr} {gs : List Comprehension} {scope : Scope} {pos py : Pos} {y : Str} {l : Nat} (hk : X.env.scope.kind = .function) : swapsWith (.ListComp el gs scope pos) (some (.Name y py)) l X.env = pure (swapB X.env.scope y py scope pos) := by
  have hb : X.env.blockKind = .function := by unfold PySem.Env.blockKind; rw [hk]; rfl
  unfold swapsWith swapB
  simp only [hb]
  have e : (X.env.kindOf y == some NameKind.local) = decide (X.env.scope.names.lookup y = some .local) := by
    unfold PySem.Env.kindOf
    cases h : X.env.scope.names.lookup y with
    | none => rfl
    | some k => cases k <;> rfl
  simp only [e]
  rfl
theorem tg_form {all : Str → Bool} {tg : Expr} {t : Tg} {n : Nat} (h : cTg N sc all n tg = some t) (env : PySem.Env) : (assignEach [tg] env).map (·.2) = [assign tg env] ∧ ∀ a b, tg ≠ .List a b := by
  cases n with
  | zero => simp only [cTg] at h; cases h
  | succ n =>
  cases tg
  case Name x p => exact ⟨rfl, fun _ _ z => by cases z⟩
  case Tuple a b c => exact ⟨rfl, fun _ _ z => by cases z⟩
  all_goals (simp only [cTg] at h; cases h)
/-- a target, where nothing is handled, or a name -/
theorem tg_any {tg : Expr} {t : Tg} {n : Nat} (h : cTg N sc (fun _ => true) n tg = some t) (G : GoodS M N hot sc C) (hc : hot = false ∨ notTup t = true) : PG C.X tg (tgT C.X.K t) := by
  rcases hc with hc | hc
  · exact cTg_ok h G.toGood (G.calm hc) fun x _ => G.hf x
  · cases n with
    | zero => simp only [cTg] at h; cases h
    | succ n =>
      cases tg
      case Name x p =>
        simp only [cTg, Option.map_eq_some_iff] at h
        obtain ⟨i, h1, rfl⟩ := h
        exact cTn_ok h1 G.toGood fun x _ => G.hf x
      case Tuple a b c =>
        simp only [cTg, Option.map_eq_some_iff] at h
        obtain ⟨is, h1, rfl⟩ := h
        cases hc
      all_goals (simp only [cTg] at h; cases h)
theorem comp_form {n : Nat} {e : Expr} {ee : Ep} (hdc : isDC e = false) (h : isComp e = true) (h1 : cE M N hot n sc e = some ee) : ∃ el gs scope pos, e = .ListComp el gs scope pos := by
  cases e
  case ListComp a b c d => exact ⟨a, b, c, d, rfl⟩
  case SetComp a b c d => cases n <;> (simp only [cE] at h1; cases h1)
  case DictComp a b c d e => cases hdc
  all_goals cases h
theorem notSl_ix {j : Expr} (h : notSl j = true) : PlainIx j := plain_ix fun a b c d z => by rw [z] at h; cases h
theorem cPth_ok : ∀ {n : Nat} {pe : Expr} {i : Nat} {js : Eps}, cPth M N hot sc n pe = some (i, js) → Good M N hot sc C → RPth C pe i js
  | 0, pe, i, js, h, G => by simp only [cPth] at h; cases h
  | n + 1, pe, i, js, h, G => by
    simp only [cPth] at h
    split at h
    · simp only [Option.map_eq_some_iff] at h
      obtain ⟨k, h1, h2⟩ := h
      cases h2
      exact p_name (cLocal_ok h1 G _)
    · rename_i o j p
      split at h
      · rename_i hj
        simp only [Option.bind_eq_some_iff, Option.map_eq_some_iff] at h
        obtain ⟨⟨k, ks⟩, h1, jj, h2, h3⟩ := h
        cases h3
        exact p_sub (cPth_ok h1 G) ((c_ok (M := M) (N := N) (hot := hot) n).e sc j jj C h2 G).1 (notSl_ix hj)
      · cases h
    · cases h
theorem fhd_some {hs : List ExceptHandler} {x n : Str} {su : List Stmt} (h : fhd hs = some (x, n, su)) : ∃ np pos b s, hs = [.ExceptHandler (some (.Name x np)) (some n) (b :: s) pos] ∧ su = b :: s := by
  unfold fhd at h
  split at h
  · cases h; exact ⟨_, _, _, _, rfl, rfl⟩
  · cases h
theorem s_ok : ∀ (n : Nat) (M : Mo) (hot : Bool), (∀ st is s C, cS M N sc hot n st = some (is, s) → GoodS M N hot sc C → RS C st s) ∧ (∀ sts ss C, cSs M N sc hot n sts = some ss → GoodS M N hot sc C → RSs C sts ss)
  | 0, M, hot => by
    refine ⟨fun st is s C h _ => ?_, fun sts ss C h _ => ?_⟩
    · simp only [cS] at h; cases h
    · simp only [cSs] at h; cases h
  | n + 1, M, hot => by
    obtain ⟨ih1, ih2⟩ := s_ok n M hot
    have ih := c_ok (M := M) (N := N) (hot := hot) n
    refine ⟨fun st is s C h G => ?_, fun sts ss C h G => ?_⟩
    · have G0 : Good M N hot sc C := G.toGood
      have he : ∀ pe e, cE M N hot n sc pe = some e → RE C pe e := fun pe e h => (ih.e sc pe e C h G0).1
      cases st
      case Assign tgs e p =>
        simp only [cS] at h
        split at h
        · rename_i tg
          split at h
          · split at h
            · rename_i y j hmv
              obtain ⟨p1, kk, p2, p3, rfl⟩ := mvF_some hmv
              simp only [Option.bind_eq_some_iff] at h
              obtain ⟨i, h1, t, h2, h3⟩ := h
              cases t with
              | t ts => cases h3
              | n k =>
              cases h3
              obtain ⟨f1, f2⟩ := tg_form h2 C.X.env
              exact s_mov (cLocal_ok h1 G0 p1) (tg_any h2 G (.inr rfl)) (sole_no rfl) (stores_no (.inr rfl) f2) f1
            · cases h
          split at h
          · rename_i x m as hm
            obtain ⟨p1, p2, p3, rfl, hl⟩ := asMeth_some hm
            split at h
            · rename_i hpop
              obtain ⟨rfl, hh⟩ := hpop
              simp only [Option.bind_eq_some_iff, Option.map_eq_some_iff] at h
              obtain ⟨i, h1, a, h2, t, h3, h4⟩ := h
              cases h4
              obtain ⟨f1, f2⟩ := tg_form h3 C.X.env
              exact s_popT (cLocal_ok h1 G0 p1) (cArg_ok h2 he) hl (tg_any h3 G (.inl hh)) f1 f2
            · cases h
          · split at h
            · split at h
              · rename_i x p1
                split at h
                · cases h
                · rename_i hsl
                  split at h
                  · cases h
                  · rename_i hcomp
                    simp only [Option.bind_eq_some_iff, Option.map_eq_some_iff] at h
                    obtain ⟨i, h1, jj, h2, ee, h3, h4⟩ := h
                    cases h4
                    exact s_setx G.un (cLocal_ok h1 G0 p1) (he _ _ h2) (he _ _ h3) hsl (by simpa using hcomp)
              · split at h
                · cases h
                · rename_i hcc
                  simp only [Option.bind_eq_some_iff, Option.map_eq_some_iff] at h
                  obtain ⟨⟨i, js⟩, h1, jj, h2, ee, h3, h4⟩ := h
                  cases h4
                  have c1 : isComp e = false := by
                    cases z : isComp e with
                    | true => exact absurd (.inl z) hcc
                    | false => rfl
                  refine s_setp (cPth_ok h1 G0) (he _ _ h2) (he _ _ h3) (fun a b c d z => hcc (.inr (by rw [z]; rfl))) c1
            · split at h
              · rename_i f pf o x p1
                split at h
                · rename_i hcc
                  simp only [Option.bind_eq_some_iff, Option.map_eq_some_iff] at h
                  obtain ⟨i, h1, ee, h3, h4⟩ := h
                  cases h4
                  refine s_sfl (cLocal_ok h1 G0 p1) (he _ _ h3) (fun c hal => G.fls _ c hcc.1 hal) ?_
                  have hcm := hcc.2
                  cases e <;> first | rfl | cases hcm
                · cases h
              · cases h
            · rename_i hne
              split at h
              · cases h
              · rename_i htt
                simp only [Option.bind_eq_some_iff] at h
                obtain ⟨ee, h1, t, h2, h4⟩ := h
                split at h4
                case isFalse => cases h4
                case isTrue hh =>
                cases h4
                obtain ⟨f1, f2⟩ := tg_form h2 C.X.env
                have htt' : isTup tg = false ∨ isTup e = false := by
                  cases a : isTup tg with
                  | false => exact .inl rfl
                  | true =>
                    cases b : isTup e with
                    | false => exact .inr rfl
                    | true => exact absurd (.inl ⟨a, b⟩) htt
                have hdc : isDC e = false := by
                  cases z : isDC e with
                  | true => exact absurd (.inr z) htt
                  | false => rfl
                have hg := tg_any h2 G hh
                by_cases hcp : isComp e = true
                · obtain ⟨el, gs, scope, pos, rfl⟩ := comp_form hdc hcp h1
                  cases n with
                  | zero => simp only [cE] at h1; cases h1
                  | succ n =>
                  by_cases hnm : ∃ y py, tg = .Name y py
                  · obtain ⟨y, py, rfl⟩ := hnm
                    simp only [cTg, Option.map_eq_some_iff] at h2
                    obtain ⟨i, h3, rfl⟩ := h2
                    have sv := swap_val (X := C.X) (el := el) (gs := gs) (scope := scope) (pos := pos) (py := py) (y := y) (l := p.line) G.kd
                    cases hsw : swapB C.X.env.scope y py scope pos with
                    | true =>
                      rw [hsw] at sv
                      have hloc : C.X.env.scope.names.lookup y = some .local := by
                        unfold swapB at hsw
                        simp only [Bool.and_eq_true, decide_eq_true_eq] at hsw
                        exact hsw.1.1
                      have hN : C.X.N[i]? = some y := by
                        unfold cTn at h3
                        split at h3
                        · rw [G.hN]; exact slot_ok h3
                        · cases h3
                      by_cases hg1 : ∃ tg it ifs, gs = [⟨tg, it, ifs, 0⟩]
                      · obtain ⟨tg, it, ifs, own, g, tt, te, rfl, bk, hg', ht', hel, i3, hz, tv, rd⟩ := c_lc (c_ok (M := M) (N := N) (hot := hot) n) G0 hg1 h1
                        exact s_asg (t := .n i) (ps_setLc (G.calm hz) (by rw [G.hN]; exact G.nd) hN hloc sv piU bk (fun s H Ca cl fp => hg' s H Ca cl fp) (fun s H Ca cl fp => ht' s H Ca cl fp) (fun s H Ca cl fp => hel s H Ca cl fp) (fold_no i3 _)) rd
                      · have h1' : cK M N hot n sc false el gs scope = some ee := by
                          simp only [cE] at h1
                          split at h1
                          · exact absurd ⟨_, _, _, rfl⟩ hg1
                          · exact h1
                        cases n with
                        | zero => simp only [cK] at h1'; cases h1'
                        | succ n =>
                        obtain ⟨tg, it, tg1, it1, ifs, ifs1, own, vs1, g, g1, tt, tt1, te, wi1, rfl, hz, bk, hv, b1, b2, b3, b4, b5, b6, b7, b8, b9, rd⟩ := c_lc2 (c_ok (M := M) (N := N) (hot := hot) n) G0 h1'
                        exact s_asg (t := .n i) (ps_setLc2 (G.calm hz) (by rw [G.hN]; exact G.nd) hN hloc sv piU bk hv (fun s H Ca cl fp => b1 s H Ca cl fp) (fun s H Ca cl fp => b2 s H Ca cl fp) (fun s H Ca cl fp => b3 s H Ca cl fp) (fun s H Ca cl fp => b4 s H Ca cl fp) (fun s H Ca cl fp => b5 s H Ca cl fp) (fun s H Ca cl fp => b6 s H Ca cl fp) (fold_no b7 _) (fun env => fold_no b8 env)) rd
                    | false =>
                      rw [hsw] at sv
                      exact s_asg (t := .n i) (ps_asg peU hg sv (stores_no htt' f2) f1) (he _ _ h1)
                  · have hso : swapsWithSole [tg] (.ListComp el gs scope pos) p.line C.X.env = pure false := by
                      cases tg <;> first | rfl | exact absurd ⟨_, _, rfl⟩ hnm
                    exact s_asg (ps_asg peU hg hso (stores_no htt' f2) f1) (he _ _ h1)
                · exact s_asg (ps_asg peU hg (sole_no (by simpa using hcp)) (stores_no htt' f2) f1) (he _ _ h1)
        · cases h
      case Expr e p =>
        simp only [cS] at h
        split at h
        · rename_i x m as hm
          obtain ⟨p1, p2, p3, rfl, hl⟩ := asMeth_some hm
          simp only [Option.bind_eq_some_iff] at h
          obtain ⟨i, h1, h2⟩ := h
          split at h2
          · rename_i hap
            subst hap
            split at h2
            · rename_i a
              split at h2
              · rename_i y m2 as2 hm2
                obtain ⟨p4, p5, p6, rfl, hl2⟩ := asMeth_some hm2
                split at h2
                · rename_i hpop
                  subst hpop
                  simp only [Option.bind_eq_some_iff, Option.map_eq_some_iff] at h2
                  obtain ⟨j, h3, k, h4, h5⟩ := h2
                  cases h5
                  exact s_appPop (cLocal_ok h1 G0 p1) (cLocal_ok h3 G0 p4) (cArg_ok h4 he) hl hl2
                · cases h2
              · split at h2
                · cases h2
                · rename_i hs
                  simp only [Option.map_eq_some_iff] at h2
                  obtain ⟨aa, h3, h4⟩ := h2
                  cases h4
                  exact s_app (cLocal_ok h1 G0 p1) (he _ _ h3) (by simpa using hs) hl
            · cases h2
          · split at h2
            · rename_i hin
              subst hin
              split at h2
              · rename_i a b
                split at h2
                · cases h2
                · rename_i hs
                  simp only [Option.bind_eq_some_iff, Option.map_eq_some_iff] at h2
                  obtain ⟨aa, h3, bb, h4, h5⟩ := h2
                  cases h5
                  have hs' : isStar a = false ∧ isStar b = false := by
                    cases ha : isStar a with
                    | true => exact absurd (.inl ha) hs
                    | false => cases hb : isStar b with
                      | true => exact absurd (.inr hb) hs
                      | false => exact ⟨rfl, rfl⟩
                  exact s_ins (cLocal_ok h1 G0 p1) (he _ _ h3) (he _ _ h4) hs'.2 hs'.1 hl
              · cases h2
            · cases h2
        · split at h
          · rename_i hc
            simp only [Option.map_eq_some_iff] at h
            obtain ⟨ee, h1, h2⟩ := h
            cases h2
            refine s_exp (he _ _ h1) (fun _ => trivial) (ps_expr peU ?_)
            cases e <;> first | rfl | cases hc
          · cases h
      case Return v p =>
        simp only [cS] at h
        split at h
        · rename_i e
          split at h
          · rename_i x q
            simp only [Option.map_eq_some_iff] at h
            obtain ⟨i, h1, h2⟩ := h
            cases h2
            exact s_retV (cLocal_ok h1 G0 q)
          · simp only [Option.map_eq_some_iff] at h
            obtain ⟨ee, h1, h2⟩ := h
            cases h2
            exact s_ret (he _ _ h1)
        · cases h; exact s_retN
      case If c a b p =>
        simp only [cS, Option.bind_eq_some_iff, Option.map_eq_some_iff] at h
        obtain ⟨cc, h1, aa, h2, bb, h3, h4⟩ := h
        cases h4
        exact s_ifs (ih.t sc c cc C h1 G0) (ih2 a aa C h2 G) (ih2 b bb C h3 G)
      case For tg it body els p =>
        simp only [cS] at h
        split at h
        · split at h
          · cases h
          · rename_i hh
            have hh : hot = false := by simpa using hh
            simp only [Option.bind_eq_some_iff] at h
            obtain ⟨t, h1, i, h2, h3⟩ := h
            split at h3
            · rename_i hen
              simp only [Option.map_eq_some_iff] at h3
              obtain ⟨b, h4, h5⟩ := h3
              cases h5
              obtain ⟨i1, i2, i3⟩ := ih.i sc it i C tg h2 G0 hen
              exact s_frs G.pw (G.calm hh) i2 (tg_any h1 G (.inl hh)) (fold_no i3 _) (ih2 body b C h4 G)
            · cases h3
        · cases h
      case While c body els p =>
        simp only [cS] at h
        split at h
        · simp only [Option.bind_eq_some_iff, Option.map_eq_some_iff] at h
          obtain ⟨cc, h1, b, h3, h4⟩ := h
          cases h4
          exact s_whl G.pw (ih.t sc c cc C h1 G0) (ih2 body b C h3 G)
        · cases h
      case Raise e c p =>
        simp only [cS] at h
        split at h
        · rename_i x p1 as p2
          split at h
          · rename_i hcc
            obtain ⟨c1, c2, c3⟩ := hcc
            cases as with
            | nil =>
              simp only [List.isEmpty_nil, if_true, Option.map_eq_some_iff] at h
              obtain ⟨cc, h1, h3⟩ := h
              cases h3
              exact s_rse0 (G.calm c1) G.tk (G.rs0 x cc c1 h1) (G.gl c2) (beq_no c3)
            | cons a0 ar =>
              simp only [List.isEmpty_cons, Bool.false_eq_true, if_false, Option.bind_eq_some_iff, Option.map_eq_some_iff] at h
              obtain ⟨f, h1, es, h2, h3⟩ := h
              cases h3
              obtain ⟨a1, a2⟩ := cMany_a he h2
              exact s_rse (G.calm c1) G.tk (G.rss x f c1 h1) (G.gl c2) (beq_no c3) a2 a1
          · cases h
        · cases h
      case Try body hs els fin p =>
        simp only [cS] at h
        split at h
        · split at h
          · rename_i x nm suite hfh
            split at h
            · rename_i hcc
              obtain ⟨c1, c2, c3, c4, c5⟩ := hcc
              simp only [Option.bind_eq_some_iff, Option.map_eq_some_iff] at h
              obtain ⟨cs, h1, i, h2, b, h3, s', h4, h5⟩ := h
              cases h5
              obtain ⟨np, pos', b0, su, rfl, rfl⟩ := fhd_some hfh
              subst c1
              obtain ⟨hc, q1, q2, n2⟩ := G.hds x cs rfl h1
              have n1 : Names C.X x hc := ⟨G.toGood.gl c5, q1, q2⟩
              have hln : C.X.env.kindOf nm = some .local := by unfold PySem.Env.kindOf; rw [G.hsc]; exact c2
              exact s_tre (G.hst rfl) (G.hfr rfl) (by rw [G.hN]; exact G.nd) (by rw [G.hN]; exact slot_ok h2) hln n1 G.tk n2 (fun W pn xe tk pw => ih2 body b _ h3 (G.tr tk pw)) fun a oe cls d pn hz hf => (s_ok n (M.hot nm) true).2 _ s' _ h4 (G.toHot c2 c3 c4 hz hf)
            · cases h
          · cases h
        · cases h
      case Pass p => simp only [cS] at h; cases h; exact s_pas
      case Break p => simp only [cS] at h; cases h; exact s_brk
      case Continue p => simp only [cS] at h; cases h; exact s_cnt
      all_goals (simp only [cS] at h; cases h)
    · simp only [cSs] at h
      split at h
      · cases h; exact ss_nil
      · rename_i st rest
        simp only [Option.bind_eq_some_iff, Option.map_eq_some_iff] at h
        obtain ⟨⟨is, s⟩, h1, ss', h2, rfl⟩ := h
        refine ss_pre ?_ is
        have hh := ss_cons (ih1 st is s C h1 G) (ih2 rest ss' C h2 G)
        unfold kuIf
        split
        · exact s_ku (st := st) hh
        · exact hh
/-- a tail that is not run -/
def stkS : Sms := .cons (.exp (.neg (.c (.lst [])))) .nil
theorem stk_none {Φ : Fns} {ε : Env} : execsD Φ stkS ε = none := by
  have e : execD Φ (.exp (.neg (.c (.lst [])))) ε = none := by
    simp only [execD, evalD]
    rfl
  simp only [stkS, execsD, e]
  rfl
/-- a body as far as it compiles -/
def cSsH (M : Mo) (N : List Str) (sc : Scope) (n : Nat) : List Stmt → Option Sms
  | [] => some .nil
  | st :: rest => match cS M N sc true n st with
    | some (is, s) => (cSsH M N sc n rest).map fun ss => pre is (.cons s ss)
    | none => some stkS
theorem sH_ok {n : Nat} : ∀ (sts : List Stmt) (ss : Sms), cSsH M N sc n sts = some ss → GoodS M N true sc C → RSs C sts ss
  | [], ss, h, G => by cases h; exact ss_nil
  | st :: rest, ss, h, G => by
    unfold cSsH at h
    split at h
    · rename_i is s h1
      simp only [Option.map_eq_some_iff] at h
      obtain ⟨ss', h2, rfl⟩ := h
      exact ss_pre (ss_cons ((s_ok n M true).1 st is s C h1 G) (sH_ok rest ss' h2 G)) is
    · cases h
      intro ε o h
      rw [stk_none] at h; cases h
end
end EG
namespace EG
open PySem PySem.Spec PyProof.Rows L2 L2H
section
variable {P : Program} {w : World} {G : Gt} {mg : Str → Option Value} {base : Heap}
theorem env_slots {Hi H H0 : Hp} {xp : Xp} (e0 : Ex H0 H) : ∀ {as : List Vl} {vs : List V} (m : Nat), ArgsOk G Hi H0 as vs → ∀ (i : Nat) (r : Option Vl) (v : Option V), (as.map some ++ List.replicate m none)[i]? = some r → (vs.map some ++ List.replicate m none)[i]? = some v →
      SlOk G xp H0 Hi H [] r v := by
  intro as
  induction as with
  | nil =>
    intro vs m h i r v h1 h2
    cases (show vs = [] from h)
    simp only [List.map_nil, List.nil_append, List.getElem?_replicate] at h1
    split at h1
    · cases h1; exact rfl
    · cases h1
  | cons a as ih =>
    intro vs m h i r v h1 h2
    obtain ⟨x, ys, rfl, h3, h4⟩ := h
    cases i with
    | zero =>
      simp at h1 h2
      subst h1 h2
      match a, h3 with
      | .sh d, h3 => exact ⟨rfl, x, rfl, h3⟩
      | .bo n d, h3 => exact ⟨rfl, x, rfl, h3⟩
    | succ i => exact ih m h4 i r v (by simpa using h1) (by simpa using h2)
theorem env_start {Hi H : Hp} {xp : Xp} (e : Ex Hi H) {as : List Vl} {vs : List V} (m : Nat) (h : ArgsOk G Hi H as vs) : EnvOk G xp Hi H Hi H (vs.map some ++ List.replicate m none) (as.map some ++ List.replicate m none) :=
  ⟨Step.refl e, by simp [h.length], fun _ => [], fun i r v h1 h2 => env_slots (Evl.Ex.refl _) m h i r v h1 h2, (fun _ _ _ _ z _ => nomatch z), fun _ _ => rfl⟩
theorem FnE.mono {K : PySem.W.Frag} {hot : Bool} {j k : Nat} {f : Addr} {fd : FuncData} {ps : List Str} {sp : Sp} (F : FnE P w K mg base hot j f fd ps sp) (h : j ≤ k) : FnE P w K mg base hot k f fd ps sp := ⟨F.len, fun A outer s H args us vs Q E hr => F.run A outer s H args us vs Q E (hr.mono h)⟩
theorem FnE.imp {K : PySem.W.Frag} {hot : Bool} {k : Nat} {f : Addr} {fd : FuncData} {ps : List Str} {sp sp' : Sp} (F : FnE P w K mg base hot k f fd ps sp) (h : ∀ vs H Q E, sp' vs H Q E → sp vs H Q E) : FnE P w K mg base hot k f fd ps sp' :=
  ⟨fun vs H Q E q => F.len vs H Q E (h _ _ _ _ q), fun A outer s H args us vs Q E hr hh he hb hv hs => F.run A outer s H args us vs Q E hr hh he hb hv (h _ _ _ _ hs)⟩
/-- isinstance(x, T), T an own class: what the module says -/
structure IsK (G : Gt) (mg : Str → Option Value) (al : List Nat) (c : Nat) (t : Str) : Prop where
  m : mg t = some (.ref (G.cl c))
  ob : ∀ c', al.contains c' = true → InsK G.K (G.cl c') ∧ PySem.W.kitOne G.K (.ref (G.cl c')) (.ref (G.cl c)) = some (decide (c' = c))
  no : ∀ n ∈ ["NoneType", "bool", "int", "str", "list", "tuple", "dict"], PySem.W.kitOne G.K (.type n) (.ref (G.cl c)) = some false
/-- an own error without an __init__ of its own -/
structure RsK (G : Gt) (mg : Str → Option Value) (c : Nat) (x : Str) : Prop where
  g : mg x = some (.ref (G.cl c))
  e : PySem.W.excIn G.K (G.cl c) [.type "ValueError", .type "Exception", .type "BaseException", .type "object"] "ValueError.__new__" = true
  k : PySem.W.keepIn G.K (.ref (G.cl c)) = true
  b : PySem.W.subIn G.K (.ref (G.cl c)) (.type "BaseException") = some true
  t : PySem.W.typeIn G.K (.ref (G.cl c)) = some (.type "type")
/-- what is known of the names of the module, for calls with k levels of room -/
structure Kn (P : Program) (w : World) (G : Gt) (mg : Str → Option Value) (base : Heap) (M : Mo) (Φ : Fns) (k : Nat) : Prop where
  bn : ∀ x, M.bn.contains x = true → mg x = none
  gc : ∀ x, M.gc.contains x = true → mg x = some (.builtin "math.gcd")
  fs : ∀ x f, slot M.fs x = some f → ∃ (fa : Addr) (fd : FuncData) (ps : List Str), mg x = some (.ref fa) ∧ PySem.W.keepIn G.K (.ref fa) = true ∧ Binds G.K fd ps [] ∧ FnE P w G.K mg base false k fa fd ps (spD G (Φ.call f) ps.length) ∧ (∀ as o, Φ.call f as = some o → as.length = ps.length) ∧ ∀ as r, Φ.call f as = some (.ok r) → ∀ m d, r ≠ .bo m d
  nw : ∀ x f, M.nw.lookup x = some f → ∃ (c : Nat) (fa : Addr) (fd : FuncData) (ps : List Str), mg x = some (.ref (G.cl c)) ∧ Mk G.K (G.cl c) fa ∧ Binds G.K fd ps [] ∧ FnE P w G.K mg base false k fa fd ps (spI G (Φ.call f) c ps.length) ∧ (∀ as o, Φ.call f as = some o → as.length + 1 = ps.length) ∧ ∀ as r, Φ.call f as = some (.ok r) → ∃ d, r = .sh d
  me : ∀ m c f, M.me.contains m = true → Φ.meth c m = some f → Cls G.K (G.cl c) ∧ ∃ (fa : Addr) (fd : FuncData) (ps : List Str), Meth G.K (G.cl c) m fa ∧ Binds G.K fd ps [] ∧ FnE P w G.K mg base false k fa fd ps (spD G (Φ.call f) ps.length) ∧ (∀ as o, Φ.call f as = some o → as.length = ps.length) ∧ ∀ as r, Φ.call f as = some (.ok r) → ∀ m d, r ≠ .bo m d
  fl : ∀ f c, M.fl.contains f = true → M.al.contains c = true → Cls G.K (G.cl c) ∧ NoAttr G.K (G.cl c) f
  hn : M.hn = none
  ics : ∀ t c, M.ic.lookup t = some c → IsK G mg M.al c t
  oq : M.oq ≠ [] → M.me.contains "__eq__" = true ∧ ∀ c f, Φ.meth c "__eq__" = some f → InsK G.K (G.cl c) ∧ ∀ n ∈ ["NoneType", "bool", "int", "str", "list", "tuple"], PySem.W.notFirst G.K (G.cl c) (.type n) = true
  oa : M.oa ≠ [] → M.me.contains "__add__" = true ∧ ∀ c f, Φ.meth c "__add__" = some f → InsK G.K (G.cl c) ∧ PySem.W.selfFirst G.K (G.cl c) = true
  cv : M.cv = true → M.me.contains "__call__" = true ∧ ∀ c f, Φ.meth c "__call__" = some f → ∀ fa : Addr, PySem.W.findIn G.K (.ref (G.cl c)) "__call__" = some (some (.ref fa)) → PySem.W.fnIn G.K fa = true
  hds : ∀ x cs, M.hd.lookup x = some cs → ∃ hc, (x == ("__debug__" : Str)) = false ∧ (mg x = some hc ∨ (mg x = none ∧ bootBuiltins x = some hc ∧ x ≠ "__name__")) ∧ ∀ c, cs.contains c = true → PySem.W.exmOne G.K (.ref (G.cl c)) hc = some true
  xfs : ∀ f c, M.xf.contains f = true → M.ec.contains c = true → XfC G.K (G.cl c) ∧ PySem.W.findIn G.K (.ref (G.cl c)) f = some none
  xis : ∀ t cs, M.et.lookup t = some cs → ∃ (tv : V) (cv : Value), ((mg t = some cv) ∨ (mg t = none ∧ bootBuiltins t = some cv ∧ t ≠ "__name__")) ∧ (t == ("__debug__" : Str)) = false ∧ RelV tv cv ∧ (∀ u, RelV tv u → u = cv) ∧
    ∀ c, M.ec.contains c = true → IsX G.K (G.cl c) ∧ PySem.W.kitOne G.K (.ref (G.cl c)) cv = some (cs.contains c)
  er : ∀ x f, M.er.lookup x = some f → ∃ (c : Nat) (fI : Addr) (fd : FuncData) (ps : List Str) (fs : List (Str × Nat)), mg x = some (.ref (G.cl c)) ∧ OexC G.K (G.cl c) ∧ PySem.W.findIn G.K (.ref (G.cl c)) "__init__" = some (some (.ref fI)) ∧ PySem.W.typeIn G.K (.ref fI) = some (.type "function") ∧
    FnOk P w G.K mg base (L2.CX P w) 1 fI fd ps (spX (G.cl c) fs ps.length) ∧ Binds G.K fd ps [] ∧ ∀ as o, Φ.call f as = some o → as.length + 1 = ps.length ∧ as.length ≤ 1000 ∧ ∃ ns xs, putE (none :: as.map Vl.keep) fs [] [] = some (ns, xs) ∧ o = .er c ns xs
  er0 : ∀ x c, M.er0.lookup x = some c → RsK G mg c x
  hfs : ∀ x f, M.hnw.lookup x = some f → ∃ (fa : Addr) (fd : FuncData) (ps : List Str), mg x = some (.ref fa) ∧ PySem.W.keepIn G.K (.ref fa) = true ∧ Binds G.K fd ps [] ∧ FnE P w G.K mg base true k fa fd ps (spD G (Φ.call f) ps.length) ∧ (∀ as o, Φ.call f as = some o → as.length = ps.length) ∧ ∀ as r, Φ.call f as = some (.ok r) → ∀ m d, r ≠ .bo m d
  li : M.lp ≠ [] → ∀ c, M.lc.contains c = true → ∃ (fi : Addr) (fd : FuncData) (ps : List Str), ItT G.K (G.cl c) fi ∧ FnE P w G.K mg base false 1 fi fd ps (spIt (G.cl c) M.lf) ∧ Binds G.K fd ps []
  gk : ∀ x s, M.gk.lookup x = some s → ∃ u, mg x = some u ∧ RelV (.str s) u
/-- the context of a def's body -/
def ctxOf (P : Program) (w : World) (G : Gt) (mg : Str → Option Value) (base : Heap) (N : List Str) (qual : Str) (sc : Scope) (f : Addr) (cdv : Value) (A : Around) (outer : List PySem.Env) (s : Shared) (H : Hp) (E : XK) (Φ : Fns) (xp : Xp) : Ctx :=
  ⟨cxOf (CX P w) P w G.K mg base N qual sc f cdv A outer s H E, G, fun cls d _ H => E cls d H, xp, Φ⟩
theorem Kn.good {M : Mo} {Φ : Fns} {k : Nat} (kn : Kn P w G mg base M Φ k) {N ps : List Str} {qual : Str} {sc : Scope} {f_ : Addr} {cdv : Value} {A : Around} {outer : List PySem.Env} {s : Shared} {H : Hp} {E : XK} {xp : Xp} (S : FnScope N ps sc) (hh : A.handled = none) (hr : RoomE (k + 2) (A.deeper (PyProof.Rows.envOfC qual sc s.heap.objs.size f_ cdv))) :
    GoodS M N false sc (ctxOf P w G mg base N qual sc f_ cdv A outer s H E Φ xp) := by
  have hr0 := hr.mono (j := k) (by omega)
  have hr1 := hr.mono (j := k + 1) (by omega)
  have hmes : ∀ m c f, M.me.contains m = true → Φ.meth c m = some f → MeI (ctxOf P w G mg base N qual sc f_ cdv A outer s H E Φ xp) false c m (Φ.call f) := fun m c f h1 h2 => by
    obtain ⟨cl, fa, fd, ps, e1, e2, e3, e4, e5⟩ := kn.me m c f h1 h2
    exact ⟨cl, k, fa, fd, ps, e1, e2, hr0, e3, e4, e5⟩
  refine ⟨⟨rfl, S.nd, rfl, rfl, fun _ => rfl, fun _ => calm_hot rfl, hr.gd, ?_, takes_of rfl rfl rfl rfl, kn.bn, kn.gc, fun x f h => ?_, fun x f _ h => ?_, hmes, kn.fl, fun _ => kn.hn, (fun t c h => ⟨(kn.ics t c h).m, (kn.ics t c h).ob, (kn.ics t c h).no⟩), (fun c f h1 h2 => ⟨hmes _ c f (kn.oq h1).1 h2, ((kn.oq h1).2 c f h2).1, (fun z => nomatch z), fun _ => ((kn.oq h1).2 c f h2).2⟩), (fun c f h1 h2 => ⟨hmes _ c f (kn.oa h1).1 h2, ((kn.oa h1).2 c f h2).1, (fun _ => ((kn.oa h1).2 c f h2).2), (fun z => nomatch z)⟩), (fun c f h1 h2 => ⟨hmes _ c f (kn.cv h1).1 h2, (kn.cv h1).2 c f h2⟩), fun n f p pos i h => absurd (h.symm.trans kn.hn) (by simp), fun n t cs p p1 p2 pos i h => absurd (h.symm.trans kn.hn) (by simp), (fun c h0 h1 h2 => by
    obtain ⟨fi, fd, ps, e1, e2, e3⟩ := kn.li h1 c h2
    exact ⟨1, fi, fd, ps, e1, hr.mono (by omega), e2, e3⟩), kn.gk, fun x f h => nomatch h⟩, passes_of rfl, fun _ => rfl, S.kind, fun x f _ h => ?_, (fun x c _ h => ⟨(kn.er0 x c h).g, (kn.er0 x c h).e, (kn.er0 x c h).k, (kn.er0 x c h).b, (kn.er0 x c h).t⟩), fun _ => rfl, fun _ => rfl, fun x cs _ h => kn.hds x cs h, kn.xfs, kn.xis, fun x f _ h => ?_⟩
  · have := hr.un
    show (A.deeper _).units + 65 < cLine
    omega
  · obtain ⟨fa, fd, ps, e1, e2, e3, e4, e5, e6⟩ := kn.fs x f h
    exact ⟨k, fa, fd, ps, e1, e2, e3, hr0, e4, e5, e6⟩
  · obtain ⟨c, fa, fd, ps, e1, e2, e3, e4, e5, e6⟩ := kn.nw x f h
    exact ⟨k, c, fa, fd, ps, e1, e2, e3, hr1, e4, e5, e6⟩
  · obtain ⟨c, fI, fd, ps, fs, e1, e2, e3, e4, e5, e6, e7⟩ := kn.er x f h
    have hr2 := hr.mono (j := 2) (by omega)
    exact ⟨1, c, fI, fd, ps, fs, e1, e2, e3, e4, e5, ⟨hh, hr2.dp, hr2.un⟩, e6, e7⟩
  · obtain ⟨fa, fd, ps, e1, e2, e3, e4, e5, e6⟩ := kn.hfs x f h
    exact ⟨k, fa, fd, ps, e1, e2, e3, hr0, e4, e5, e6⟩
/-- the context of a def's body, called where an exception is handled -/
def ctxHf (P : Program) (w : World) (G : Gt) (mg : Str → Option Value) (base : Heap) (N : List Str) (qual : Str) (sc : Scope) (f : Addr) (cdv : Value) (A : Around) (outer : List PySem.Env) (s : Shared) (H : Hp) (E : XK) (p : Addr × Obj) (Φ : Fns) : Ctx :=
  ⟨cxH (CX P w) P w G.K mg base N qual sc f cdv A outer s H E p, G, fun cls d _ H => E cls d H, none, Φ⟩
theorem Kn.bare {M : Mo} {Φ : Fns} {k : Nat} (kn : Kn P w G mg base M Φ k) {C : Ctx} {N : List Str} {sc : Scope} (hN : C.X.N = N) (nd : N.Nodup) (hsc : C.X.env.scope = sc) (hK : C.X.K = C.G.K) (hG : C.G = G) (hmg : C.X.mg = mg) (gd : C.X.A.guards = some []) (un : C.X.A.units + 65 < cLine) (tk : Takes C.X C.W)
    (pw : PassesOwn (model C.X.prog C.X.w) C.X.A C.X.env C.X.xe) (hf : ∀ x, C.X.fn x = true) (kd : C.X.env.scope.kind = .function) : GoodS M.bare N true sc C := by
  subst hG hmg
  refine ⟨⟨hN, nd, hsc, hK, (fun z => nomatch z), (fun z => ?_), gd, un, tk, kn.bn, (fun x h => nomatch h), (fun x f h => nomatch h), (fun x f h0 h => nomatch h0), (fun m c f h1 h2 => nomatch h1), (fun f c h1 h2 => by rw [hK]; exact kn.fl f c h1 h2), (fun z => nomatch z), (fun t c h => ⟨(kn.ics t c h).m, (by rw [hK]; exact (kn.ics t c h).ob), (by rw [hK]; exact (kn.ics t c h).no)⟩), (fun c f h1 h2 => absurd rfl h1), (fun c f h1 h2 => absurd rfl h1), (fun c f h1 h2 => nomatch h1), (fun n f p pos i h => nomatch h), (fun n t cs p p1 p2 pos i h => nomatch h), (fun c h0 => nomatch h0), kn.gk, (fun x f _ h => nomatch h)⟩, pw, hf, kd, (fun x f h0 h => nomatch h0), (fun x f h0 h => nomatch h0), (fun h0 => nomatch h0), (fun h0 => nomatch h0), (fun x cs h0 h => nomatch h0), (by rw [hK]; exact kn.xfs), (by rw [hK]; exact kn.xis), (fun x f h0 h => nomatch h0)⟩
  rcases z with z | z | z | z | z | z
  · cases z
  · exact absurd rfl z
  · exact absurd rfl z
  · exact absurd rfl z
  · exact absurd rfl z
  · cases z
/-- a def of the text keeps the promise of its small program -/
theorem def_ok {M : Mo} {Φ : Fns} {x qual : Str} {st : Stmt} {f : Addr} {fd : FuncData} {N ps : List Str} {k n : Nat} {body : Sms} (kn : Kn P w G mg base M Φ k) (F : Fun G.K x qual st f fd) (S : FnScope N ps (defScope st)) (hc : cSs M N (defScope st) false n (defBody st) = some body) :
    FnE P w G.K mg base false (k + 3) f fd ps (spD G (runD Φ (.fn ps.length N.length body)) ps.length) := by
  obtain ⟨oc, od, kV, doc, pm, an, cdv, ct, osl, rfl, lk, hcd⟩ := F.ex
  refine fnE_of lk hcd S (fun vs H Q E h => h.1) fun A outer s H vs Q E hh hr h => ⟨_, psU, ?_⟩
  obtain ⟨hl, Hi, as, r, h1, h2, h3, h4⟩ := h
  have GS := kn.good (H := H) (E := E) (outer := outer) (xp := none) S hh hr
  simp only [runD] at h1
  split at h1
  · simp only [Option.bind_eq_some_iff] at h1
    obtain ⟨o, h5, h6⟩ := h1
    have el : as.length = vs.length := h3.length
    have I := env_start (xp := none) h2 (N.length - vs.length) h3
    have hR := (s_ok (N := N) (sc := defScope st) n M false).2 (defBody st) body _ hc GS
    rw [el] at h5
    refine hR _ o h5 Hi H Hi H (L2.start N vs) _ I ?_
    cases o with
    | rt r' =>
      obtain ⟨q, h7, rfl⟩ := rl_some h6
      obtain ⟨rfl, _⟩ := retD_some h7
      exact fun Hi' H' y s o => h4 Hi' H' y s o
    | nx ε => cases rp_some h6; exact fun Hi' H' σ' _ I' => h4 Hi' H' _ I'.st rfl
    | bk ε => cases h6
    | ct ε => cases h6
    | er c ns ds ε => cases h6; exact fun Hi' H' σ' cls d _ I' x => h4 Hi' H' cls d I'.st x
  · cases h1
/-- a def that is called in an except suite, too -/
theorem hot_ok {M : Mo} {Φ : Fns} {x qual : Str} {st : Stmt} {f : Addr} {fd : FuncData} {N ps : List Str} {k n : Nat} {body : Sms} (kn : Kn P w G mg base M Φ k) (F : Fun G.K x qual st f fd) (S : FnScope N ps (defScope st)) (hc : cSsH M.bare N (defScope st) n (defBody st) = some body) :
    FnE P w G.K mg base true (k + 3) f fd ps (spD G (runD Φ (.fn ps.length N.length body)) ps.length) := by
  obtain ⟨oc, od, kV, doc, pm, an, cdv, ct, osl, rfl, lk, hcd⟩ := F.ex
  have key : ∀ (C : Ctx) (vs : List V) (H : Hp) (Q : VK) (E : XK), C.Φ = Φ → C.G = G → C.W = (fun cls d _ H => E cls d H) → C.xp = none → GoodS M.bare N true (defScope st) C → spD G (runD Φ (.fn ps.length N.length body)) ps.length vs H Q E → sU C.X (defBody st) { nx := fun x H' => Q V.non H', rt := Q } (L2.start N vs) H := fun C vs H Q E e1 e2 e3 e4 GS h => by
    obtain ⟨hl, Hi, as, r, h1, h2, h3, h4⟩ := h
    simp only [runD] at h1
    split at h1
    · simp only [Option.bind_eq_some_iff] at h1
      obtain ⟨o, h5, h6⟩ := h1
      have el : as.length = vs.length := h3.length
      have I := env_start (xp := none) h2 (N.length - vs.length) h3
      have hR := sH_ok (defBody st) body hc GS
      rw [el] at h5
      refine hR _ o (by rw [e1]; exact h5) Hi H Hi H (L2.start N vs) _ (by rw [e2, e4]; exact I) ?_
      cases o with
      | rt r' =>
        obtain ⟨q, h7, rfl⟩ := rl_some h6
        obtain ⟨rfl, _⟩ := retD_some h7
        intro Hi' H' y s o
        exact h4 Hi' H' y s (by rw [← e2]; exact o)
      | nx ε =>
        cases rp_some h6
        intro Hi' H' σ' _ I'
        rw [e2] at I'
        exact h4 Hi' H' _ I'.st rfl
      | bk ε => cases h6
      | ct ε => cases h6
      | er c ns ds ε =>
        cases h6
        intro Hi' H' σ' cls d _ I' x
        rw [e3]
        rw [e2] at I' x
        exact h4 Hi' H' cls d I'.st x
    · cases h1
  refine fnE_ofH lk hcd S (fun vs H Q E h => h.1) (fun A outer s H vs Q E hh hr h => ⟨_, psU, ?_⟩) fun A outer s H vs Q E p hr h => ⟨_, psU, ?_⟩
  · refine key (ctxOf P w G mg base N qual (defScope st) f cdv A outer s H E Φ none) vs H Q E rfl rfl rfl rfl (kn.bare rfl S.nd rfl rfl rfl rfl hr.gd ?_ (takes_of rfl rfl rfl rfl) (passes_of rfl) (fun _ => rfl) S.kind) h
    have := hr.un
    show (A.deeper _).units + 65 < cLine
    omega
  · refine key (ctxHf P w G mg base N qual (defScope st) f cdv A outer s H E p Φ) vs H Q E rfl rfl rfl rfl (kn.bare rfl S.nd rfl rfl rfl rfl hr.gd ?_ (takes_of rfl rfl rfl rfl) (passes_of rfl) (fun _ => rfl) S.kind) h
    have := hr.un
    show (A.deeper _).units + 65 < cLine
    omega
/-- an __init__ keeps the promise of its small program -/
theorem ini_ok {M : Mo} {Φ : Fns} {x qual : Str} {st : Stmt} {f : Addr} {fd : FuncData} {N ps : List Str} {k n c : Nat} {body : Sms} (kn : Kn P w G mg base M Φ k) (F : Fun G.K x qual st f fd) (S : FnScope N ps (defScope st)) (hc : cSs M N (defScope st) false n (defBody st) = some body) :
    FnE P w G.K mg base false (k + 3) f fd ps (spI G (runD Φ (.ini c ps.length N.length body)) c ps.length) := by
  obtain ⟨oc, od, kV, doc, pm, an, cdv, ct, osl, rfl, lk, hcd⟩ := F.ex
  refine fnE_of lk hcd S (fun vs H Q E h => h.1) fun A outer s H vs Q E hh hr h => ⟨_, psU, ?_⟩
  obtain ⟨hl, a, dx, vs', Hi, H1, as, r, hv, hH, ha, hdx, hne, h1, h2, h3, h4⟩ := h
  have GS := kn.good (H := H) (E := E) (outer := outer) (xp := some (a, .none, none)) S hh hr
  simp only [runD] at h1
  split at h1
  · simp only [Option.bind_eq_some_iff] at h1
    obtain ⟨o, h5, h6⟩ := h1
    have el : as.length = vs'.length := h3.length
    have hxa : upd H1 dx (.own a) a = none := by rw [upd_ne (Ne.symm hne)]; exact ha
    have st1 : Step Hi H1 Hi H := by
      rw [hH]
      exact (Step.own h2 hdx).trans (Step.own (h2.trans (Evl.Ex.new hdx)) hxa)
    have hHa : H a = some (.ins (G.cl c) dx []) := by rw [hH, upd_same]
    have hHd : H dx = some (.own a) := by rw [hH, upd_ne hne, upd_same]
    have I : EnvOk G (some (a, .none, none)) Hi H1 Hi H (L2.start N vs) (some (.no c [] []) :: (as.map some ++ List.replicate (N.length - (as.length + 1)) none)) := by
      rw [hv]
      show EnvOk G (some (a, .none, none)) Hi H1 Hi H (some (.ref a) :: (vs'.map some ++ List.replicate (N.length - (vs'.length + 1)) none)) _
      rw [el]
      refine ⟨st1, by simp [el], fun i => if i = 0 then [a, dx] else [], fun i r v e1 e2 => ?_, fun i j p hij h1 h2 => ?_, fun i hi => ?_⟩
      · cases i with
        | zero =>
          simp at e1 e2
          subst e1 e2
          exact ⟨a, dx, [], rfl, rfl, Ne.symm hne, hHa, hHd, rfl, rfl, Evl.fresh_back h2 ha, Evl.fresh_back h2 hdx, ha, hdx, _, _, rfl⟩
        | succ i => exact env_slots st1.h _ h3 i r v (by simpa using e1) (by simpa using e2)
      · simp only at h1 h2
        by_cases z : i = 0
        · by_cases z2 : j = 0
          · exact absurd (z.trans z2.symm) hij
          · rw [if_neg z2] at h2; cases h2
        · rw [if_neg z] at h1; cases h1
      · simp only
        rw [if_neg]
        simp at hi; omega
    have hR := (s_ok (N := N) (sc := defScope st) n M false).2 (defBody st) body _ hc GS
    refine hR _ o h5 Hi H1 Hi H (L2.start N vs) _ I ?_
    cases o with
    | rt r' => cases h6
    | nx ε =>
      obtain ⟨⟨c', ns, ds⟩, h7, h8⟩ := rbl_some h6
      cases rp_some h8
      refine fun Hi' H' σ' _ I' => ?_
      unfold newD at h7
      split at h7
      · rename_i c2 ns2 ds2 hg
        split at h7
        case isFalse => cases h7
        case isTrue hun =>
        cases h7
        obtain ⟨v, fp, e1, p, dx', vs2, e2, e3, e4, e5, e6, e7, e8, e9, e10, e11, e12, _, _, e13⟩ := I'.at hg
        cases e13
        have hin : ∀ q ∈ [a, dx'], H1 q = none ∧ Hi' q = none := by
          intro q hq
          rcases List.mem_cons.mp hq with rfl | hq
          · exact ⟨e11, e9⟩
          · rcases List.mem_cons.mp hq with rfl | hq
            · exact ⟨e12, e10⟩
            · cases hq
        have ex := shareH_ex (H := H') fun q hq => (hin q hq).2
        refine h4 (shareH Hi' H' [a, dx']) H' (I'.st.share (fun q hq => (hin q hq).1) fun q hq => (hin q hq).2) ?_
        exact ⟨a, dx', vs2, rfl, by rw [shareH_in List.mem_cons_self]; exact e5, e7, RepL.mono ex _ _ e8⟩
      · cases h7
    | bk ε => cases h6
    | ct ε => cases h6
    | er c ns ds ε => cases h6; exact fun Hi' H' σ' cls d _ I' x => h4 Hi' H' cls d I'.st x
  · cases h1
end
end EG
namespace EG
open PySem PySem.Spec PyProof.Rows L2 L2H
/-! ### a table of defs -/
inductive Kd where
  | fn | ini (c : Nat) | err (c : Nat) (fs : List (Str × Nat)) | hot
structure Ent where
  x : Str
  q : Str
  st : Stmt
  N : List Str
  ps : List Str
  body : Sms
  kd : Kd := .fn
def Ent.df (e : Ent) : Df := match e.kd with
  | .fn => .fn e.ps.length e.N.length e.body
  | .ini c => .ini c e.ps.length e.N.length e.body
  | .err c fs => .err c e.ps.length fs
  | .hot => .fn e.ps.length e.N.length e.body
def Kd.isHot : Kd → Bool
  | .hot => true
  | _ => false
structure EntOk (M : Mo) (e : Ent) : Prop where
  S : (∀ c fs, e.kd ≠ .err c fs) → FnScope e.N e.ps (defScope e.st)
  c : (∀ c fs, e.kd ≠ .err c fs) → ∃ n, (if e.kd.isHot = true then cSsH M.bare e.N (defScope e.st) n (defBody e.st) else cSs M e.N (defScope e.st) false n (defBody e.st)) = some e.body
structure EntAt (K : PySem.W.Frag) (e : Ent) (fa : Addr) : Prop where
  ex : ∃ fd : FuncData, Fun K e.x e.q e.st fa fd ∧ Binds K fd e.ps []
structure TabAt (P : Program) (G : Gt) (mg : Str → Option Value) (M : Mo) (tab : List Ent) (μ : Nat → Str → Option Nat) : Prop where
  ok : ∀ e ∈ tab, EntOk M e
  bn : ∀ x, M.bn.contains x = true → mg x = none
  gc : ∀ x, M.gc.contains x = true → mg x = some (.builtin "math.gcd")
  fs : ∀ x f, slot M.fs x = some f → ∃ e fa, tab[f]? = some e ∧ e.kd = .fn ∧ mg x = some (.ref fa) ∧ EntAt G.K e fa
  nw : ∀ x f, M.nw.lookup x = some f → ∃ e c fa, tab[f]? = some e ∧ e.kd = .ini c ∧ mg x = some (.ref (G.cl c)) ∧ Mk G.K (G.cl c) fa ∧ EntAt G.K e fa
  me : ∀ m c f, M.me.contains m = true → μ c m = some f → ∃ e fa, tab[f]? = some e ∧ e.kd = .fn ∧ Cls G.K (G.cl c) ∧ Meth G.K (G.cl c) m fa ∧ EntAt G.K e fa
  fl : ∀ f c, M.fl.contains f = true → M.al.contains c = true → Cls G.K (G.cl c) ∧ NoAttr G.K (G.cl c) f
  hn : M.hn = none
  ics : ∀ t c, M.ic.lookup t = some c → IsK G mg M.al c t
  oq : M.oq ≠ [] → M.me.contains "__eq__" = true ∧ ∀ c f, μ c "__eq__" = some f → InsK G.K (G.cl c) ∧ ∀ n ∈ ["NoneType", "bool", "int", "str", "list", "tuple"], PySem.W.notFirst G.K (G.cl c) (.type n) = true
  oa : M.oa ≠ [] → M.me.contains "__add__" = true ∧ ∀ c f, μ c "__add__" = some f → InsK G.K (G.cl c) ∧ PySem.W.selfFirst G.K (G.cl c) = true
  cv : M.cv = true → M.me.contains "__call__" = true ∧ ∀ c f, μ c "__call__" = some f → ∀ fa : Addr, PySem.W.findIn G.K (.ref (G.cl c)) "__call__" = some (some (.ref fa)) → PySem.W.fnIn G.K fa = true
  hds : ∀ x cs, M.hd.lookup x = some cs → ∃ hc, (x == ("__debug__" : Str)) = false ∧ (mg x = some hc ∨ (mg x = none ∧ bootBuiltins x = some hc ∧ x ≠ "__name__")) ∧ ∀ c, cs.contains c = true → PySem.W.exmOne G.K (.ref (G.cl c)) hc = some true
  xfs : ∀ f c, M.xf.contains f = true → M.ec.contains c = true → XfC G.K (G.cl c) ∧ PySem.W.findIn G.K (.ref (G.cl c)) f = some none
  xis : ∀ t cs, M.et.lookup t = some cs → ∃ (tv : V) (cv : Value), ((mg t = some cv) ∨ (mg t = none ∧ bootBuiltins t = some cv ∧ t ≠ "__name__")) ∧ (t == ("__debug__" : Str)) = false ∧ RelV tv cv ∧ (∀ u, RelV tv u → u = cv) ∧
    ∀ c, M.ec.contains c = true → IsX G.K (G.cl c) ∧ PySem.W.kitOne G.K (.ref (G.cl c)) cv = some (cs.contains c)
  er : ∀ x f, M.er.lookup x = some f → ∃ (e : Ent) (c : Nat) (fI : Addr) (fd : FuncData) (fs : List (Str × Nat)), tab[f]? = some e ∧ e.kd = .err c fs ∧ mg x = some (.ref (G.cl c)) ∧ OexC G.K (G.cl c) ∧ PySem.W.findIn G.K (.ref (G.cl c)) "__init__" = some (some (.ref fI)) ∧ PySem.W.typeIn G.K (.ref fI) = some (.type "function") ∧ Binds G.K fd e.ps [] ∧
    ∀ w base, FnOk P w G.K mg base (L2.CX P w) 1 fI fd e.ps (spX (G.cl c) fs e.ps.length)
  er0 : ∀ x c, M.er0.lookup x = some c → RsK G mg c x
  hfs : ∀ x f, M.hnw.lookup x = some f → ∃ e fa, tab[f]? = some e ∧ e.kd = .hot ∧ mg x = some (.ref fa) ∧ EntAt G.K e fa
  li : M.lp ≠ [] → ∀ c, M.lc.contains c = true → ∃ (fi : Addr) (fd : FuncData) (ps : List Str), ItT G.K (G.cl c) fi ∧ (∀ w base, FnE P w G.K mg base false 1 fi fd ps (spIt (G.cl c) M.lf)) ∧ Binds G.K fd ps []
  gk : ∀ x s, M.gk.lookup x = some s → ∃ u, mg x = some u ∧ RelV (.str s) u
theorem callD_at {T : List Df} {μ : Nat → Str → Option Nat} {n f : Nat} {as : List Vl} {d : Df} (hd : T[f]? = some d) : callD T μ (n + 1) f as = runD ⟨callD T μ n, μ⟩ d as := by simp only [callD, hd]
theorem runD_fn_len {Φ : Fns} {np nn : Nat} {b : Sms} {as : List Vl} {o : Rz Vl} (h : runD Φ (.fn np nn b) as = some o) : as.length = np ∧ ∀ r, o = .ok r → ∀ m d, r ≠ .bo m d := by
  simp only [runD] at h
  split at h
  · rename_i hl
    refine ⟨hl, fun r hr m d z => ?_⟩
    subst hr z
    simp only [Option.bind_eq_some_iff] at h
    obtain ⟨o, _, h⟩ := h
    cases o with
    | rt r' =>
      obtain ⟨q, h7, h8⟩ := rl_some h
      cases h8
      cases r' <;> cases h7
    | nx ε => cases h
    | bk ε => cases h
    | ct ε => cases h
    | er c ns ds ε => cases h
  · cases h
theorem runD_ini_len {Φ : Fns} {c np nn : Nat} {b : Sms} {as : List Vl} {o : Rz Vl} (h : runD Φ (.ini c np nn b) as = some o) : as.length + 1 = np ∧ ∀ r, o = .ok r → ∃ d, r = .sh d := by
  simp only [runD] at h
  split at h
  · rename_i hl
    refine ⟨hl, fun r hr => ?_⟩
    subst hr
    simp only [Option.bind_eq_some_iff] at h
    obtain ⟨o, _, h⟩ := h
    cases o with
    | rt r' => cases h
    | nx ε =>
      obtain ⟨⟨c', ns, ds⟩, h7, h8⟩ := rbl_some h
      cases rp_some h8
      exact ⟨_, rfl⟩
    | bk ε => cases h
    | ct ε => cases h
    | er c ns ds ε => cases h
  · cases h
section
variable {P : Program} {w : World} {G : Gt} {mg : Str → Option Value} {base : Heap} {M : Mo} {tab : List Ent} {μ : Nat → Str → Option Nat}
theorem callD_len {n f : Nat} {as : List Vl} {o : Rz Vl} {e : Ent} (he : tab[f]? = some e) (hk : e.kd = .fn) (h : callD (tab.map Ent.df) μ n f as = some o) : as.length = e.ps.length ∧ ∀ r, o = .ok r → ∀ m d, r ≠ .bo m d := by
  cases n with
  | zero => cases h
  | succ n =>
    rw [callD_at (d := e.df) (by rw [List.getElem?_map, he]; rfl)] at h
    unfold Ent.df at h
    rw [hk] at h
    exact runD_fn_len h
theorem callD_lenH {n f : Nat} {as : List Vl} {o : Rz Vl} {e : Ent} (he : tab[f]? = some e) (hk : e.kd = .hot) (h : callD (tab.map Ent.df) μ n f as = some o) : as.length = e.ps.length ∧ ∀ r, o = .ok r → ∀ m d, r ≠ .bo m d := by
  cases n with
  | zero => cases h
  | succ n =>
    rw [callD_at (d := e.df) (by rw [List.getElem?_map, he]; rfl)] at h
    unfold Ent.df at h
    rw [hk] at h
    exact runD_fn_len h
theorem callD_lenI {n f c : Nat} {as : List Vl} {o : Rz Vl} {e : Ent} (he : tab[f]? = some e) (hk : e.kd = .ini c) (h : callD (tab.map Ent.df) μ n f as = some o) : as.length + 1 = e.ps.length ∧ ∀ r, o = .ok r → ∃ d, r = .sh d := by
  cases n with
  | zero => cases h
  | succ n =>
    rw [callD_at (d := e.df) (by rw [List.getElem?_map, he]; rfl)] at h
    unfold Ent.df at h
    rw [hk] at h
    exact runD_ini_len h
theorem callD_lenE {n f c : Nat} {fs : List (Str × Nat)} {as : List Vl} {o : Rz Vl} {e : Ent} (he : tab[f]? = some e) (hk : e.kd = .err c fs) (h : callD (tab.map Ent.df) μ n f as = some o) : as.length + 1 = e.ps.length ∧ as.length ≤ 1000 ∧ ∃ ns xs, putE (none :: as.map Vl.keep) fs [] [] = some (ns, xs) ∧ o = .er c ns xs := by
  cases n with
  | zero => cases h
  | succ n =>
    rw [callD_at (d := e.df) (by rw [List.getElem?_map, he]; rfl)] at h
    unfold Ent.df at h
    rw [hk] at h
    simp only [runD] at h
    split at h
    · rename_i hl
      simp only [Option.map_eq_some_iff] at h
      obtain ⟨⟨ns, xs⟩, h1, rfl⟩ := h
      exact ⟨hl.1, hl.2, ns, xs, h1, rfl⟩
    · cases h
theorem tab_ok (t : TabAt P G mg M tab μ) : ∀ n : Nat, (∀ f e fa fd, tab[f]? = some e → e.kd = .fn → Fun G.K e.x e.q e.st fa fd → FnE P w G.K mg base false (3 * n) fa fd e.ps (spD G (callD (tab.map Ent.df) μ n f) e.ps.length)) ∧
    (∀ f e c fa fd, tab[f]? = some e → e.kd = .ini c → Fun G.K e.x e.q e.st fa fd → FnE P w G.K mg base false (3 * n) fa fd e.ps (spI G (callD (tab.map Ent.df) μ n f) c e.ps.length)) ∧
    (∀ f e fa fd, tab[f]? = some e → e.kd = .hot → Fun G.K e.x e.q e.st fa fd → FnE P w G.K mg base true (3 * n) fa fd e.ps (spD G (callD (tab.map Ent.df) μ n f) e.ps.length))
  | 0 => by
    refine ⟨fun f e fa fd h1 h2 F => ⟨fun vs H Q E h => h.1, fun A outer s H args us vs Q E hr hh e0 hb r hsp => ?_⟩, fun f e c fa fd h1 h2 F => ⟨fun vs H Q E h => h.1, fun A outer s H args us vs Q E hr hh e0 hb r hsp => ?_⟩, fun f e fa fd h1 h2 F => ⟨fun vs H Q E h => h.1, fun A outer s H args us vs Q E hr hh e0 hb r hsp => ?_⟩⟩
    · obtain ⟨_, Hi, as, r, h4, _⟩ := hsp
      cases h4
    · obtain ⟨_, a, dx, vs', Hi, H1, as, r, _, _, _, _, _, h4, _⟩ := hsp
      cases h4
    · obtain ⟨_, Hi, as, r, h4, _⟩ := hsp
      cases h4
  | n + 1 => by
    obtain ⟨i1, i2, i3⟩ := tab_ok t n
    have kn : Kn P w G mg base M ⟨callD (tab.map Ent.df) μ n, μ⟩ (3 * n) := by
      refine ⟨t.bn, t.gc, fun x f h => ?_, fun x f h => ?_, fun m c f h1 h2 => ?_, t.fl, t.hn, t.ics, t.oq, t.oa, t.cv, t.hds, t.xfs, t.xis, fun x f h => ?_, t.er0, fun x f h => ?_, fun h1 c h2 => by
        obtain ⟨fi, fd, ps, e1, e2, e3⟩ := t.li h1 c h2
        exact ⟨fi, fd, ps, e1, e2 w base, e3⟩, t.gk⟩
      · obtain ⟨e, fa, g1, g2, g3, fd, F, B⟩ := t.fs x f h
        exact ⟨fa, fd, e.ps, g3, F.kp, B, i1 f e fa fd g1 g2 F, fun as o h => (callD_len g1 g2 h).1, fun as r h => (callD_len g1 g2 h).2 r rfl⟩
      · obtain ⟨e, c, fa, g1, g2, g3, mk, fd, F, B⟩ := t.nw x f h
        exact ⟨c, fa, fd, e.ps, g3, mk, B, i2 f e c fa fd g1 g2 F, fun as o h => (callD_lenI g1 g2 h).1, fun as r h => (callD_lenI g1 g2 h).2 r rfl⟩
      · obtain ⟨e, fa, g1, g2, g3, g4, fd, F, B⟩ := t.me m c f h1 h2
        exact ⟨g3, fa, fd, e.ps, g4, B, i1 f e fa fd g1 g2 F, fun as o h => (callD_len g1 g2 h).1, fun as r h => (callD_len g1 g2 h).2 r rfl⟩
      · obtain ⟨e, c, fI, fd, fs, g1, g2, g3, g4, g5, g6, g7, g8⟩ := t.er x f h
        exact ⟨c, fI, fd, e.ps, fs, g3, g4, g5, g6, g8 w base, g7, fun as o h => callD_lenE g1 g2 h⟩
      · obtain ⟨e, fa, g1, g2, g3, fd, F, B⟩ := t.hfs x f h
        exact ⟨fa, fd, e.ps, g3, F.kp, B, i3 f e fa fd g1 g2 F, fun as o h => (callD_lenH g1 g2 h).1, fun as r h => (callD_lenH g1 g2 h).2 r rfl⟩
    refine ⟨fun f e fa fd h1 h2 F => ?_, fun f e c fa fd h1 h2 F => ?_, fun f e fa fd h1 h2 F => ?_⟩
    · obtain ⟨S, hc⟩ := t.ok e (List.mem_of_getElem? h1)
      have hne : ∀ c fs, e.kd ≠ .err c fs := fun c fs z => by rw [h2] at z; cases z
      have S := S hne
      obtain ⟨m, hc⟩ := hc hne
      rw [if_neg (by rw [h2]; exact (fun z => nomatch z))] at hc
      refine (def_ok kn F S hc).imp fun vs H Q E h => ?_
      obtain ⟨hl, Hi, as, r, h4, h5⟩ := h
      refine ⟨hl, Hi, as, r, ?_, h5⟩
      rw [callD_at (d := e.df) (by rw [List.getElem?_map, h1]; rfl)] at h4
      unfold Ent.df at h4
      rw [h2] at h4
      exact h4
    · obtain ⟨S, hc⟩ := t.ok e (List.mem_of_getElem? h1)
      have hne : ∀ c fs, e.kd ≠ .err c fs := fun c fs z => by rw [h2] at z; cases z
      have S := S hne
      obtain ⟨m, hc⟩ := hc hne
      rw [if_neg (by rw [h2]; exact (fun z => nomatch z))] at hc
      refine (ini_ok (c := c) kn F S hc).imp fun vs H Q E h => ?_
      obtain ⟨hl, a, dx, vs', Hi, H1, as, r, q1, q2, q3, q4, q5, h4, h5⟩ := h
      refine ⟨hl, a, dx, vs', Hi, H1, as, r, q1, q2, q3, q4, q5, ?_, h5⟩
      rw [callD_at (d := e.df) (by rw [List.getElem?_map, h1]; rfl)] at h4
      unfold Ent.df at h4
      rw [h2] at h4
      exact h4
    · obtain ⟨S, hc⟩ := t.ok e (List.mem_of_getElem? h1)
      have hne : ∀ c fs, e.kd ≠ .err c fs := fun c fs z => by rw [h2] at z; cases z
      have S := S hne
      obtain ⟨m, hc⟩ := hc hne
      rw [if_pos (by rw [h2]; rfl)] at hc
      refine (hot_ok kn F S hc).imp fun vs H Q E h => ?_
      obtain ⟨hl, Hi, as, r, h4, h5⟩ := h
      refine ⟨hl, Hi, as, r, ?_, h5⟩
      rw [callD_at (d := e.df) (by rw [List.getElem?_map, h1]; rfl)] at h4
      unfold Ent.df at h4
      rw [h2] at h4
      exact h4
end
/-- the scope's conditions, as one test -/
def scopeB (N ps : List Str) (sc : Scope) : Bool :=
  (match sc.kind with | .function => true | _ => false) && !sc.isCoroutine && !sc.isGenerator && decide N.Nodup && decide (N.take ps.length = ps) &&
    (ps.all fun x => match sc.names.lookup x with | some .local => true | some .cell => true | _ => false) && (sc.names.all fun y => match y.2 with | .free => false | _ => true)
theorem scopeB_ok {N ps : List Str} {sc : Scope} (h : scopeB N ps sc = true) : FnScope N ps sc := by
  unfold scopeB at h
  simp only [Bool.and_eq_true, Bool.not_eq_true', decide_eq_true_eq, List.all_eq_true] at h
  obtain ⟨⟨⟨⟨⟨⟨h1, h2⟩, h3⟩, h4⟩, h5⟩, h6⟩, h7⟩ := h
  refine ⟨?_, h2, h3, h4, h5, fun x hx => ?_, fun y hy z => ?_⟩
  · split at h1
    · assumption
    · cases h1
  · have q := h6 x hx
    split at q
    · rename_i e; exact .inl e
    · rename_i e; exact .inr e
    · cases q
  · have q := h7 y hy
    rw [z] at q; cases q
/-! ### the law's end -/
section
variable {P : Program} {w : World} {G : Gt} {mg mb : Str → Option Value} {k : Nat} {fa ad : Addr} {fd : FuncData} {x : Str} {sp : Sp} {sh : Shared} {us : List Value} {ns : List Int}
/-- the law's def is called: nothing is known of the heap but the module's part and the script -/
theorem law_run (kin : G.K.In sh.heap) (gns : sh.heap.Ns mainGlobals mg) (bns : sh.heap.Ns builtinsNs mb) (boot : ∀ y : Str, y ≠ "__name__" → mb y = bootBuiltins y) (nolim : sh.heap.NoLimit) (nog : sh.gens = #[])
    (hobj : sh.heap.get? ad = some { cls := .type "list", data := .seq us.toArray }) (hints : IntsAre us ns) (hlen : ns.length ≤ sizeLine) (room : RoomE k callerA)
    (F : ∀ base : Heap, G.K.In base → base.Ns mainGlobals mg → FnE P w G.K mg base false k fa fd [x] sp) (hbi : ∀ (s : Shared) (u : Value), BindsTo s fd ⟨[u], []⟩ [(x, u)])
    (hsp : ∀ H : Hp, SqL G.K H ad (ns.map V.int) → sp [.ref ad] H (fun v _ => v = .bl true) fun _ _ _ => False) :
    codeAny (model P w) callerA (.call (.ref fa) ⟨[.ref ad], []⟩) (fun r s' => r = .ok (.ret (.bool true)) ∧ OldK sh.heap s'.heap ∧ s'.os = sh.os ∧ AllBare s'.gens) sh := by
  have rels := vals_ints hints
  have hlu := hints.length
  have main : ∀ Z : Hp, Only Z → SqL G.K Z ad (ns.map V.int) → HOk P w Z sh.heap → (∀ c, Z c ≠ none → c = ad) → (Z ad ≠ none → G.K.lookup ad = none) →
      codeAny (model P w) callerA (.call (.ref fa) ⟨[.ref ad], []⟩) (fun r s' => r = .ok (.ret (.bool true)) ∧ OldK sh.heap s'.heap ∧ s'.os = sh.os ∧ AllBare s'.gens) sh := by
    intro Z only seq hok sole free
    have keepB : ∀ {c : Addr} {ob : Obj}, sh.heap.get? c = some ob → Z c = none → (hidT sh.heap Z).get? c = some ob := fun q n => hidT_get q n
    have noD : ∀ {c : Addr} {ob : Obj} {es : Array DictEntry} {ep : Nat}, sh.heap.get? c = some ob → ob.data = .dict es ep → Z c = none := fun {c ob es ep} q d => by
      cases z : Z c with
      | none => rfl
      | some t =>
        obtain rfl : c = ad := sole c (by rw [z]; simp)
        rw [hobj] at q; cases q
        exact absurd (show Data.seq us.toArray _ = Data.dict es ep from d) (by intro z; cases z)
    have keepN : ∀ {c : Addr} {m : Str → Option Value}, sh.heap.Ns c m → (hidT sh.heap Z).Ns c m := fun {c m} ⟨ob, es, ep, q, d, r⟩ => ⟨ob, es, ep, keepB q (noD q d), d, r⟩
    have kinB : G.K.In (hidT sh.heap Z) := fun c ob q => keepB (kin c ob q) (by
      cases z : Z c with
      | none => rfl
      | some t =>
        obtain rfl : c = ad := sole c (by rw [z]; simp)
        rw [free (by rw [z]; simp)] at q; cases q)
    have md : Mod G.K mg (hidT sh.heap Z) := ⟨kinB, keepN gns, ⟨mb, keepN bns, boot⟩, let ⟨mc, q1, q2⟩ := nolim; ⟨mc, keepN q1, q2⟩⟩
    have en : Env0 P w G.K mg (hidT sh.heap Z) callerA [] sh Z := ⟨rfl, md, fun c ob q => of_hidT q, Nat.le_of_eq (hidT_size _ _), trivial, fun c hc => absurd (show c ∈ ([] : List Addr) from hc) (by simp), hok, .of_eq nog⟩
    refine codeAny_mono ((F _ kinB (keepN gns)).run callerA [] sh Z ⟨[.ref ad], []⟩ [.ref ad] [.ref ad] _ _ room (.inl rfl) en (hbi sh (.ref ad)) (.cons rfl .nil) (hsp Z seq)) fun r s' res => ?_
    cases r with
    | error err =>
      obtain ⟨_, _, _, _, _, _, _, _, _, _, _, _, z⟩ := res
      exact z.elim
    | ok fl =>
      cases fl with
      | next => exact False.elim res
      | brk => exact False.elim res
      | cont => exact False.elim res
      | ret u =>
        obtain ⟨v, Z', oss, bar, unt, hok2, rel, qv⟩ := res
        have qv' : v = .bl true := qv
        subst qv'
        obtain rfl : u = Value.bool true := rel
        refine ⟨rfl, OldK.of_keep fun c ob q => ?_, oss, bar⟩
        cases z : Z c with
        | none => exact unt.keep c ob q z (by intro t; exact absurd (show c ∈ ([] : List Addr) from t) (by simp)) (by simp)
        | some t =>
          rcases only c with y | ⟨o2, xs, y⟩
          · rw [z] at y; cases y
          · obtain ⟨g1, _⟩ := hok c _ y
            obtain ⟨g2, _⟩ := hok2 c _ (unt.frzs c o2 _ y)
            rw [q] at g1; cases g1
            exact g2
  cases lk : G.K.lookup ad with
  | some ob =>
    have q := kin ad ob lk
    rw [hobj] at q
    cases q
    refine main (fun _ => none) (fun _ => .inl rfl) (.inr ⟨_, us.toArray, _, lk, rfl, rfl, rfl, by rw [List.size_toArray, hlu]; exact hlen, by simpa using rels⟩) (fun c t z => by cases (show (none : Option HO) = some t from z)) (fun c z => absurd rfl z) fun z => absurd rfl z
  | none =>
    refine main (fun c => if c = ad then some (.frz { cls := .type "list", data := .seq us.toArray } (.lst (ns.map V.int))) else none) (fun c => ?_) (.inl (.inr ⟨{ cls := .type "list", data := .seq us.toArray }, if_pos rfl⟩)) (fun c t z => ?_) (fun c z => ?_) fun _ => lk
    · by_cases hc : c = ad
      · exact .inr ⟨_, _, if_pos hc⟩
      · exact .inl (if_neg hc)
    · by_cases hc : c = ad
      · have z' := (if_pos hc).symm.trans z
        cases z'
        subst hc
        exact ⟨hobj, by rw [List.length_map]; exact hlen, us, _, rels, hobj⟩
      · have z' := (if_neg hc).symm.trans z
        cases z'
    · by_cases hc : c = ad
      · exact hc
      · exact absurd (if_neg hc) z
end
/-- what the head leaves, from the table -/
theorem walkE {l : PySem.W.OpenLaw} {n k : Nat} {q : Program} {loose : List Str} {XP : (Str → Option Value) → Heap → Prop} {YP : World → Heap → Prop} {d : DefRec} {K : Params → PySem.W.Frag} {φ : List Vl → Rs Vl} {x : Str}
    (hn : l.most = some n) (hn2 : n ≤ sizeLine) (hdf : d.params.defaults = []) (hr : RoomE k callerA)
    (hY : ∀ (w : World) (h : Heap), YP w h → (K w.params).In h)
    (hφ : ∀ ns : List Int, ns.length ≤ n → φ [.sh (.scr ns)] = some (.ok (.sh (.bl true))))
    (F : ∀ (w : World) (mg : Str → Option Value) (fa : Addr) (h : Heap), (K w.params).In h → h.Ns mainGlobals mg → mg d.name = some (.ref fa) →
      ∃ (cl : Nat → Addr) (fd : FuncData), (∀ (s : Shared) (u : Value), BindsTo s fd ⟨[u], []⟩ [(x, u)]) ∧
        ∀ base : Heap, (K w.params).In base → base.Ns mainGlobals mg → FnE l.prog w (K w.params) mg base false k fa fd [x] (spD ⟨K w.params, cl⟩ φ 1)) :
    PySem.W.WalkO q loose XP YP l.row.toRowW d [] (fun f vs => PySem.call f vs) := by
  refine Att.attach_call hn hdf fun w s₀ s₁ mg mb fa o pm cd doc a vs ns GR Y ho hd hcd hmg hobj hints hlen hg => ?_
  have KX := hY w _ Y
  obtain ⟨cl, fd, hb, hF⟩ := F w mg fa _ KX GR.T.g hmg
  exact law_run (G := ⟨K w.params, cl⟩) KX GR.T.g GR.T.b GR.T.builtins GR.T.nolimit hg hobj hints (Nat.le_trans hlen hn2) hr hF hb fun H hS =>
    ⟨rfl, H, _, _, hφ ns hlen, Evl.Ex.refl _, ⟨_, _, rfl, ⟨a, rfl, hS⟩, rfl⟩, fun _ _ _ _ o => o⟩
end EG
namespace EG
open PySem L2
/-! ### what a small program comes to: rules that run it from the root -/
def Wo {α : Type} (o : Option α) (Q : α → Prop) : Prop := ∃ r, o = some r ∧ Q r
abbrev EK := Nat → List Str → List D → Prop
def rzW {α : Type} (Q : α → Prop) (E : EK) : Rz α → Prop
  | .ok a => Q a
  | .er c ns ds => E c ns ds
def Wr {α : Type} (o : Rs α) (Q : α → Prop) (E : EK) : Prop := ∃ r, o = some r ∧ rzW Q E r
def setW (ε : Env) (i : Nat) (r : Option Vl) (Q : Env → Prop) : Prop := Q (ε.set i r)
def asL : D → Option (List D)
  | .lst xs => some xs
  | _ => none
def lenW (Q : Vl → Prop) : D → Prop
  | .lst ys => Q (.sh (.int ys.length))
  | .tup ys => Q (.sh (.int ys.length))
  | .scr ns => Q (.sh (.int ns.length))
  | .dct (.k ks) _ => Q (.sh (.int ks.length))
  | .str z => z.length ≤ 100000 ∧ Q (.sh (.int z.length))
  | _ => False
def addW (x y : Vl) (Q : Vl → Prop) : D → D → Prop
  | .int i, .int j => Q (.sh (.int (i + j)))
  | .lst xs, .lst ys => if (x.low && y.low) = true then xs.length + ys.length ≤ 100000 ∧ Q (.fr 1 (.lst (xs ++ ys))) else (xs.length + ys.length ≤ 100000 ∧ x.dep ≤ 2 ∧ y.dep ≤ 2) ∧ Q (.us 2 (.lst (xs ++ ys)))
  | .tup xs, .tup ys => (x.shd = true ∧ y.shd = true ∧ xs.length + ys.length ≤ 100000) ∧ Q (.sh (.tup (xs ++ ys)))
  | .str i, .str j => i.length + j.length ≤ 100000 ∧ Q (.sh (.str (i ++ j)))
  | _, _ => False
def ixW (x : Vl) (Q : Vl → Prop) : D → D → Prop
  | .lst xs, .int i => Wo (atI xs i) fun d => Wo (x.part d) Q
  | .tup xs, .int i => Wo (atI xs i) fun d => Wo (x.part d) Q
  | .scr ns, .int i => Wo (atI ns i) fun n => Q (.sh (.int n))
  | .str z, .int i => z.length ≤ 100000 ∧ Wo (atI z.cps.toList i) fun c => Q (.sh (.str ⟨#[c]⟩))
  | .dct ks xs, k => Wo (ks.at k) fun o => Wo o fun i => Wo (xs[i]?) fun d => x.low = true ∧ Q (.sh d)
  | _, _ => False
/-- a slice -/
def slxW (x : Vl) (i j : Option Int) (Q : Vl → Prop) : D → Prop
  | .lst xs => x.low = true ∧ Q (.fr 1 (.lst (cutD xs i j)))
  | .str z => z.length ≤ 100000 ∧ Q (.sh (.str (Txt.slice z i j)))
  | _ => False
/-- a cell of one's own -/
def ownW (Q : List D → Prop) : Vl → Prop
  | .fr n (.lst xs) => n = 1 ∧ Q xs
  | _ => False
/-- no slot borrows own cells, and P -/
def nuW (ε : Env) (P : Prop) : Prop := noUs ε = true ∧ P
def duW (ε : Env) (Q : Env → Prop) : Prop := Q (dropU ε)
def slW (ε : Env) (i : Nat) (K : Option Vl → Prop) : Prop := K (getS ε i)
/-- is it a dict? -/
def sxW (A B : Prop) : Option Vl → Prop
  | some (.fr _ (.dct _ _)) => A
  | _ => B
def odW (Q : Ky → List D → Prop) : Vl → Prop
  | .fr n (.dct ks xs) => n = 1 ∧ Q ks xs
  | _ => False
def spW (is : List Int) (k : Int) (d : D) (Q : Nat → D → Prop) : Vl → Prop
  | .fr n t => n = is.length + 1 ∧ Wo (setAt is k d t) (Q n)
  | _ => False
def itW (x : Vl) (Q : List Vl → Prop) : D → Prop
  | .lst xs => Wo (partsD x xs) Q
  | .tup xs => Wo (partsD x xs) Q
  | .scr ns => Q (ns.map fun n => .sh (.int n))
  | .str z => Q (z.cps.toList.map fun c => .sh (.str ⟨#[c]⟩))
  | _ => False
section
variable {Φ : Fns} {α β : Type}
theorem Wo.mono {o : Option α} {Q Q' : α → Prop} (h : Wo o Q) (k : ∀ r, Q r → Q' r) : Wo o Q' := by obtain ⟨r, h1, h2⟩ := h; exact ⟨r, h1, k r h2⟩
theorem Wo.eq {o : Option α} {r : α} (h : Wo o fun x => x = r) : o = some r := by obtain ⟨x, h1, rfl⟩ := h; exact h1
theorem Wo.of {o : Option α} {r : α} {Q : α → Prop} (h : o = some r) (q : Q r) : Wo o Q := ⟨r, h, q⟩
theorem Wr.of {o : Rs α} {r : α} {Q : α → Prop} {E : EK} (h : o = some (.ok r)) (q : Q r) : Wr o Q E := ⟨_, h, q⟩
theorem Wr.er {o : Rs α} {Q : α → Prop} {E : EK} {c : Nat} {ns : List Str} {ds : List D} (h : o = some (.er c ns ds)) (q : E c ns ds) : Wr o Q E := ⟨_, h, q⟩
theorem Wr.mono {o : Rs α} {Q Q' : α → Prop} {E : EK} (h : Wr o Q E) (k : ∀ r, Q r → Q' r) : Wr o Q' E := by
  obtain ⟨r, h1, h2⟩ := h
  refine ⟨r, h1, ?_⟩
  cases r with
  | ok a => exact k a h2
  | er c ns ds => exact h2
theorem Wr.eq {o : Rs α} {r : α} (h : Wr o (fun x => x = r) fun _ _ _ => False) : o = some (.ok r) := by
  obtain ⟨x, h1, h2⟩ := h
  cases x with
  | ok a => cases h2; exact h1
  | er c ns ds => exact h2.elim
theorem z_some (r : α) (Q : α → Prop) : Wo (some r) Q = Q r := by simp [Wo]
theorem z_none (Q : α → Prop) : Wo (none : Option α) Q = False := by simp [Wo]
theorem z_bind (o : Option α) (f : α → Option β) (Q : β → Prop) : Wo (o.bind f) Q = Wo o fun x => Wo (f x) Q := by
  cases o <;> simp [Wo]
theorem z_map (o : Option α) (f : α → β) (Q : β → Prop) : Wo (o.map f) Q = Wo o fun x => Q (f x) := by
  cases o <;> simp [Wo]
theorem z_ite {c : Prop} [Decidable c] (r : α) (Q : α → Prop) : Wo (if c then some r else none) Q = (c ∧ Q r) := by by_cases h : c <;> simp [h, z_some, z_none]
theorem z_ok (a : α) (Q : α → Prop) (E : EK) : Wr (some (.ok a)) Q E = Q a := by simp [Wr, rzW]
theorem z_er (c : Nat) (ns : List Str) (ds : List D) (Q : α → Prop) (E : EK) : Wr (some (.er c ns ds)) Q E = E c ns ds := by simp [Wr, rzW]
theorem z_no (Q : α → Prop) (E : EK) : Wr none Q E = False := by simp [Wr]
theorem z_rp (a : α) (Q : α → Prop) (E : EK) : Wr (rp a) Q E = Q a := z_ok a Q E
theorem z_rl (o : Option α) (Q : α → Prop) (E : EK) : Wr (rl o) Q E = Wo o Q := by
  cases o with
  | none => simp [rl, z_no, z_none]
  | some a => exact (z_ok a Q E).trans (z_some a Q).symm
theorem z_rb (o : Rs α) (f : α → Rs β) (Q : β → Prop) (E : EK) : Wr (rb o f) Q E = Wr o (fun a => Wr (f a) Q E) E := by
  match o with
  | some (.ok a) => simp only [rb, z_ok]
  | some (.er _ _ _) => simp only [rb, z_er]
  | none => simp only [rb, z_no]
theorem z_ob (ε : Env) (o : Rs α) (f : α → Option O) (Q : O → Prop) : Wo (ob ε o f) Q = Wr o (fun a => Wo (f a) Q) fun c ns ds => Q (.er c ns ds ε) := by
  match o with
  | some (.ok a) => simp only [ob, z_ok]
  | some (.er _ _ _) => simp only [ob, z_er, z_some]
  | none => simp only [ob, z_no, z_none]
theorem z_rite {c : Prop} [Decidable c] (r : α) (Q : α → Prop) (E : EK) : Wr (if c then rp r else none) Q E = (c ∧ Q r) := by by_cases h : c <;> simp [h, z_rp, z_no]
theorem z_if {c : Prop} [Decidable c] (x y : Rs α) (Q : α → Prop) (E : EK) : Wr (if c then x else y) Q E = if c then Wr x Q E else Wr y Q E := by by_cases h : c <;> simp [h]
theorem z_ifo {c : Prop} [Decidable c] (x y : Option α) (Q : α → Prop) : Wo (if c then x else y) Q = if c then Wo x Q else Wo y Q := by by_cases h : c <;> simp [h]
theorem z_set0 (a r : Option Vl) (l : Env) (Q : Env → Prop) : setW (a :: l) 0 r Q = Q (r :: l) := rfl
theorem z_setS (a r : Option Vl) (l : Env) (n : Nat) (Q : Env → Prop) : setW (a :: l) (n + 1) r Q = setW l n r fun l' => Q (a :: l') := rfl
theorem z_get0 (r : Vl) (l : Env) (Q : Vl → Prop) : Wo (getS (some r :: l) 0) Q = Q r := z_some r Q
theorem z_getS (a : Option Vl) (l : Env) (n : Nat) (Q : Vl → Prop) : Wo (getS (a :: l) (n + 1)) Q = Wo (getS l n) Q := rfl
variable {E : EK}
abbrev E0 : EK := fun _ _ _ => False
theorem z_okO (o : Rs α) (Q : α → Prop) : Wo (okO o) Q = Wr o Q E0 := by
  match o with
  | some (.ok a) => simp only [okO, z_some, z_ok]
  | some (.er _ _ _) => simp only [okO, z_none, z_er]
  | none => simp only [okO, z_none, z_no]
/-! expressions -/
theorem z_v (i : Nat) (ε : Env) (Q : Vl → Prop) : Wr (evalD Φ (.v i) ε) Q E = Wo (getS ε i) fun r => Wo r.use Q := by simp only [evalD, z_rl, z_bind]
theorem z_c (d : D) (ε : Env) (Q : Vl → Prop) : Wr (evalD Φ (.c d) ε) Q E = Q (.sh d) := by simp only [evalD, z_rp]
theorem z_bin (op : Operator) (a b : Ep) (ε : Env) (Q : Vl → Prop) : Wr (evalD Φ (.bin op a b) ε) Q E = Wr (evalD Φ a ε) (fun x => Wr (evalD Φ b ε) (fun y => Wo (binD op x y) Q) E) E := by simp only [evalD, z_rb, z_rl]
theorem z_neg (a : Ep) (ε : Env) (Q : Vl → Prop) : Wr (evalD Φ (.neg a) ε) Q E = Wr (evalD Φ a ε) (fun x => Wo (asI x.d) fun i => Q (.sh (.int (-i)))) E := by simp only [evalD, z_rb, z_rl, z_rp]
theorem z_not (a : Ep) (ε : Env) (Q : Vl → Prop) : Wr (evalD Φ (.not a) ε) Q E = Wr (evalD Φ a ε) (fun x => Wo (asB x.d) fun b => Q (.sh (.bl (!b)))) E := by simp only [evalD, z_rb, z_rl, z_rp]
theorem z_and (a b : Ep) (ε : Env) (Q : Vl → Prop) : Wr (evalD Φ (.and a b) ε) Q E = Wr (evalD Φ a ε) (fun x => Wo (asB x.d) fun t => if t = true then Wr (evalD Φ b ε) Q E else Q (.sh (.bl false))) E := by simp only [evalD, z_rb, z_rl, z_rp, z_if]
theorem z_or (a b : Ep) (ε : Env) (Q : Vl → Prop) : Wr (evalD Φ (.or a b) ε) Q E = Wr (evalD Φ a ε) (fun x => Wo (asB x.d) fun t => if t = true then Q (.sh (.bl true)) else Wr (evalD Φ b ε) Q E) E := by simp only [evalD, z_rb, z_rl, z_rp, z_if]
theorem z_cmp (op : CmpOp) (a b : Ep) (ε : Env) (Q : Vl → Prop) : Wr (evalD Φ (.cmp op a b) ε) Q E = Wr (evalD Φ a ε) (fun x => Wr (evalD Φ b ε) (fun y => Wo (cmpD op x.d y.d) fun r => Q (.sh (.bl r))) E) E := by simp only [evalD, z_rb, z_rl, z_rp]
theorem z_chn (o1 o2 : CmpOp) (a b c : Ep) (ε : Env) (Q : Vl → Prop) : Wr (evalD Φ (.chn o1 o2 a b c) ε) Q E = Wr (evalD Φ a ε) (fun x => Wr (evalD Φ b ε) (fun y => Wo (cmpD o1 x.d y.d) fun t => if t = true then Wr (evalD Φ c ε) (fun z => Wo (cmpD o2 y.d z.d) fun r => Q (.sh (.bl r))) E else Q (.sh (.bl false))) E) E := by simp only [evalD, z_rb, z_rl, z_rp, z_if]
theorem z_ix (a b : Ep) (ε : Env) (Q : Vl → Prop) : Wr (evalD Φ (.ix a b) ε) Q E = Wr (evalD Φ a ε) (fun x => Wr (evalD Φ b ε) (fun y => ixW x Q x.d y.d) E) E := by
  simp only [evalD, z_rb, z_rl]
  congr 1; funext x; congr 1; funext y
  unfold ixD
  cases x.d <;> cases y.d <;> simp [ixW, z_none, z_some, z_bind, z_map, z_ite, z_ifo]
theorem z_sl (a : Ep) (l h : Epo) (ε : Env) (Q : Vl → Prop) : Wr (evalD Φ (.sl a l h) ε) Q E = Wr (evalD Φ a ε) (fun x => Wr (partD Φ l ε) (fun i => Wr (partD Φ h ε) (fun j => slxW x i j Q x.d) E) E) E := by
  simp only [evalD, z_rb, z_rl]
  congr 1; funext x; congr 1; funext i; congr 1; funext j
  unfold slD
  cases x.d <;> simp [slxW, z_none, z_some, z_ite]
theorem z_slxL (x : Vl) (i j : Option Int) (xs : List D) (Q : Vl → Prop) : slxW x i j Q (.lst xs) = (x.low = true ∧ Q (.fr 1 (.lst (cutD xs i j)))) := rfl
theorem z_slxS (x : Vl) (i j : Option Int) (z : Str) (Q : Vl → Prop) : slxW x i j Q (.str z) = (z.length ≤ 100000 ∧ Q (.sh (.str (Txt.slice z i j)))) := rfl
theorem z_tup (es : Eps) (ε : Env) (Q : Vl → Prop) : Wr (evalD Φ (.tup es) ε) Q E = Wr (keepsD Φ es ε) (fun ds => ds.length ≤ 1000 ∧ Q (.sh (.tup ds))) E := by simp only [evalD, z_rb, z_rite]
theorem z_lst (es : Eps) (ε : Env) (Q : Vl → Prop) : Wr (evalD Φ (.lst es) ε) Q E = Wr (keepsD Φ es ε) (fun ds => ds.length ≤ 1000 ∧ Q (.fr 1 (.lst ds))) E := by simp only [evalD, z_rb, z_rite]
theorem z_call (f : Nat) (es : Eps) (ε : Env) (Q : Vl → Prop) : Wr (evalD Φ (.call f es) ε) Q E = Wr (argsD Φ es ε) (fun as => Wr (Φ.call f as) Q E) E := by simp only [evalD, z_rb]
theorem z_bi (b : BI) (es : Eps) (ε : Env) (Q : Vl → Prop) : Wr (evalD Φ (.bi b es) ε) Q E = Wr (argsD Φ es ε) (fun as => Wo (biD b as) Q) E := by simp only [evalD, z_rb, z_rl]
theorem z_isi (t : TyN) (a : Ep) (ε : Env) (Q : Vl → Prop) : Wr (evalD Φ (.isi t a) ε) Q E = Wr (evalD Φ a ε) (fun x => Wo (isiD t x.d) fun r => Q (.sh (.bl r))) E := by simp only [evalD, z_rb, z_rl, z_rp]
theorem z_lstd (k : Nat) (es : Eps) (ε : Env) (Q : Vl → Prop) : Wr (evalD Φ (.lstd k es) ε) Q E = Wr (keepnD Φ k es ε) (fun ds => ds.length ≤ 1000 ∧ Q (.fr (k + 1) (.lst ds))) E := by simp only [evalD, z_rb, z_rite]
theorem z_dnwT (ε : Env) (Q : Vl → Prop) : Wr (evalD Φ (.dnw true) ε) Q E = Q (.fr 1 (.dct (.t []) [])) := by simp only [evalD, z_rp, if_true]
theorem z_dnwK (ε : Env) (Q : Vl → Prop) : Wr (evalD Φ (.dnw false) ε) Q E = Q (.fr 1 (.dct (.k []) [])) := by simp only [evalD, z_rp]; rfl
theorem z_knN (k : Nat) (ε : Env) (Q : List D → Prop) : Wr (keepnD Φ k .nil ε) Q E = Q [] := by simp only [keepnD, z_rp]
theorem z_knC (k : Nat) (e : Ep) (es : Eps) (ε : Env) (Q : List D → Prop) : Wr (keepnD Φ k (.cons e es) ε) Q E = Wr (evalD Φ e ε) (fun r => Wo (r.keepN k) fun d => Wr (keepnD Φ k es ε) (fun ds => Q (d :: ds)) E) E := by simp only [keepnD, z_rb, z_rl, z_rp]
theorem z_kn1 (d : D) (Q : D → Prop) : Wo ((Vl.fr 1 d).keepN 1) Q = Q d := by simp [Vl.keepN, z_some]
theorem z_kn2 (d : D) (Q : D → Prop) : Wo ((Vl.fr 2 d).keepN 2) Q = Q d := by simp [Vl.keepN, z_some]
theorem z_kn12 (d : D) (Q : D → Prop) : Wo ((Vl.fr 1 d).keepN 2) Q = (flatAt 1 d = true ∧ Q d) := by simp [Vl.keepN, z_ite]
theorem z_lrg (a : Ep) (ε : Env) (Q : Vl → Prop) : Wr (evalD Φ (.lrg a) ε) Q E = Wr (evalD Φ a ε) (fun x => Wo (asI x.d) fun n => (0 ≤ n ∧ n ≤ 100000) ∧ Q (.fr 1 (.lst (rangeD 0 n)))) E := by simp only [evalD, z_rb, z_rl, z_rite]
theorem z_ife (c a b : Ep) (ε : Env) (Q : Vl → Prop) : Wr (evalD Φ (.ife c a b) ε) Q E = Wr (testD Φ c ε) (fun t => if t = true then Wr (evalD Φ a ε) Q E else Wr (evalD Φ b ε) Q E) E := by simp only [evalD, z_rb, z_if]
theorem z_fld (al : List Nat) (a : Ep) (f : Str) (ε : Env) (Q : Vl → Prop) : Wr (evalD Φ (.fld al a f) ε) Q E = Wr (evalD Φ a ε) (fun x => Wo (fldD al x f) Q) E := by simp only [evalD, z_rb, z_rl]
theorem z_mth (m : Str) (a : Ep) (es : Eps) (ε : Env) (Q : Vl → Prop) : Wr (evalD Φ (.mth m a es) ε) Q E = Wr (evalD Φ a ε) (fun x => Wo (methD Φ m x) fun fx => Wr (argsD Φ es ε) (fun as => Wr (Φ.call fx.1 (fx.2 :: as)) Q E) E) E := by simp only [evalD, z_rb, z_rl]
theorem z_argsN (ε : Env) (Q : List Vl → Prop) : Wr (argsD Φ .nil ε) Q E = Q [] := by simp only [argsD, z_rp]
theorem z_argsC (e : Ep) (es : Eps) (ε : Env) (Q : List Vl → Prop) : Wr (argsD Φ (.cons e es) ε) Q E = Wr (evalD Φ e ε) (fun r => Wo r.argd fun a => Wr (argsD Φ es ε) (fun rs => Q (a :: rs)) E) E := by simp only [argsD, z_rb, z_rl, z_rp]
theorem z_keepsN (ε : Env) (Q : List D → Prop) : Wr (keepsD Φ .nil ε) Q E = Q [] := by simp only [keepsD, z_rp]
theorem z_keepsC (e : Ep) (es : Eps) (ε : Env) (Q : List D → Prop) : Wr (keepsD Φ (.cons e es) ε) Q E = Wr (evalD Φ e ε) (fun r => Wo r.keep fun d => Wr (keepsD Φ es ε) (fun ds => Q (d :: ds)) E) E := by simp only [keepsD, z_rb, z_rl, z_rp]
theorem z_pno (ε : Env) (Q : Option Int → Prop) : Wr (partD Φ .no ε) Q E = Q none := by simp only [partD, z_rp]
theorem z_pso (e : Ep) (ε : Env) (Q : Option Int → Prop) : Wr (partD Φ (.so e) ε) Q E = Wr (evalD Φ e ε) (fun x => Wo (asI x.d) fun i => Q (some i)) E := by simp only [partD, z_rb, z_rl, z_rp]
theorem z_asI (i : Int) (Q : Int → Prop) : Wo (asI (.int i)) Q = Q i := z_some _ _
theorem z_asB (i : Bool) (Q : Bool → Prop) : Wo (asB (.bl i)) Q = Q i := z_some _ _
theorem z_asL (i : List D) (Q : List D → Prop) : Wo (asL (.lst i)) Q = Q i := z_some _ _
/-! values -/
theorem z_useS (d : D) (Q : Vl → Prop) : Wo (Vl.sh d).use Q = Q (.sh d) := z_some _ _
theorem z_useF (n : Nat) (d : D) (Q : Vl → Prop) : Wo (Vl.fr n d).use Q = Q (.us n d) := z_some _ _
theorem z_useU (n : Nat) (d : D) (Q : Vl → Prop) : Wo (Vl.us n d).use Q = Q (.us n d) := z_some _ _
theorem z_useB (n : Nat) (d : D) (Q : Vl → Prop) : Wo (Vl.bo n d).use Q = Q (.bo n d) := z_some _ _
theorem z_useN (c : Nat) (ns : List Str) (ds : List D) (Q : Vl → Prop) : Wo (Vl.no c ns ds).use Q = Q (.us 1 (.obj c ns ds)) := z_some _ _
theorem z_dS (d : D) : (Vl.sh d).d = d := rfl
theorem z_dF (n : Nat) (d : D) : (Vl.fr n d).d = d := rfl
theorem z_dB (n : Nat) (d : D) : (Vl.bo n d).d = d := rfl
theorem z_dU (n : Nat) (d : D) : (Vl.us n d).d = d := rfl
theorem z_adS (d : D) (Q : Vl → Prop) : Wo (Vl.sh d).argd Q = Q (.sh d) := z_some _ _
theorem z_adF (n : Nat) (d : D) (Q : Vl → Prop) : Wo (Vl.fr n d).argd Q = Q (.sh d) := z_some _ _
theorem z_adB (n : Nat) (d : D) (Q : Vl → Prop) : Wo (Vl.bo n d).argd Q = Q (.bo n d) := z_some _ _
theorem z_adU (n : Nat) (d : D) (Q : Vl → Prop) : Wo (Vl.us n d).argd Q = Q (.bo n d) := z_some _ _
theorem z_loS (d : D) : (Vl.sh d).low = true := rfl
theorem z_loF (d : D) : (Vl.fr 1 d).low = true := rfl
theorem z_loB (d : D) : (Vl.bo 1 d).low = true := rfl
theorem z_loF2 (d : D) : (Vl.fr 2 d).low = false := rfl
theorem z_loB2 (d : D) : (Vl.bo 2 d).low = false := rfl
theorem z_loU2 (d : D) : (Vl.us 2 d).low = false := rfl
theorem z_ltt : (true && true) = true := rfl
theorem z_lft (b : Bool) : (false && b) = false := rfl
theorem z_ltf : (true && false) = false := rfl
theorem z_pa2F (d' : D) (d : List D) (Q : Vl → Prop) : Wo ((Vl.fr 2 d').part (.lst d)) Q = Q (.us 1 (.lst d)) := z_some _ _
theorem z_pa2B (d' : D) (d : List D) (Q : Vl → Prop) : Wo ((Vl.bo 2 d').part (.lst d)) Q = Q (.bo 1 (.lst d)) := z_some _ _
theorem z_pa2U (d' : D) (d : List D) (Q : Vl → Prop) : Wo ((Vl.us 2 d').part (.lst d)) Q = Q (.us 1 (.lst d)) := z_some _ _
theorem z_pa3F (d' : D) (d : List D) (Q : Vl → Prop) : Wo ((Vl.fr 3 d').part (.lst d)) Q = Q (.us 2 (.lst d)) := z_some _ _
theorem z_pa3B (d' : D) (d : List D) (Q : Vl → Prop) : Wo ((Vl.bo 3 d').part (.lst d)) Q = Q (.bo 2 (.lst d)) := z_some _ _
theorem z_pa3U (d' : D) (d : List D) (Q : Vl → Prop) : Wo ((Vl.us 3 d').part (.lst d)) Q = Q (.us 2 (.lst d)) := z_some _ _
theorem z_loU (d : D) : (Vl.us 1 d).low = true := rfl
theorem z_paS (d' d : D) (Q : Vl → Prop) : Wo ((Vl.sh d').part d) Q = Q (.sh d) := z_some _ _
theorem z_paF (d' d : D) (Q : Vl → Prop) : Wo ((Vl.fr 1 d').part d) Q = Q (.sh d) := z_some _ _
theorem z_paB (d' d : D) (Q : Vl → Prop) : Wo ((Vl.bo 1 d').part d) Q = Q (.sh d) := z_some _ _
theorem z_paU (d' d : D) (Q : Vl → Prop) : Wo ((Vl.us 1 d').part d) Q = Q (.sh d) := z_some _ _
theorem z_keepSh (d : D) (Q : D → Prop) : Wo (Vl.sh d).keep Q = Q d := z_some _ _
theorem z_keepFr (n : Nat) (d : D) (Q : D → Prop) : Wo (Vl.fr n d).keep Q = Q d := z_some _ _
theorem z_add (x y : Vl) (Q : Vl → Prop) : Wo (binD .Add x y) Q = addW x y Q x.d y.d := by
  unfold binD
  cases x.d <;> cases y.d <;> simp [addW, z_none, z_some, z_ite, z_ifo]
theorem z_addT (x y : Vl) (i j : List D) (Q : Vl → Prop) : addW x y Q (.tup i) (.tup j) = ((x.shd = true ∧ y.shd = true ∧ i.length + j.length ≤ 100000) ∧ Q (.sh (.tup (i ++ j)))) := rfl
theorem z_addX (x y : Vl) (i j : Str) (Q : Vl → Prop) : addW x y Q (.str i) (.str j) = (i.length + j.length ≤ 100000 ∧ Q (.sh (.str (i ++ j)))) := rfl
theorem z_mulX (i : Str) (n : Int) (Q : Vl → Prop) : Wo (binD .Mult (.sh (.str i)) (.sh (.int n))) Q = ((n ≤ 1000 ∧ -1000 ≤ n ∧ i.length ≤ 1000) ∧ Q (.sh (.str (repS i n.toNat)))) := z_ite _ _
theorem z_inX (i j : Str) (Q : Bool → Prop) : Wo (cmpD .In (.str i) (.str j)) Q = Q (inS i j) := z_some _ _
theorem z_niX (i j : Str) (Q : Bool → Prop) : Wo (cmpD .NotIn (.str i) (.str j)) Q = Q (!inS i j) := z_some _ _
theorem z_addI (x y : Vl) (i j : Int) (Q : Vl → Prop) : addW x y Q (.int i) (.int j) = Q (.sh (.int (i + j))) := rfl
theorem z_addL (x y : Vl) (i j : List D) (Q : Vl → Prop) : addW x y Q (.lst i) (.lst j) = if (x.low && y.low) = true then i.length + j.length ≤ 100000 ∧ Q (.fr 1 (.lst (i ++ j))) else (i.length + j.length ≤ 100000 ∧ x.dep ≤ 2 ∧ y.dep ≤ 2) ∧ Q (.us 2 (.lst (i ++ j))) := rfl
theorem z_subI (i j : Int) (Q : Vl → Prop) : Wo (binD .Sub (.sh (.int i)) (.sh (.int j))) Q = Q (.sh (.int (i - j))) := z_some _ _
theorem z_mulI (i j : Int) (Q : Vl → Prop) : Wo (binD .Mult (.sh (.int i)) (.sh (.int j))) Q = (mulOk i j = true ∧ Q (.sh (.int (i * j)))) := z_ite _ _
theorem z_divI (i j : Int) (Q : Vl → Prop) : Wo (binD .FloorDiv (.sh (.int i)) (.sh (.int j))) Q = (divOk j = true ∧ Q (.sh (.int (i / j)))) := z_ite _ _
theorem z_modI (i j : Int) (Q : Vl → Prop) : Wo (binD .Mod (.sh (.int i)) (.sh (.int j))) Q = (0 < j ∧ Q (.sh (.int (i % j)))) := z_ite _ _
theorem z_powI (i j : Int) (Q : Vl → Prop) : Wo (binD .Pow (.sh (.int i)) (.sh (.int j))) Q = ((0 ≤ j ∧ j ≤ 1000000 ∧ i.natAbs < 2 ^ 64) ∧ Q (.sh (.int (i ^ j.toNat)))) := z_ite _ _
theorem z_eqI (i j : Int) (Q : Bool → Prop) : Wo (cmpD .Eq (.int i) (.int j)) Q = Q (decide (i = j)) := z_some _ _
theorem z_neI (i j : Int) (Q : Bool → Prop) : Wo (cmpD .NotEq (.int i) (.int j)) Q = Q (!decide (i = j)) := z_some _ _
theorem z_eqB (i j : Bool) (Q : Bool → Prop) : Wo (cmpD .Eq (.bl i) (.bl j)) Q = Q (decide (i = j)) := z_some _ _
theorem z_neB (i j : Bool) (Q : Bool → Prop) : Wo (cmpD .NotEq (.bl i) (.bl j)) Q = Q (!decide (i = j)) := z_some _ _
theorem z_eqS (i j : Str) (Q : Bool → Prop) : Wo (cmpD .Eq (.str i) (.str j)) Q = Q (decide (i = j)) := z_some _ _
theorem z_neS (i j : Str) (Q : Bool → Prop) : Wo (cmpD .NotEq (.str i) (.str j)) Q = Q (!decide (i = j)) := z_some _ _
theorem z_ltI (i j : Int) (Q : Bool → Prop) : Wo (cmpD .Lt (.int i) (.int j)) Q = Q (decide (i < j)) := z_some _ _
theorem z_leI (i j : Int) (Q : Bool → Prop) : Wo (cmpD .LtE (.int i) (.int j)) Q = Q (decide (i ≤ j)) := z_some _ _
theorem z_gtI (i j : Int) (Q : Bool → Prop) : Wo (cmpD .Gt (.int i) (.int j)) Q = Q (decide (j < i)) := z_some _ _
theorem z_geI (i j : Int) (Q : Bool → Prop) : Wo (cmpD .GtE (.int i) (.int j)) Q = Q (decide (j ≤ i)) := z_some _ _
theorem z_isN (a : D) (Q : Bool → Prop) : Wo (cmpD .Is a .non) Q = Wo (isNonD a) Q := by cases a <;> rfl
theorem z_inN (a : D) (Q : Bool → Prop) : Wo (cmpD .IsNot a .non) Q = Wo (isNonD a) fun b => Q (!b) := by
  have : cmpD .IsNot a .non = (isNonD a).map (!·) := by cases a <;> rfl
  rw [this, z_map]
theorem z_len (x : Vl) (Q : Vl → Prop) : Wo (biD .len [x]) Q = lenW Q x.d := by
  simp only [biD]
  generalize x.d = d
  cases d
  case dct ks xs => cases ks <;> simp [lenW, z_some, z_none, z_ifo]
  all_goals simp [lenW, z_some, z_none, z_ifo]
theorem z_lenWL (ys : List D) (Q : Vl → Prop) : lenW Q (.lst ys) = Q (.sh (.int ys.length)) := rfl
theorem z_lenWX (z : Str) (Q : Vl → Prop) : lenW Q (.str z) = (z.length ≤ 100000 ∧ Q (.sh (.int z.length))) := rfl
theorem z_lenWT (ys : List D) (Q : Vl → Prop) : lenW Q (.tup ys) = Q (.sh (.int ys.length)) := rfl
theorem z_lenWS (ys : List Int) (Q : Vl → Prop) : lenW Q (.scr ys) = Q (.sh (.int ys.length)) := rfl
theorem z_intI (i : Int) (Q : Vl → Prop) : Wo (biD .int [.sh (.int i)]) Q = Q (.sh (.int i)) := z_some _ _
theorem z_maxI (i j : Int) (Q : Vl → Prop) : Wo (biD .max [.sh (.int i), .sh (.int j)]) Q = Q (.sh (.int (max i j))) := z_some _ _
theorem z_minI (i j : Int) (Q : Vl → Prop) : Wo (biD .min [.sh (.int i), .sh (.int j)]) Q = Q (.sh (.int (min i j))) := z_some _ _
theorem z_absI (i : Int) (Q : Vl → Prop) : Wo (biD .abs [.sh (.int i)]) Q = Q (.sh (.int (if i < 0 then -i else i))) := z_some _ _
theorem z_gcdI (i j : Int) (Q : Vl → Prop) : Wo (biD .gcd [.sh (.int i), .sh (.int j)]) Q = Q (.sh (.int ((Nat.gcd i.natAbs j.natAbs : Nat) : Int))) := z_some _ _
theorem z_listSh (ys : List D) (Q : Vl → Prop) : Wo (biD .list [.sh (.lst ys)]) Q = Q (.fr 1 (.lst ys)) := z_some _ _
theorem z_listBo (ys : List D) (Q : Vl → Prop) : Wo (biD .list [.bo 1 (.lst ys)]) Q = Q (.fr 1 (.lst ys)) := z_some _ _
theorem z_listT (ys : List D) (Q : Vl → Prop) : Wo (biD .list [.sh (.tup ys)]) Q = Q (.fr 1 (.lst ys)) := z_some _ _
theorem z_tupleSh (ys : List D) (Q : Vl → Prop) : Wo (biD .tuple [.sh (.lst ys)]) Q = Q (.sh (.tup ys)) := z_some _ _
theorem z_tupleBo (ys : List D) (Q : Vl → Prop) : Wo (biD .tuple [.bo 1 (.lst ys)]) Q = Q (.sh (.tup ys)) := z_some _ _
theorem z_tupleT (ys : List D) (Q : Vl → Prop) : Wo (biD .tuple [.sh (.tup ys)]) Q = Q (.sh (.tup ys)) := z_some _ _
theorem z_ixL (x : Vl) (xs : List D) (i : Int) (Q : Vl → Prop) : ixW x Q (.lst xs) (.int i) = Wo (atI xs i) fun d => Wo (x.part d) Q := rfl
theorem z_ixT (x : Vl) (xs : List D) (i : Int) (Q : Vl → Prop) : ixW x Q (.tup xs) (.int i) = Wo (atI xs i) fun d => Wo (x.part d) Q := rfl
theorem z_ixS (x : Vl) (xs : List Int) (i : Int) (Q : Vl → Prop) : ixW x Q (.scr xs) (.int i) = Wo (atI xs i) fun n => Q (.sh (.int n)) := rfl
theorem z_ixX (x : Vl) (z : Str) (i : Int) (Q : Vl → Prop) : ixW x Q (.str z) (.int i) = (z.length ≤ 100000 ∧ Wo (atI z.cps.toList i) fun c => Q (.sh (.str ⟨#[c]⟩))) := rfl
theorem z_ixD (x : Vl) (ks : Ky) (xs : List D) (k : D) (Q : Vl → Prop) : ixW x Q (.dct ks xs) k = Wo (ks.at k) fun o => Wo o fun i => Wo (xs[i]?) fun d => x.low = true ∧ Q (.sh d) := rfl
/-! tests -/
theorem zt_not (a : Ep) (ε : Env) (Q : Bool → Prop) : Wr (testD Φ (.not a) ε) Q E = Wr (testD Φ a ε) (fun b => Q (!b)) E := by simp only [testD, z_rb, z_rp]
theorem zt_and (a b : Ep) (ε : Env) (Q : Bool → Prop) : Wr (testD Φ (.and a b) ε) Q E = Wr (testD Φ a ε) (fun x => if x = true then Wr (testD Φ b ε) Q E else Q false) E := by simp only [testD, z_rb, z_rp, z_if]
theorem zt_or (a b : Ep) (ε : Env) (Q : Bool → Prop) : Wr (testD Φ (.or a b) ε) Q E = Wr (testD Φ a ε) (fun x => if x = true then Q true else Wr (testD Φ b ε) Q E) E := by simp only [testD, z_rb, z_rp, z_if]
theorem zt_v (i : Nat) (ε : Env) (Q : Bool → Prop) : Wr (testD Φ (.v i) ε) Q E = Wo (getS ε i) fun r => Wo r.use fun x => Wo (truD x.d) Q := by simp only [testD, z_rb, z_rl, z_bind]
theorem zt_c (d : D) (ε : Env) (Q : Bool → Prop) : Wr (testD Φ (.c d) ε) Q E = Wo (truD d) Q := by simp only [testD, z_rl]
theorem zt_cmp (op : CmpOp) (a b : Ep) (ε : Env) (Q : Bool → Prop) : Wr (testD Φ (.cmp op a b) ε) Q E = Wr (evalD Φ a ε) (fun x => Wr (evalD Φ b ε) (fun y => Wo (cmpD op x.d y.d) Q) E) E := by simp only [testD, z_rb, z_rl]
theorem zt_chn (o1 o2 : CmpOp) (a b c : Ep) (ε : Env) (Q : Bool → Prop) : Wr (testD Φ (.chn o1 o2 a b c) ε) Q E = Wr (evalD Φ a ε) (fun x => Wr (evalD Φ b ε) (fun y => Wo (cmpD o1 x.d y.d) fun t => if t = true then Wr (evalD Φ c ε) (fun z => Wo (cmpD o2 y.d z.d) Q) E else Q false) E) E := by simp only [testD, z_rb, z_rl, z_rp, z_if]
theorem zt_ix (a b : Ep) (ε : Env) (Q : Bool → Prop) : Wr (testD Φ (.ix a b) ε) Q E = Wr (evalD Φ a ε) (fun x => Wr (evalD Φ b ε) (fun y => ixW x (fun r => Wo (truD r.d) Q) x.d y.d) E) E := by
  simp only [testD, z_rb, z_rl]
  congr 1; funext x; congr 1; funext y
  unfold ixD
  cases x.d <;> cases y.d <;> simp [ixW, z_none, z_some, z_bind, z_map, z_ite, z_ifo]
theorem zt_call (f : Nat) (es : Eps) (ε : Env) (Q : Bool → Prop) : Wr (testD Φ (.call f es) ε) Q E = Wr (argsD Φ es ε) (fun as => Wr (Φ.call f as) (fun r => Wo (truD r.d) Q) E) E := by simp only [testD, z_rb, z_rl]
theorem zt_bi (b : BI) (es : Eps) (ε : Env) (Q : Bool → Prop) : Wr (testD Φ (.bi b es) ε) Q E = Wr (argsD Φ es ε) (fun as => Wo (biD b as) fun r => Wo (truD r.d) Q) E := by simp only [testD, z_rb, z_rl]
theorem zt_isi (t : TyN) (a : Ep) (ε : Env) (Q : Bool → Prop) : Wr (testD Φ (.isi t a) ε) Q E = Wr (evalD Φ a ε) (fun x => Wo (isiD t x.d) Q) E := by simp only [testD, z_rb, z_rl]
theorem zt_fld (al : List Nat) (a : Ep) (f : Str) (ε : Env) (Q : Bool → Prop) : Wr (testD Φ (.fld al a f) ε) Q E = Wr (evalD Φ a ε) (fun x => Wo (fldD al x f) fun r => Wo (truD r.d) Q) E := by simp only [testD, z_rb, z_rl]
theorem zt_mth (m : Str) (a : Ep) (es : Eps) (ε : Env) (Q : Bool → Prop) : Wr (testD Φ (.mth m a es) ε) Q E = Wr (evalD Φ a ε) (fun x => Wo (methD Φ m x) fun fx => Wr (argsD Φ es ε) (fun as => Wr (Φ.call fx.1 (fx.2 :: as)) (fun r => Wo (truD r.d) Q) E) E) E := by simp only [testD, z_rb, z_rl]
theorem z_truB (b : Bool) (Q : Bool → Prop) : Wo (truD (.bl b)) Q = Q b := z_some _ _
theorem z_truL (xs : List D) (Q : Bool → Prop) : Wo (truD (.lst xs)) Q = Q (!xs.isEmpty) := z_some _ _
theorem z_truI (i : Int) (Q : Bool → Prop) : Wo (truD (.int i)) Q = Q (i != 0) := z_some _ _
/-! statements -/
theorem z_nil (ε : Env) (Q : O → Prop) : Wo (execsD Φ .nil ε) Q = Q (.nx ε) := by simp only [execsD, z_some]
/-- a statement, then the rest -/
def andThen (Φ : Fns) (ss : Sms) (Q : O → Prop) : O → Prop
  | .nx ε => Wo (execsD Φ ss ε) Q
  | o => Q o
theorem z_seq (s : Sm) (ss : Sms) (ε : Env) (Q : O → Prop) : Wo (execsD Φ (.cons s ss) ε) Q = Wo (execD Φ s ε) (andThen Φ ss Q) := by
  simp only [execsD, z_bind]
  congr 1; funext o
  cases o <;> simp [andThen, z_some]
theorem z_thenNx (ss : Sms) (ε : Env) (Q : O → Prop) : andThen Φ ss Q (.nx ε) = Wo (execsD Φ ss ε) Q := rfl
theorem z_thenRt (ss : Sms) (r : Vl) (Q : O → Prop) : andThen Φ ss Q (.rt r) = Q (.rt r) := rfl
theorem z_thenBk (ss : Sms) (ε : Env) (Q : O → Prop) : andThen Φ ss Q (.bk ε) = Q (.bk ε) := rfl
theorem z_thenCt (ss : Sms) (ε : Env) (Q : O → Prop) : andThen Φ ss Q (.ct ε) = Q (.ct ε) := rfl
theorem z_thenEr (ss : Sms) (c : Nat) (ns : List Str) (ds : List D) (ε : Env) (Q : O → Prop) : andThen Φ ss Q (.er c ns ds ε) = Q (.er c ns ds ε) := rfl
/-- the errors of a statement's expressions -/
abbrev erW (Q : O → Prop) (ε : Env) : EK := fun c ns ds => Q (.er c ns ds ε)
theorem z_asg (t : Tg) (e : Ep) (ε : Env) (Q : O → Prop) : Wo (execD Φ (.asg t e) ε) Q = Wr (evalD Φ e ε) (fun r => Wo (bindT t r ε) fun ε2 => Q (.nx ε2)) (erW Q ε) := by simp only [execD, z_ob, z_map]
theorem z_exp (e : Ep) (ε : Env) (Q : O → Prop) : Wo (execD Φ (.exp e) ε) Q = Wr (evalD Φ e ε) (fun _ => Q (.nx ε)) (erW Q ε) := by simp only [execD, z_ob, z_some]
theorem z_bindSh (i : Nat) (d : D) (ε : Env) (Q : Env → Prop) : Wo (bindT (.n i) (.sh d) ε) Q = setW ε i (some (.sh d)) Q := z_some _ _
theorem z_bindFr (i n : Nat) (d : D) (ε : Env) (Q : Env → Prop) : Wo (bindT (.n i) (.fr n d) ε) Q = setW ε i (some (.fr n d)) Q := z_some _ _
theorem z_bindUs (i n : Nat) (d : D) (ε : Env) (Q : Env → Prop) : Wo (bindT (.n i) (.us n d) ε) Q = setW ε i (some (.us n d)) Q := z_some _ _
theorem z_bindBo (i n : Nat) (d : D) (ε : Env) (Q : Env → Prop) : Wo (bindT (.n i) (.bo n d) ε) Q = setW ε i (some (.bo n d)) Q := z_some _ _
theorem parts_sh (d : D) : ∀ xs : List D, partsD (.sh d) xs = some (xs.map .sh)
  | [] => rfl
  | x :: xs => by simp only [partsD, Vl.part, parts_sh d xs]; rfl
theorem parts_1 {x : Vl} (h : ∃ d, x = .fr 1 d ∨ x = .bo 1 d ∨ x = .us 1 d) : ∀ xs : List D, partsD x xs = some (xs.map .sh)
  | [] => rfl
  | y :: ys => by
    have hp : x.part y = some (.sh y) := by
      obtain ⟨d, rfl | rfl | rfl⟩ := h <;> rfl
    simp only [partsD, hp, parts_1 h ys]; rfl
theorem z_bindT (ts : Tgs) (ds : List D) (ε : Env) (Q : Env → Prop) : Wo (bindT (.t ts) (.sh (.tup ds)) ε) Q = Wo (bindTs ts (ds.map .sh) ε) Q := by
  simp only [bindT, Vl.d, parts_sh, Option.bind_some]
theorem z_mapC (d : D) (ds : List D) : (d :: ds).map Vl.sh = .sh d :: ds.map Vl.sh := rfl
theorem z_mapN : ([] : List D).map Vl.sh = [] := rfl
theorem z_all0 (ε : Env) (Q : Env → Prop) : Wo (bindTs .nil [] ε) Q = Q ε := by simp only [bindTs, z_some]
theorem z_allS (t : Tg) (ts : Tgs) (d : Vl) (ds : List Vl) (ε : Env) (Q : Env → Prop) : Wo (bindTs (.cons t ts) (d :: ds) ε) Q = Wo (bindT t d ε) fun ε2 => Wo (bindTs ts ds ε2) Q := by simp only [bindTs, z_bind]
theorem z_ret (e : Ep) (ε : Env) (Q : O → Prop) : Wo (execD Φ (.ret e) ε) Q = Wr (evalD Φ e ε) (fun r => Wo (retD r) fun x => Q (.rt x)) (erW Q ε) := by simp only [execD, z_ob, z_map]
theorem z_retV (i : Nat) (ε : Env) (Q : O → Prop) : Wo (execD Φ (.retV i) ε) Q = Wo (getS ε i) fun r => Wo (retD r) fun x => Q (.rt x) := by simp only [execD, z_bind, z_map]
theorem z_rtSh (d : D) (Q : Vl → Prop) : Wo (retD (.sh d)) Q = Q (.sh d) := z_some _ _
theorem z_rtFr (n : Nat) (d : D) (Q : Vl → Prop) : Wo (retD (.fr n d)) Q = Q (.fr n d) := z_some _ _
theorem z_ifs (c : Ep) (a b : Sms) (ε : Env) (Q : O → Prop) : Wo (execD Φ (.ifs c a b) ε) Q = Wr (testD Φ c ε) (fun t => if t = true then Wo (execsD Φ a ε) Q else Wo (execsD Φ b ε) Q) (erW Q ε) := by simp only [execD, z_ob, z_ifo]
theorem z_frs (t : Tg) (it : Epi) (b : Sms) (ε : Env) (Q : O → Prop) : Wo (execD Φ (.frs t it b) ε) Q = Wr (loopD Φ it ε) (fun xs => Wo (forD t (fun ε2 => execsD Φ b ε2) xs ε) Q) (erW Q ε) := by simp only [execD, z_ob]
theorem z_nu0 (P : Prop) : nuW [] P = P := by simp [nuW, noUs]
theorem z_nuN (l : Env) (P : Prop) : nuW (none :: l) P = nuW l P := rfl
theorem z_nuS (d : D) (l : Env) (P : Prop) : nuW (some (.sh d) :: l) P = nuW l P := rfl
theorem z_nuF (n : Nat) (d : D) (l : Env) (P : Prop) : nuW (some (.fr n d) :: l) P = nuW l P := rfl
theorem z_nuB (n : Nat) (d : D) (l : Env) (P : Prop) : nuW (some (.bo n d) :: l) P = nuW l P := rfl
theorem z_nuE (c : Nat) (ns : List Str) (ds : List D) (l : Env) (P : Prop) : nuW (some (.ex c ns ds) :: l) P = nuW l P := rfl
theorem z_nuO (c : Nat) (ns : List Str) (ds : List D) (l : Env) (P : Prop) : nuW (some (.no c ns ds) :: l) P = nuW l P := rfl
theorem z_du0 (Q : Env → Prop) : duW [] Q = Q [] := rfl
theorem z_duN (l : Env) (Q : Env → Prop) : duW (none :: l) Q = duW l fun l' => Q (none :: l') := rfl
theorem z_duS (d : D) (l : Env) (Q : Env → Prop) : duW (some (.sh d) :: l) Q = duW l fun l' => Q (some (.sh d) :: l') := rfl
theorem z_duF (n : Nat) (d : D) (l : Env) (Q : Env → Prop) : duW (some (.fr n d) :: l) Q = duW l fun l' => Q (some (.fr n d) :: l') := rfl
theorem z_duB (n : Nat) (d : D) (l : Env) (Q : Env → Prop) : duW (some (.bo n d) :: l) Q = duW l fun l' => Q (some (.bo n d) :: l') := rfl
theorem z_duU (n : Nat) (d : D) (l : Env) (Q : Env → Prop) : duW (some (.us n d) :: l) Q = duW l fun l' => Q (none :: l') := rfl
theorem z_sl0 (a : Option Vl) (l : Env) (K : Option Vl → Prop) : slW (a :: l) 0 K = K a := by cases a <;> rfl
theorem z_slS (a : Option Vl) (l : Env) (n : Nat) (K : Option Vl → Prop) : slW (a :: l) (n + 1) K = slW l n K := rfl
theorem z_sxL (A B : Prop) (n : Nat) (xs : List D) : sxW A B (some (.fr n (.lst xs))) = B := rfl
theorem z_sxD (A B : Prop) (n : Nat) (ks : Ky) (xs : List D) : sxW A B (some (.fr n (.dct ks xs))) = A := rfl
theorem z_odW (Q : Ky → List D → Prop) (ks : Ky) (xs : List D) : odW Q (.fr 1 (.dct ks xs)) = Q ks xs := by simp [odW]
theorem z_spW (is : List Int) (k : Int) (d : D) (Q : Nat → D → Prop) (n : Nat) (t : D) : spW is k d Q (.fr n t) = (n = is.length + 1 ∧ Wo (setAt is k d t) (Q n)) := rfl
theorem z_ownL (ε : Env) (i : Nat) (Q : List D → Prop) : Wo (ownL ε i) Q = nuW ε (Wo (getS ε i) (ownW Q)) := by
  unfold ownL nuW
  cases getS ε i with
  | none => simp [z_none]
  | some l =>
    rw [z_some]
    cases l with
    | fr n d =>
      cases d <;> simp [z_none, ownW, z_ite]
      rw [and_comm (a := n = 1), and_assoc]
    | _ => simp [z_none, ownW]
theorem z_ownDc (ε : Env) (i : Nat) (Q : Ky × List D → Prop) : Wo (ownD ε i) Q = nuW ε (Wo (getS ε i) (odW fun ks xs => Q (ks, xs))) := by
  unfold ownD nuW
  cases getS ε i with
  | none => simp [z_none]
  | some l =>
    rw [z_some]
    cases l with
    | fr n d =>
      cases d <;> simp [z_none, odW, z_ite]
      rw [and_comm (a := n = 1), and_assoc]
    | _ => simp [z_none, odW]
theorem z_ownW (xs : List D) (Q : List D → Prop) : ownW Q (.fr 1 (.lst xs)) = Q xs := by simp [ownW]
theorem z_app (i : Nat) (e : Ep) (ε : Env) (Q : O → Prop) : Wo (execD Φ (.app i e) ε) Q = nuW ε (Wo (getS ε i) (ownW fun xs => Wr (evalD Φ e ε) (fun r => Wo r.keep fun d => xs.length < 100000 ∧ setW ε i (some (.fr 1 (.lst (xs ++ [d])))) fun ε2 => Q (.nx ε2)) (erW Q ε))) := by
  simp only [execD, z_bind, z_ownL, z_ob, z_ite]
  rfl
theorem z_setx (i : Nat) (j e : Ep) (ε : Env) (Q : O → Prop) : Wo (execD Φ (.setx i j e) ε) Q = slW ε i (sxW
    (Wr (evalD Φ e ε) (fun r => Wo r.keep fun d => nuW ε (Wo (getS ε i) (odW fun ks xs => Wr (evalD Φ j ε) (fun x => Wo (putDc ks xs x.d d) fun t => setW ε i (some (.fr 1 t)) fun ε2 => Q (.nx ε2)) E0))) (erW Q ε))
    (Wr (evalD Φ e ε) (fun r => Wo r.keep fun d => nuW ε (Wo (getS ε i) (ownW fun xs => Wr (evalD Φ j ε) (fun x => Wo (asI x.d) fun k => Wo (ixN xs.length k) fun n => setW ε i (some (.fr 1 (.lst (xs.set n d)))) fun ε2 => Q (.nx ε2)) (erW Q ε)))) (erW Q ε))) := by
  have key : ∀ A B : Prop, (if isDc ε i = true then A else B) = slW ε i (sxW A B) := fun A B => by
    unfold isDc slW
    cases getS ε i with
    | none => simp [sxW]
    | some l =>
      cases l with
      | fr n d => cases d <;> simp [sxW]
      | _ => simp [sxW]
  rw [← key]
  simp only [execD, z_ifo, z_bind, z_ownL, z_ob, z_map, z_ownDc, z_okO]
  rfl
theorem z_ins (i : Nat) (j e : Ep) (ε : Env) (Q : O → Prop) : Wo (execD Φ (.ins i j e) ε) Q = nuW ε (Wo (getS ε i) (ownW fun xs => Wr (evalD Φ j ε) (fun x => Wr (evalD Φ e ε) (fun r => Wo r.keep fun d => Wo (asI x.d) fun k => (xs.length < 100000 ∧ 0 ≤ k ∧ k < 2 ^ 62) ∧ setW ε i (some (.fr 1 (.lst (xs.take k.toNat ++ d :: xs.drop k.toNat)))) fun ε2 => Q (.nx ε2)) (erW Q ε)) (erW Q ε))) := by
  simp only [execD, z_bind, z_ownL, z_ob, z_ite]
  rfl
theorem z_popT (t : Tg) (i : Nat) (a : Epo) (ε : Env) (Q : O → Prop) : Wo (execD Φ (.popT t i a) ε) Q = nuW ε (Wo (getS ε i) (ownW fun xs => Wr (partD Φ a ε) (fun k => Wo (popD xs k) fun p => setW ε i (some (.fr 1 (.lst p.2))) fun ε1 => Wo (bindT t (.sh p.1) ε1) fun ε2 => Q (.nx ε2)) (erW Q ε))) := by
  simp only [execD, z_bind, z_ownL, z_ob, z_map]
  rfl
theorem z_appPop (i j : Nat) (a : Epo) (ε : Env) (Q : O → Prop) (h : i ≠ j) : Wo (execD Φ (.appPop i j a) ε) Q = nuW ε (Wo (getS ε i) (ownW fun ys => nuW ε (Wo (getS ε j) (ownW fun xs => Wr (partD Φ a ε) (fun k => Wo (popD xs k) fun p => ys.length < 100000 ∧ setW ε j (some (.fr 1 (.lst p.2))) fun ε1 => setW ε1 i (some (.fr 1 (.lst (ys ++ [p.1])))) fun ε2 => Q (.nx ε2)) (erW Q ε))))) := by
  simp only [execD, if_neg h, z_bind, z_ownL, z_ob, z_ite]
  rfl
theorem z_ixsN (ε : Env) (Q : List Int → Prop) : Wr (ixsD Φ .nil ε) Q E = Q [] := by simp only [ixsD, z_rp]
theorem z_ixsC (e : Ep) (es : Eps) (ε : Env) (Q : List Int → Prop) : Wr (ixsD Φ (.cons e es) ε) Q E = Wr (evalD Φ e ε) (fun x => Wo (asI x.d) fun i => Wr (ixsD Φ es ε) (fun is => Q (i :: is)) E) E := by simp only [ixsD, z_rb, z_rl, z_rp]
theorem z_setp (i : Nat) (js : Eps) (j e : Ep) (ε : Env) (Q : O → Prop) : Wo (execD Φ (.setp i js j e) ε) Q = Wr (evalD Φ e ε) (fun r => Wo r.keep fun d => Wr (ixsD Φ js ε) (fun is => Wr (evalD Φ j ε) (fun x => Wo (asI x.d) fun k => nuW ε (Wo (getS ε i) (spW is.reverse k d fun n t => setW ε i (some (.fr n t)) fun ε2 => Q (.nx ε2)))) E0) E0) (erW Q ε) := by
  have key : ∀ is k d (K : Env → Prop), Wo (putD ε i is k d) K = nuW ε (Wo (getS ε i) (spW is k d fun n t => setW ε i (some (.fr n t)) K)) := fun is k d K => by
    unfold putD nuW
    cases getS ε i with
    | none => simp [z_none]
    | some l =>
      rw [z_some]
      cases l with
      | fr n t =>
        by_cases h1 : n = is.length + 1
        · by_cases h2 : noUs ε = true
          · simp [h1, h2, spW, z_map, setW]
          · simp [h2, z_none]
        · simp [h1, z_none, spW]
      | _ => simp [z_none, spW]
  simp only [execD, z_ob, z_bind, z_map, z_okO, key]
theorem z_ku (ε : Env) (Q : O → Prop) : Wo (execD Φ .ku ε) Q = duW ε fun ε2 => Q (.nx ε2) := by simp only [execD, z_some]; rfl
theorem z_brk (ε : Env) (Q : O → Prop) : Wo (execD Φ .brk ε) Q = Q (.bk ε) := by simp only [execD, z_some]
theorem z_cnt (ε : Env) (Q : O → Prop) : Wo (execD Φ .cnt ε) Q = Q (.ct ε) := by simp only [execD, z_some]
theorem z_pas (ε : Env) (Q : O → Prop) : Wo (execD Φ .pas ε) Q = Q (.nx ε) := by simp only [execD, z_some]
def frzW (ε : Env) (i : Nat) (Q : Env → Prop) : Prop := Q (frz ε i)
theorem z_fz (i : Nat) (ε : Env) (Q : O → Prop) : Wo (execD Φ (.fz i) ε) Q = frzW ε i fun ε2 => Q (.nx ε2) := by simp only [execD, z_some]; rfl
theorem z_fz0s (d : D) (l : Env) (Q : Env → Prop) : frzW (some (.sh d) :: l) 0 Q = Q (some (.sh d) :: l) := rfl
theorem z_fz0b (n : Nat) (d : D) (l : Env) (Q : Env → Prop) : frzW (some (.bo n d) :: l) 0 Q = Q (some (.bo n d) :: l) := rfl
theorem z_fz0n (l : Env) (Q : Env → Prop) : frzW (none :: l) 0 Q = Q (none :: l) := rfl
theorem z_fz0f (n : Nat) (d : D) (l : Env) (Q : Env → Prop) : frzW (some (.fr n d) :: l) 0 Q = Q (some (.sh d) :: l) := rfl
theorem z_fzS (a : Option Vl) (l : Env) (n : Nat) (Q : Env → Prop) : frzW (a :: l) (n + 1) Q = frzW l n fun l' => Q (a :: l') := by
  unfold frzW frz
  rw [show getS (a :: l) (n + 1) = getS l n from rfl]
  cases getS l n with
  | none => rfl
  | some r => cases r <;> rfl
/-! loops -/
theorem z_items (x : Vl) (Q : List Vl → Prop) : Wo (itemsD x) Q = itW x Q x.d := by
  unfold itemsD
  cases x.d <;> simp [itW, z_none, z_some]
theorem zl_over (e : Ep) (ε : Env) (Q : List Vl → Prop) : Wr (loopD Φ (.over e) ε) Q E = Wr (evalD Φ e ε) (fun x => Wo (stillV x) fun y => itW y Q y.d) E := by
  simp only [loopD, loopE, z_rb, z_rl, z_items]
theorem zi_over (a : Ep) (ε : Env) (Q : List Vl → Prop) : Wr (iterD Φ (.over a) ε) Q E = Wr (evalD Φ a ε) (fun x => itW x Q x.d) E := by simp only [iterD, z_rb, z_rl, z_items]
theorem zl_r1 (a : Ep) (ε : Env) (Q : List Vl → Prop) : Wr (loopD Φ (.r1 a) ε) Q E = Wr (evalD Φ a ε) (fun x => Wo (asI x.d) fun n => smallI n = true ∧ Q ((rangeD 0 n).map .sh)) E := by simp only [loopD, iterD, z_rb, z_rl, z_rite]
theorem zi_r1 (a : Ep) (ε : Env) (Q : List Vl → Prop) : Wr (iterD Φ (.r1 a) ε) Q E = Wr (evalD Φ a ε) (fun x => Wo (asI x.d) fun n => smallI n = true ∧ Q ((rangeD 0 n).map .sh)) E := by simp only [iterD, z_rb, z_rl, z_rite]
theorem zl_r2 (a b : Ep) (ε : Env) (Q : List Vl → Prop) : Wr (loopD Φ (.r2 a b) ε) Q E = Wr (evalD Φ a ε) (fun x => Wr (evalD Φ b ε) (fun y => Wo (asI x.d) fun l => Wo (asI y.d) fun n => (smallI l = true ∧ smallI n = true) ∧ Q ((rangeD l n).map .sh)) E) E := by simp only [loopD, iterD, z_rb, z_rl, z_rite]
theorem zi_r2 (a b : Ep) (ε : Env) (Q : List Vl → Prop) : Wr (iterD Φ (.r2 a b) ε) Q E = Wr (evalD Φ a ε) (fun x => Wr (evalD Φ b ε) (fun y => Wo (asI x.d) fun l => Wo (asI y.d) fun n => (smallI l = true ∧ smallI n = true) ∧ Q ((rangeD l n).map .sh)) E) E := by simp only [iterD, z_rb, z_rl, z_rite]
theorem zl_enum (e : Ep) (ε : Env) (Q : List Vl → Prop) : Wr (loopD Φ (.enum e) ε) Q E = Wr (evalD Φ e ε) (fun x => Wo (stillV x) fun y => Wo (seqD y) fun xs => Q ((enumV xs).map .sh)) E := by
  simp only [loopD, loopE, z_rb, z_rl, z_rp]
theorem zl_rev (e : Ep) (ε : Env) (Q : List Vl → Prop) : Wr (loopD Φ (.rev e) ε) Q E = Wr (evalD Φ e ε) (fun x => Wo (stillV x) fun y => Wo (lowD y) fun xs => Q (xs.reverse.map .sh)) E := by
  simp only [loopD, loopE, z_rb, z_rl, z_rp]
theorem z_stS (d : D) (Q : Vl → Prop) : Wo (stillV (.sh d)) Q = Q (.sh d) := z_some _ _
theorem z_stF (n : Nat) (d : D) (Q : Vl → Prop) : Wo (stillV (.fr n d)) Q = Q (.sh d) := z_some _ _
theorem z_stB (n : Nat) (d : D) (Q : Vl → Prop) : Wo (stillV (.bo n d)) Q = Q (.bo n d) := z_some _ _
theorem z_itLs (d : D) (xs : List D) (Q : List Vl → Prop) : itW (.sh d) Q (.lst xs) = Q (xs.map .sh) := by simp only [itW, parts_sh, z_some]
theorem z_itTs (d : D) (xs : List D) (Q : List Vl → Prop) : itW (.sh d) Q (.tup xs) = Q (xs.map .sh) := by simp only [itW, parts_sh, z_some]
theorem z_itX (x : Vl) (z : Str) (Q : List Vl → Prop) : itW x Q (.str z) = Q (z.cps.toList.map fun c => .sh (.str ⟨#[c]⟩)) := rfl
theorem z_itLb (d : D) (xs : List D) (Q : List Vl → Prop) : itW (.bo 1 d) Q (.lst xs) = Q (xs.map .sh) := by simp only [itW, parts_1 ⟨d, .inr (.inl rfl)⟩, z_some]
theorem z_itTb (d : D) (xs : List D) (Q : List Vl → Prop) : itW (.bo 1 d) Q (.tup xs) = Q (xs.map .sh) := by simp only [itW, parts_1 ⟨d, .inr (.inl rfl)⟩, z_some]
theorem z_itLu (d : D) (xs : List D) (Q : List Vl → Prop) : itW (.us 1 d) Q (.lst xs) = Q (xs.map .sh) := by simp only [itW, parts_1 ⟨d, .inr (.inr rfl)⟩, z_some]
theorem z_itLf (d : D) (xs : List D) (Q : List Vl → Prop) : itW (.fr 1 d) Q (.lst xs) = Q (xs.map .sh) := by simp only [itW, parts_1 ⟨d, .inl rfl⟩, z_some]
theorem z_seqT (xs : List D) (Q : List D → Prop) : Wo (seqD (.sh (.tup xs))) Q = Q xs := z_some _ _
theorem z_seqSh (xs : List D) (Q : List D → Prop) : Wo (seqD (.sh (.lst xs))) Q = Q xs := z_some _ _
theorem z_seqBo (xs : List D) (Q : List D → Prop) : Wo (seqD (.bo 1 (.lst xs))) Q = Q xs := z_some _ _
theorem z_lowSh (xs : List D) (Q : List D → Prop) : Wo (lowD (.sh (.lst xs))) Q = Q xs := z_some _ _
theorem z_lowBo (xs : List D) (Q : List D → Prop) : Wo (lowD (.bo 1 (.lst xs))) Q = Q xs := z_some _ _
/-- a for by an invariant: it goes to the end -/
theorem zl_for {t : Tg} {f : Env → Option O} {Q : O → Prop} (P : Nat → Env → Prop) {xs : List D} {ε : Env} (h0 : P 0 ε)
    (hs : ∀ (i : Nat) (d : D) (ε : Env), xs[i]? = some d → P i ε → Wo (bindT t (.sh d) ε) fun ε2 => Wo (f ε2) fun o => match o with | .nx ε3 => P (i + 1) ε3 | .ct ε3 => P (i + 1) ε3 | .bk ε3 => Q (.nx ε3) | o => Q o)
    (hd : ∀ ε, P xs.length ε → Q (.nx ε)) : Wo (forD t f (xs.map .sh) ε) Q := by
  have key : ∀ (ys : List D) (i : Nat) (ε : Env), xs.drop i = ys → i ≤ xs.length → P i ε → Wo (forD t f (ys.map .sh) ε) Q := by
    intro ys
    induction ys with
    | nil =>
      intro i ε e hi hp
      have : xs.length ≤ i := by have := congrArg List.length e; simp at this; omega
      have e2 : i = xs.length := by omega
      subst e2
      exact ⟨_, rfl, hd ε hp⟩
    | cons y ys ih =>
      intro i ε e hi hp
      have hlt : i < xs.length := by
        have := congrArg List.length e
        simp at this; omega
      have hy : xs[i]? = some y := by
        have := congrArg List.head? e
        rw [List.head?_drop] at this
        exact this
      have htl : xs.drop (i + 1) = ys := by
        have := congrArg List.tail e
        rw [List.tail_drop] at this
        exact this
      obtain ⟨ε2, h1, o, h2, h3⟩ := hs i y ε hy hp
      simp only [List.map_cons, forD, h1, h2, Option.bind_some]
      cases o with
      | nx ε3 => exact ih (i + 1) ε3 htl (by omega) h3
      | ct ε3 => exact ih (i + 1) ε3 htl (by omega) h3
      | bk ε3 => exact ⟨_, rfl, h3⟩
      | rt r => exact ⟨_, rfl, h3⟩
      | er c ns ds ε3 => exact ⟨_, rfl, h3⟩
  exact key xs 0 ε rfl (Nat.zero_le _) h0
/-- a while by an invariant with a measure -/
theorem zl_whl {c : Ep} {b : Sms} {ε : Env} {Q : O → Prop} (P : Nat → Env → Prop) {m : Nat} (hm : m < whlFuel) (h0 : P m ε)
    (hs : ∀ m ε, P m ε → Wr (testD Φ c ε) (fun t => if t = true then Wo (execsD Φ b ε) fun o => match o with | .nx ε3 => ∃ m', m' < m ∧ P m' ε3 | .ct ε3 => ∃ m', m' < m ∧ P m' ε3 | .bk ε3 => Q (.nx ε3) | o => Q o else Q (.nx ε)) (erW Q ε)) :
    Wo (execD Φ (.whl c b) ε) Q := by
  simp only [execD]
  have key : ∀ (k m : Nat) (ε : Env), m < k → P m ε → Wo (whlD (fun ε2 => testD Φ c ε2) (fun ε2 => execsD Φ b ε2) k ε) Q := by
    intro k
    induction k with
    | zero => intro m ε h; omega
    | succ k ih =>
      intro m ε hk hp
      simp only [whlD, z_ob]
      refine (hs m ε hp).mono fun t ht => ?_
      cases t with
      | false => simpa [z_some] using ht
      | true =>
        simp only [if_true] at ht ⊢
        obtain ⟨o, h1, h2⟩ := ht
        rw [h1]
        cases o with
        | nx ε3 => obtain ⟨m', h3, h4⟩ := h2; exact ih m' ε3 (by omega) h4
        | ct ε3 => obtain ⟨m', h3, h4⟩ := h2; exact ih m' ε3 (by omega) h4
        | bk ε3 => exact ⟨_, rfl, h2⟩
        | rt r => exact ⟨_, rfl, h2⟩
        | er c ns ds ε3 => exact ⟨_, rfl, h2⟩
  exact key whlFuel m ε hm h0
/-! comprehensions -/
def lcF (Φ : Fns) (t : Tg) (cs : Eps) (e : Ep) (ε : Env) (x : Vl) : Option (Option D) := (bindT t x ε).bind fun ε2 => (okO (testsD Φ cs ε2)).bind fun tb =>
        if tb = true then (okO (evalD Φ e ε2)).bind fun r => r.keep.map some else some none
def wipeW (ε : Env) : List Nat → (Env → Prop) → Prop
  | [], Q => Q ε
  | v :: vs, Q => wipeW ε vs fun ε2 => setW ε2 v none Q
theorem wipeW_eq (ε : Env) : ∀ (vs : List Nat) (Q : Env → Prop), wipeW ε vs Q = Q (wipeE ε vs)
  | [], Q => rfl
  | v :: vs, Q => by
    show wipeW ε vs (fun ε2 => setW ε2 v none Q) = _
    rw [wipeW_eq ε vs]; rfl
theorem z_lc (t : Tg) (it : Epi) (cs : Eps) (e : Ep) (own : List Nat) (ε : Env) (Q : Vl → Prop) : Wr (evalD Φ (.lc t it cs e own) ε) Q E = Wr (iterD Φ it ε) (fun xs => xs.length ≤ 100000 ∧ wipeW ε own fun ε2 => Wo (lcGo (lcF Φ t cs e ε2) xs) fun ys => Q (.fr 1 (.lst ys))) E := by
  simp only [evalD, z_rb, wipeW_eq]
  congr 1; funext xs
  by_cases h : xs.length ≤ 100000
  · simp only [h, if_true, true_and, z_rl, z_map]; rfl
  · simp [h, z_no]
theorem z_wipe0 (ε : Env) (Q : Env → Prop) : wipeW ε [] Q = Q ε := rfl
theorem z_wipeS (ε : Env) (v : Nat) (vs : List Nat) (Q : Env → Prop) : wipeW ε (v :: vs) Q = wipeW ε vs fun ε2 => setW ε2 v none Q := rfl
theorem z_lcF0 (t : Tg) (e : Ep) (ε : Env) (x : Vl) (Q : Option D → Prop) : Wo (lcF Φ t .nil e ε x) Q = Wo (bindT t x ε) fun ε2 => Wr (evalD Φ e ε2) (fun r => Wo r.keep fun d => Q (some d)) E0 := by
  unfold lcF
  simp only [z_bind, z_map, testsD, z_okO, z_rp, if_true]
theorem z_lcF1 (t : Tg) (c e : Ep) (ε : Env) (x : Vl) (Q : Option D → Prop) : Wo (lcF Φ t (.cons c .nil) e ε x) Q = Wo (bindT t x ε) fun ε2 => Wr (testD Φ c ε2) (fun b => if b = true then Wr (evalD Φ e ε2) (fun r => Wo r.keep fun d => Q (some d)) E0 else Q none) E0 := by
  unfold lcF
  simp only [z_bind, testsD, z_okO, z_rb]
  congr 1; funext ε2; congr 1; funext b
  cases b <;> simp [z_some, z_bind, z_map, z_rp, z_okO]
def lcFn (Φ : Fns) (k : Nat) (t : Tg) (cs : Eps) (e : Ep) (ε : Env) (x : Vl) : Option (Option D) := (bindT t x ε).bind fun ε2 => (okO (testsD Φ cs ε2)).bind fun tb =>
        if tb = true then (okO (evalD Φ e ε2)).bind fun r => (r.keepN k).map some else some none
theorem z_lcd (k : Nat) (t : Tg) (it : Epi) (cs : Eps) (e : Ep) (own : List Nat) (ε : Env) (Q : Vl → Prop) : Wr (evalD Φ (.lcd k t it cs e own) ε) Q E = Wr (iterD Φ it ε) (fun xs => xs.length ≤ 100000 ∧ wipeW ε own fun ε2 => Wo (lcGo (lcFn Φ k t cs e ε2) xs) fun ys => Q (.fr (k + 1) (.lst ys))) E := by
  simp only [evalD, z_rb, wipeW_eq]
  congr 1; funext xs
  by_cases h : xs.length ≤ 100000
  · simp only [h, if_true, true_and, z_rl, z_map]; rfl
  · simp [h, z_no]
theorem z_lcFn0 (k : Nat) (t : Tg) (e : Ep) (ε : Env) (x : Vl) (Q : Option D → Prop) : Wo (lcFn Φ k t .nil e ε x) Q = Wo (bindT t x ε) fun ε2 => Wr (evalD Φ e ε2) (fun r => Wo (r.keepN k) fun d => Q (some d)) E0 := by
  unfold lcFn
  simp only [z_bind, z_map, testsD, z_okO, z_rp, if_true]
/-- a comprehension that keeps all, by a relation -/
theorem zc_all {F : Vl → Option (Option D)} {P : Nat → D → D → Prop} : ∀ {xs : List D} (k : Nat), (∀ (i : Nat) (d : D), xs[i]? = some d → Wo (F (.sh d)) fun o => ∃ y, o = some y ∧ P (k + i) d y) →
    Wo (lcGo F (xs.map .sh)) fun ys => ys.length = xs.length ∧ ∀ (i : Nat) (d y : D), xs[i]? = some d → ys[i]? = some y → P (k + i) d y
  | [], k, _ => ⟨[], rfl, rfl, fun i d y h => by simp at h⟩
  | x :: xs, k, h => by
    obtain ⟨o, h1, y, rfl, h2⟩ := h 0 x rfl
    obtain ⟨ys, h3, h4, h5⟩ := zc_all (xs := xs) (k + 1) fun i d hd => by
      have := h (i + 1) d (by simpa using hd)
      rwa [show k + (i + 1) = k + 1 + i by omega] at this
    refine ⟨y :: ys, by simp [lcGo, h1, h3], by simp [h4], fun i d z hd hz => ?_⟩
    cases i with
    | zero => simp at hd hz; subst hd hz; exact h2
    | succ i =>
      have := h5 i d z (by simpa using hd) (by simpa using hz)
      rwa [show k + 1 + i = k + (i + 1) by omega] at this
/-- a comprehension by a function -/
theorem zc_fun {F : Vl → Option (Option D)} {g : D → Option D} : ∀ {xs : List D}, (∀ d ∈ xs, F (.sh d) = some (g d)) → lcGo F (xs.map .sh) = some (xs.filterMap g)
  | [], _ => rfl
  | x :: xs, h => by
    have h1 := h x List.mem_cons_self
    have h2 := zc_fun (xs := xs) fun d hd => h d (List.mem_cons_of_mem _ hd)
    simp only [List.map_cons, lcGo, h1, h2, Option.bind_some, List.filterMap_cons]
    cases g x <;> rfl
/-- a def's run -/
def outW (Q : Vl → Prop) (E : EK) : O → Prop
  | .rt r => Wo (retD r) Q
  | .nx _ => Q (.sh .non)
  | .er c ns ds _ => E c ns ds
  | _ => False
theorem z_run (np nn : Nat) (b : Sms) (as : List Vl) (Q : Vl → Prop) (h : as.length = np) : Wr (runD Φ (.fn np nn b) as) Q E = Wo (execsD Φ b (as.map some ++ List.replicate (nn - as.length) none)) (outW Q E) := by
  simp only [runD]
  rw [if_pos h]
  generalize execsD Φ b _ = o
  cases o with
  | none => simp [z_no, z_none]
  | some o => cases o <;> simp [z_some, outW, z_rl, z_rp, z_er, z_no]
theorem run_of {np nn : Nat} {b : Sms} {as : List Vl} {Q : Vl → Prop} (h : as.length = np) (k : Wo (execsD Φ b (as.map some ++ List.replicate (nn - as.length) none)) (outW Q E)) : Wr (runD Φ (.fn np nn b) as) Q E := by
  rw [z_run np nn b as Q h]; exact k
theorem Wr.to {o : Rs α} {Q Q' : α → Prop} (h : Wr o Q E0) (k : ∀ r, Q r → Q' r) : Wr o Q' E := by
  obtain ⟨r, h1, h2⟩ := h
  refine ⟨r, h1, ?_⟩
  cases r with
  | ok a => exact k a h2
  | er c ns ds => exact h2.elim
theorem z_outR (r : Vl) (Q : Vl → Prop) : outW Q E (.rt r) = Wo (retD r) Q := rfl
theorem z_outN (ε : Env) (Q : Vl → Prop) : outW Q E (.nx ε) = Q (.sh .non) := rfl
theorem z_outE (c : Nat) (ns : List Str) (ds : List D) (ε : Env) (Q : Vl → Prop) : outW Q E (.er c ns ds ε) = E c ns ds := rfl
end
end EG
namespace EG
open PySem L2
theorem z_at0 {α : Type} (a : α) (l : List α) (Q : α → Prop) : Wo (atI (a :: l) 0) Q = Q a := by
  have h : atI (a :: l) 0 = some a := atI_nat (j := 0) rfl
  rw [h, z_some]
theorem z_at1 {α : Type} (a b : α) (l : List α) (Q : α → Prop) : Wo (atI (a :: b :: l) 1) Q = Q b := by
  have h : atI (a :: b :: l) 1 = some b := atI_nat (j := 1) rfl
  rw [h, z_some]
theorem z_at2 {α : Type} (a b c : α) (l : List α) (Q : α → Prop) : Wo (atI (a :: b :: c :: l) 2) Q = Q c := by
  have h : atI (a :: b :: c :: l) 2 = some c := atI_nat (j := 2) rfl
  rw [h, z_some]
theorem z_at3 {α : Type} (a b c d : α) (l : List α) (Q : α → Prop) : Wo (atI (a :: b :: c :: d :: l) 3) Q = Q d := by
  have h : atI (a :: b :: c :: d :: l) 3 = some d := atI_nat (j := 3) rfl
  rw [h, z_some]
theorem z_last {α : Type} (a : α) (l : List α) (Q : α → Prop) : Wo (atI (l ++ [a]) (-1)) Q = Q a := by
  rw [atI_last, z_some]
theorem z_isB (i j : Bool) (Q : Bool → Prop) : Wo (cmpD .Is (.bl i) (.bl j)) Q = Q (decide (i = j)) := z_some _ _
theorem z_isiB (t : TyN) (i : Bool) (Q : Bool → Prop) : Wo (isiD t (.bl i)) Q = Q (match t with | .int => true | .bool => true | _ => false) := by cases t <;> exact z_some _ _
theorem z_isiI (t : TyN) (i : Int) (Q : Bool → Prop) : Wo (isiD t (.int i)) Q = Q (match t with | .int => true | _ => false) := by cases t <;> exact z_some _ _
theorem z_isiT (t : TyN) (i : List D) (Q : Bool → Prop) : Wo (isiD t (.tup i)) Q = Q (match t with | .tuple => true | _ => false) := by cases t <;> exact z_some _ _
theorem z_isiL (t : TyN) (i : List D) (Q : Bool → Prop) : Wo (isiD t (.lst i)) Q = Q (match t with | .list => true | _ => false) := by cases t <;> exact z_some _ _
theorem z_ff {A B : Prop} : (if false = true then A else B) = B := if_neg (by decide)
theorem z_tt {A B : Prop} : (if true = true then A else B) = A := if_pos rfl
theorem z_ntt {A B : Prop} : (if (!true) = true then A else B) = B := if_neg (by decide)
theorem z_nff {A B : Prop} : (if (!false) = true then A else B) = A := if_pos rfl
local macro_rules | `(tactic| walk_at "vc") => `(tactic| try simp only [↓z_some, ↓z_ok, ↓z_er, ↓z_ff, ↓z_tt, ↓z_ntt, ↓z_nff, ↓z_set0, ↓z_setS, ↓z_get0, ↓z_getS, ↓z_v, ↓z_c, ↓z_bin, ↓z_neg, ↓z_not, ↓z_and, ↓z_or, ↓z_cmp, ↓z_chn, ↓z_ix, ↓z_sl, ↓z_tup, ↓z_lst, ↓z_call, ↓z_bi, ↓z_isi, ↓z_lrg, ↓z_lc, ↓z_lcd, ↓z_lcFn0, ↓z_lstd, ↓z_dnwT, ↓z_dnwK, ↓z_knN, ↓z_knC, ↓z_kn1, ↓z_kn2, ↓z_kn12, ↓z_nu0, ↓z_nuN, ↓z_nuS, ↓z_nuF, ↓z_nuB, ↓z_nuE, ↓z_nuO, ↓z_du0, ↓z_duN, ↓z_duS, ↓z_duF, ↓z_duB, ↓z_duU, ↓z_sl0, ↓z_slS, ↓z_sxL, ↓z_sxD, ↓z_odW, ↓z_spW, ↓z_ixsN, ↓z_ixsC, ↓z_setp, ↓z_ku, ↓z_useU, ↓z_bindUs, ↓z_loF2, ↓z_loB2, ↓z_loU2, ↓z_ltt, ↓z_lft, ↓z_ltf, ↓z_pa2F, ↓z_pa2B, ↓z_pa2U, ↓z_pa3F, ↓z_pa3B, ↓z_pa3U, ↓z_ixD, ↓z_wipe0, ↓z_wipeS, ↓z_lcF0, ↓z_lcF1, ↓z_ife, ↓z_fld, ↓z_argsN, ↓z_argsC, ↓z_keepsN, ↓z_keepsC, ↓z_pno, ↓z_pso, ↓z_asI, ↓z_asB, ↓z_asL, ↓z_add, ↓z_addI, ↓z_addL, ↓z_subI, ↓z_mulI, ↓z_divI, ↓z_modI, ↓z_powI, ↓z_eqI, ↓z_neI, ↓z_eqB, ↓z_neB, ↓z_eqS, ↓z_neS, ↓z_ltI, ↓z_leI, ↓z_gtI, ↓z_geI, ↓z_isN, ↓z_inN, ↓z_len, ↓z_lenWL, ↓z_lenWT, ↓z_lenWS, ↓z_intI, ↓z_maxI, ↓z_minI, ↓z_absI, ↓z_gcdI, ↓z_listSh, ↓z_listBo, ↓z_listT, ↓z_tupleSh, ↓z_tupleBo, ↓z_tupleT, ↓z_ixL, ↓z_ixT, ↓z_ixS, ↓z_keepSh, ↓z_keepFr, ↓z_loS, ↓z_loF, ↓z_loB, ↓z_loU, ↓z_paS, ↓z_paF, ↓z_paB, ↓z_paU, ↓zt_not, ↓zt_and, ↓zt_or, ↓zt_v, ↓zt_c, ↓zt_cmp, ↓zt_chn, ↓zt_ix, ↓zt_call, ↓zt_bi, ↓zt_isi, ↓zt_fld, ↓z_truB, ↓z_truL, ↓z_truI, ↓z_nil, ↓z_seq, ↓z_thenNx, ↓z_thenRt, ↓z_thenBk, ↓z_thenCt, ↓z_thenEr, ↓z_asg, ↓z_exp, ↓z_bindSh, ↓z_bindFr, ↓z_bindBo, ↓z_bindT, ↓z_mapC, ↓z_mapN, ↓z_all0, ↓z_allS, ↓z_ret, ↓z_retV, ↓z_rtSh, ↓z_rtFr, ↓z_ifs, ↓z_frs, ↓z_ownW, ↓z_app, ↓z_setx, ↓z_ins, ↓z_popT, ↓z_brk, ↓z_cnt, ↓z_pas, ↓z_fz, ↓z_fz0s, ↓z_fz0b, ↓z_fz0n, ↓z_fz0f, ↓z_fzS, ↓zl_over, ↓zi_over, ↓zl_r1, ↓zl_r2, ↓zi_r1, ↓zi_r2, ↓zl_enum, ↓zl_rev, ↓z_stS, ↓z_stF, ↓z_stB, ↓z_itLs, ↓z_itTs, ↓z_itLb, ↓z_itTb, ↓z_itLu, ↓z_itLf, ↓z_lowSh, ↓z_seqT, ↓z_seqSh, ↓z_seqBo, ↓z_lowBo, ↓z_useS, ↓z_useF, ↓z_useB, ↓z_useN, ↓z_dS, ↓z_dF, ↓z_dB, ↓z_dU, ↓z_adS, ↓z_adF, ↓z_adB, ↓z_adU, ↓z_at0, ↓z_at1, ↓z_at2, ↓z_at3, ↓z_last, ↓z_isB, ↓z_isiB, ↓z_isiI, ↓z_isiT, ↓z_isiL, ↓z_outR, ↓z_outN, ↓z_outE])
/-! ### small facts -/
theorem mulL {i j : Int} (h1 : -(2 ^ 64) < i) (h2 : i < 2 ^ 64) : mulOk i j = true := by
  unfold mulOk; rw [Bool.or_eq_true]; exact .inl (decide_eq_true (.inl ⟨h1, h2⟩))
theorem mulR {i j : Int} (h1 : -(2 ^ 64) < j) (h2 : j < 2 ^ 64) : mulOk i j = true := by
  unfold mulOk; rw [Bool.or_eq_true]; exact .inl (decide_eq_true (.inr ⟨h1, h2⟩))
theorem mulW {i j : Int} (h1 : i.natAbs < 2 ^ 1000) (h2 : j.natAbs < 2 ^ 1000) : mulOk i j = true := by
  unfold mulOk; rw [Bool.or_eq_true, Bool.and_eq_true]; exact .inr ⟨decide_eq_true h1, decide_eq_true h2⟩
theorem divS {j : Int} (h1 : 0 < j) (h2 : j < 1073741824) : divOk j = true := by
  unfold divOk; rw [Bool.or_eq_true]; exact .inl (decide_eq_true ⟨h1, h2⟩)
theorem divW {j : Int} (h1 : 0 < j) (h2 : j.natAbs < 2 ^ 1000) : divOk j = true := by
  unfold divOk; rw [Bool.or_eq_true]; exact .inr (decide_eq_true ⟨h1, h2⟩)
theorem smallI_of {i : Int} (h1 : -(2 ^ 62) ≤ i) (h2 : i < 2 ^ 62) : smallI i = true := by
  unfold smallI; exact decide_eq_true ⟨h1, h2⟩
theorem atI_ge {α : Type} {xs : List α} {i : Int} (h0 : 0 ≤ i) (h1 : i < xs.length) : ∃ v, atI xs i = some v ∧ xs[i.toNat]? = some v := by
  have hl : i.toNat < xs.length := by omega
  refine ⟨xs[i.toNat], ?_, List.getElem?_eq_getElem hl⟩
  unfold atI ixN
  rw [if_pos h0, if_pos h1]
  simp [hl]
theorem rangeD_get {lo hi : Int} {i : Nat} {d : D} (h : (rangeD lo hi)[i]? = some d) : d = .int (lo + i) ∧ lo + (i : Int) < hi := by
  unfold rangeD at h
  rw [List.getElem?_map, Option.map_eq_some_iff] at h
  obtain ⟨j, h1, rfl⟩ := h
  obtain ⟨h2, h3⟩ := List.getElem?_eq_some_iff.mp h1
  simp at h2 h3
  subst h3
  exact ⟨rfl, by omega⟩
theorem if_of {c A B : Prop} [Decidable c] (h1 : c → A) (h2 : ¬ c → B) : if (decide c) = true then A else B := by
  by_cases h : c
  · rw [if_pos (decide_eq_true h)]; exact h1 h
  · rw [if_neg (by simpa using h)]; exact h2 h
theorem if_b {b : Bool} {A B : Prop} (h1 : b = true → A) (h2 : b = false → B) : if b = true then A else B := by
  cases b
  · exact h2 rfl
  · exact h1 rfl
theorem if_n {c A B : Prop} [Decidable c] (h1 : ¬ c → A) (h2 : c → B) : if (!decide c) = true then A else B := by
  by_cases h : c
  · rw [if_neg (by simpa using h)]; exact h2 h
  · rw [if_pos (by simpa using h)]; exact h1 h
theorem wo_nx {x : Option O} {P : Env → Prop} {Q : O → Prop} (h : Wo x fun o => match o with | .nx e => P e | _ => False) (hq : ∀ e, P e → Q (.nx e)) : Wo x Q :=
  Wo.mono h fun o ho => by
    cases o
    · exact hq _ ho
    all_goals exact ho.elim
/-! ### data that can be compared -/
structure Sh (k : Nat) (d : D) : Prop where
  p : plainD d = true
  c : (toPy d).canLay0 = true
  e : (toPy d).depth ≤ k
theorem Sh.int {k : Nat} (i : Int) : Sh (k + 1) (.int i) := ⟨rfl, rfl, by simp [toPy, PyData.depth]⟩
theorem Sh.bl {k : Nat} (i : Bool) : Sh (k + 1) (.bl i) := ⟨rfl, rfl, by simp [toPy, PyData.depth]⟩
theorem Sh.non {k : Nat} : Sh (k + 1) .non := ⟨rfl, rfl, by simp [toPy, PyData.depth]⟩
theorem Sh.all {k : Nat} : ∀ {ds : List D}, (∀ d ∈ ds, Sh k d) → plainL ds = true ∧ PyData.canLayAll0 (toPys ds) = true ∧ PyData.depthAll (toPys ds) ≤ k
  | [], _ => ⟨rfl, rfl, by simp [toPys, PyData.depthAll]⟩
  | d :: ds, h => by
    obtain ⟨h0, h1, h2⟩ := h d List.mem_cons_self
    obtain ⟨h3, h4, h5⟩ := Sh.all (ds := ds) fun z hz => h z (List.mem_cons_of_mem _ hz)
    refine ⟨by simp [plainL, h0, h3], by simp [toPys, PyData.canLayAll0, h1, h4], ?_⟩
    simp only [toPys, PyData.depthAll]
    omega
theorem Sh.lst {k : Nat} {ds : List D} (h : ∀ d ∈ ds, Sh k d) : Sh (k + 1) (.lst ds) := by
  obtain ⟨h0, h1, h2⟩ := Sh.all h
  refine ⟨by simpa [plainD] using h0, by simpa [toPy, PyData.canLay0] using h1, ?_⟩
  simp only [toPy, PyData.depth]
  omega
theorem Sh.tup {k : Nat} {ds : List D} (h : ∀ d ∈ ds, Sh k d) : Sh (k + 1) (.tup ds) := by
  obtain ⟨h0, h1, h2⟩ := Sh.all h
  refine ⟨by simpa [plainD] using h0, by simpa [toPy, PyData.canLay0] using h1, ?_⟩
  simp only [toPy, PyData.depth]
  omega
theorem Sh.mono {k j : Nat} {d : D} (h : Sh k d) (hk : k ≤ j) : Sh j d := ⟨h.p, h.c, Nat.le_trans h.e hk⟩
theorem Sh.ints {k : Nat} (ns : List Int) : Sh (k + 2) (.lst (ns.map D.int)) := Sh.lst fun d hd => by
  obtain ⟨n, _, rfl⟩ := List.mem_map.mp hd
  exact Sh.int n
theorem Sh.shaped {d : D} (h : Sh 64 d) : shapedD d = true := by
  unfold shapedD SeqAt.shaped
  rw [h.p, h.c, decide_eq_true h.e]; rfl
theorem eq_lst {xs ys : List D} (h1 : Sh 64 (.lst xs)) (h2 : Sh 64 (.lst ys)) : cmpD .Eq (.lst xs) (.lst ys) = some (PyData.eqv (toPy (.lst xs)) (toPy (.lst ys))) := by
  simp only [cmpD, eqD, h1.shaped, h2.shaped, and_self, if_true]
theorem ne_lst {xs ys : List D} (h1 : Sh 64 (.lst xs)) (h2 : Sh 64 (.lst ys)) : cmpD .NotEq (.lst xs) (.lst ys) = some (!PyData.eqv (toPy (.lst xs)) (toPy (.lst ys))) := by
  simp only [cmpD, eqD, h1.shaped, h2.shaped, and_self, if_true, Option.map_some]
theorem eq_tup {xs ys : List D} (h1 : Sh 64 (.tup xs)) (h2 : Sh 64 (.tup ys)) : cmpD .Eq (.tup xs) (.tup ys) = some (PyData.eqv (toPy (.tup xs)) (toPy (.tup ys))) := by
  simp only [cmpD, eqD, h1.shaped, h2.shaped, and_self, if_true]
theorem ne_self_l {xs : List D} (h1 : Sh 64 (.lst xs)) : cmpD .NotEq (.lst xs) (.lst xs) = some false := by
  rw [ne_lst h1 h1, SeqAt.eqv_refl _ h1.c]; rfl
theorem eq_self_l {xs : List D} (h1 : Sh 64 (.lst xs)) : cmpD .Eq (.lst xs) (.lst xs) = some true := by
  rw [eq_lst h1 h1, SeqAt.eqv_refl _ h1.c]
/-! ### the draw -/
def drawT2 : Sms := (.cons (.ifs (.cmp .Gt (.v 5) (.c (.int (0)))) (.cons (.ret (.bin .Mod (.bi .int (.cons (.bin .Mod (.bi .int (.cons (.v 5) .nil)) (.c (.int (1000)))) .nil)) (.v 3))) .nil) .nil) (.cons (.asg (.n 7) (.bin .Mod (.bi .int (.cons (.bin .Add (.bin .Add (.bin .Add (.v 4) (.bin .Mult (.c (.int (7919))) (.v 2))) (.bin .Mult (.c (.int (104729))) (.v 1))) (.c (.int (13)))) .nil)) (.c (.int (2147483647))))) (.cons (.asg (.n 7) (.bin .Mod (.bi .int (.cons (.bin .Mult (.v 7) (.bin .Add (.v 7) (.c (.int (48271))))) .nil)) (.c (.int (2147483629))))) (.cons (.asg (.n 7) (.bin .Mod (.bi .int (.cons (.bin .Add (.bin .Mult (.v 7) (.bin .Add (.v 7) (.c (.int (69621))))) (.bin .Mult (.c (.int (31))) (.v 2))) .nil)) (.c (.int (2147483647))))) (.cons (.ret (.bin .Mod (.bi .int (.cons (.bin .FloorDiv (.v 7) (.c (.int (9)))) .nil)) (.v 3))) .nil)))))
def drawT1 : Sms := (.cons (.asg (.n 5) (.bin .Sub (.v 4) (.bin .Pow (.c (.int (10))) (.c (.int (18)))))) (.cons (.frs (.n 6) (.r1 (.v 2)) (.cons (.ifs (.cmp .Gt (.v 5) (.c (.int (0)))) (.cons (.asg (.n 5) (.bin .FloorDiv (.v 5) (.c (.int (1000))))) .nil) .nil) .nil)) drawT2))
def drawT0 : Sms := (.cons (.ifs (.cmp .Lt (.v 4) (.c (.int (0)))) (.cons (.asg (.n 4) (.bin .Sub (.c (.int (0))) (.v 4))) .nil) .nil) drawT1)
def drawBody : Sms := (.cons (.fz 1) (.cons (.asg (.n 4) (.v 1)) (.cons (.ifs (.cmp .Gt (.bi .len (.cons (.v 0) .nil)) (.c (.int (0)))) (.cons (.asg (.n 4) (.bin .Add (.ix (.v 0) (.bin .Mod (.bi .int (.cons (.v 1) .nil)) (.bi .len (.cons (.v 0) .nil)))) (.bin .FloorDiv (.v 1) (.bi .len (.cons (.v 0) .nil))))) .nil) .nil) drawT0)))
theorem drawT2_ok {Φ : Fns} {n0 : D} {p s z c l : Int} {x6 : Option Vl} (hz : 0 < z) : Wo (execsD Φ drawT2 [some (.sh n0), some (.sh (.int p)), some (.sh (.int s)), some (.sh (.int z)), some (.sh (.int c)), some (.sh (.int l)), x6, none]) fun o => ∃ r, o = .rt (.sh (.int r)) ∧ 0 ≤ r ∧ r < z := by
  unfold drawT2
  walk_at "vc"
  have ez : ∀ a : Int, 0 ≤ a % z ∧ a % z < z := fun a => ⟨Int.emod_nonneg _ (by omega), Int.emod_lt_of_pos _ hz⟩
  refine if_of (fun h => ⟨by decide, hz, _, rfl, ez _⟩) (fun h => ⟨mulL (by decide) (by decide), mulL (by decide) (by decide), by decide, mulL ?_ ?_, by decide, mulL ?_ ?_, mulL (by decide) (by decide), by decide, by decide, hz, _, rfl, ez _⟩)
  all_goals omega
theorem drawT1_ok {Φ : Fns} {n0 : D} {p s z c : Int} (hs : 0 ≤ s) (hs2 : s < 2 ^ 60) (hz : 0 < z) : Wo (execsD Φ drawT1 [some (.sh n0), some (.sh (.int p)), some (.sh (.int s)), some (.sh (.int z)), some (.sh (.int c)), none, none, none]) fun o => ∃ r, o = .rt (.sh (.int r)) ∧ 0 ≤ r ∧ r < z := by
  unfold drawT1
  walk_at "vc"
  refine ⟨⟨by decide, by decide, by decide⟩, smallI_of (by omega) (by omega), zl_for (fun _ ε => ∃ l x6, ε = [some (.sh n0), some (.sh (.int p)), some (.sh (.int s)), some (.sh (.int z)), some (.sh (.int c)), some (.sh (.int l)), x6, none]) ⟨_, _, rfl⟩ ?_ ?_⟩
  · rintro i d ε hd ⟨l, x6, rfl⟩
    obtain ⟨rfl, _⟩ := rangeD_get hd
    walk_at "vc"
    exact if_of (fun h => ⟨by decide, _, _, rfl⟩) (fun h => ⟨_, _, rfl⟩)
  · rintro ε ⟨l, x6, rfl⟩
    exact drawT2_ok hz
/-- a call that gives a whole number from 0 on, below z -/
abbrev Dr (o : Rs Vl) (z : Int) : Prop := Wr o (fun r => ∃ i, r = .sh (.int i) ∧ 0 ≤ i ∧ i < z) E0
theorem draw_ok {Φ : Fns} {ns : List Int} {p s z : Int} (hl : ns.length ≤ 63) (hp : 0 ≤ p) (hs : 0 ≤ s) (hs2 : s < 2 ^ 60) (hz : 0 < z) : Dr (runD Φ (.fn 4 8 drawBody) [.sh (.scr ns), .sh (.int p), .sh (.int s), .sh (.int z)]) z := by
  have t0 : ∀ c : Int, Wo (execsD Φ drawT0 [some (.sh (.scr ns)), some (.sh (.int p)), some (.sh (.int s)), some (.sh (.int z)), some (.sh (.int c)), none, none, none]) fun o => ∃ r, o = .rt (.sh (.int r)) ∧ 0 ≤ r ∧ r < z := fun c => by
    unfold drawT0
    walk_at "vc"
    exact if_of (fun _ => drawT1_ok hs hs2 hz) (fun _ => drawT1_ok hs hs2 hz)
  refine run_of rfl ?_
  show Wo (execsD Φ drawBody [some (.sh (.scr ns)), some (.sh (.int p)), some (.sh (.int s)), some (.sh (.int z)), none, none, none, none]) _
  refine Wo.mono (Q := fun o => ∃ r, o = .rt (.sh (.int r)) ∧ 0 ≤ r ∧ r < z) ?_ ?_
  · unfold drawBody
    walk_at "vc"
    refine if_of (fun h => ?_) (fun h => t0 _)
    have e1 := Int.emod_nonneg p (b := (ns.length : Int)) (by omega)
    have e2 := Int.emod_lt_of_pos p (b := (ns.length : Int)) h
    obtain ⟨v, hv, _⟩ := atI_ge e1 e2
    exact ⟨h, v, hv, divS h (by omega), t0 _⟩
  · rintro o ⟨r, rfl, h1, h2⟩
    walk_at "vc"
    exact ⟨r, rfl, h1, h2⟩
/-! ### lists of whole numbers -/
abbrev LI (xs : List Int) : D := .lst (xs.map D.int)
abbrev TI (xs : List Int) : D := .tup (xs.map D.int)
theorem LI_get {xs : List Int} {i : Nat} {d : D} (h : (xs.map D.int)[i]? = some d) : ∃ p, xs[i]? = some p ∧ d = .int p := by
  rw [List.getElem?_map, Option.map_eq_some_iff] at h
  obtain ⟨p, h1, rfl⟩ := h
  exact ⟨p, h1, rfl⟩
theorem atI_LI {xs : List Int} {i : Nat} {a : Int} (h : xs[i]? = some a) : atI (xs.map D.int) (i : Int) = some (.int a) := atI_nat (by rw [List.getElem?_map, h]; rfl)
theorem ixN_nat {n k : Nat} (h : k < n) : ixN n (k : Int) = some k := by
  unfold ixN
  rw [if_pos (by omega), if_pos (by omega)]; rfl
/-- a comprehension with a test, by a relation -/
theorem zc_rel {F : Vl → Option (Option D)} {R : D → Option D → Prop} : ∀ {xs : List D}, (∀ d ∈ xs, Wo (F (.sh d)) (R d)) → Wo (lcGo F (xs.map .sh)) fun ys => ∃ os : List (Option D), os.length = xs.length ∧ (∀ (i : Nat) (d : D) (o : Option D), xs[i]? = some d → os[i]? = some o → R d o) ∧ ys = os.filterMap id
  | [], _ => ⟨[], rfl, [], rfl, fun i d o h => by simp at h, rfl⟩
  | x :: xs, h => by
    obtain ⟨o, h1, h2⟩ := h x List.mem_cons_self
    obtain ⟨ys, h3, os, h4, h5, rfl⟩ := zc_rel (xs := xs) fun d hd => h d (List.mem_cons_of_mem _ hd)
    refine ⟨_, by simp [lcGo, h1, h3]; rfl, o :: os, by simp [h4], fun i d z hd hz => ?_, ?_⟩
    · cases i with
      | zero => simp at hd hz; subst hd hz; exact h2
      | succ i => exact h5 i d z (by simpa using hd) (by simpa using hz)
    · cases o <;> simp
/-! ### the great draw, a number -/
def big1 : Sms := (.cons (.ret (.bin .Mod (.bi .int (.cons (.v 4) .nil)) (.v 3))) .nil)
def bigL (k : Nat) : Sms := (.cons (.asg (.n 4) (.bin .Add (.bin .Mult (.v 4) (.c (.int (1000)))) (.call k (.cons (.v 0) (.cons (.v 1) (.cons (.bin .Add (.v 2) (.v 5)) (.cons (.c (.int (1000))) .nil))))))) .nil)
def bigB (k : Nat) : Sms := (.cons (.asg (.n 4) (.c (.int (0)))) (.cons (.frs (.n 5) (.r1 (.c (.int (7)))) (bigL k)) big1))
theorem big_ok {Φ : Fns} {k : Nat} {ns : List Int} {p s z : Int} (hs : 0 ≤ s) (hs2 : s < 2 ^ 50) (hz : 0 < z)
    (hd : ∀ s : Int, 0 ≤ s → s < 2 ^ 60 → Dr (Φ.call k [.sh (.scr ns), .sh (.int p), .sh (.int s), .sh (.int 1000)]) 1000) :
    Dr (runD Φ (.fn 4 6 (bigB k)) [.sh (.scr ns), .sh (.int p), .sh (.int s), .sh (.int z)]) z := by
  refine run_of rfl ?_
  show Wo (execsD Φ (bigB k) [some (.sh (.scr ns)), some (.sh (.int p)), some (.sh (.int s)), some (.sh (.int z)), none, none]) _
  unfold bigB
  walk_at "vc"
  refine ⟨by decide, zl_for (fun i ε => ∃ (t : Int) (y5 : Option Vl), ε = [some (.sh (.scr ns)), some (.sh (.int p)), some (.sh (.int s)), some (.sh (.int z)), some (.sh (.int t)), y5]) ⟨0, _, rfl⟩ ?_ ?_⟩
  · rintro i d ε hdd ⟨t, y5, rfl⟩
    obtain ⟨rfl, hi⟩ := rangeD_get hdd
    unfold bigL
    walk_at "vc"
    refine ⟨mulR (by decide) (by decide), (hd _ (by omega) (by omega)).to ?_⟩
    rintro r ⟨j, rfl, _, _⟩
    walk_at "vc"
    exact ⟨_, _, rfl⟩
  · rintro ε ⟨t, y5, rfl⟩
    unfold big1
    walk_at "vc"
    exact ⟨hz, _, rfl, Int.emod_nonneg _ (by omega), Int.emod_lt_of_pos _ hz⟩
end EG
namespace EG
open PySem L2
/-! ### data that can be shown -/
structure Pr (k n : Nat) (d : D) : Prop where
  p : plainD d = true
  s : (toPy d).showable = true
  h : (toPy d).hasDict = false
  e : (toPy d).depth ≤ k
  l : (toPy d).shown.length ≤ n
theorem str_app (a b : Str) : (a ++ b).length = a.length + b.length := by
  show (a.cps ++ b.cps).size = _
  rw [Array.size_append]; rfl
theorem text_len (m : Nat) : ∀ (ts : List Str) (k : Nat) (acc : Str), (∀ t ∈ ts, t.length ≤ m) → (textFrom k acc ts).length ≤ acc.length + ts.length * (m + 2)
  | [], k, acc, _ => by simp [textFrom]
  | t :: r, k, acc, h => by
    have ih := text_len m r (k + 1) (acc ++ (if k > 0 then ", " else "" : String) ++ t) fun x hx => h x (List.mem_cons_of_mem _ hx)
    have ht := h t List.mem_cons_self
    refine Nat.le_trans ih ?_
    rw [str_app, str_app]
    have : (Str.ofString (if k > 0 then ", " else "" : String)).length ≤ 2 := by split <;> decide
    simp only [List.length_cons, Nat.add_mul]
    omega
theorem piled_le (m : Nat) : ∀ ts : List Str, (∀ t ∈ ts, t.length ≤ m) → piled ts ≤ ts.length * (m + 2)
  | [], _ => by simp [piled]
  | t :: r, h => by
    have ih := piled_le m r fun x hx => h x (List.mem_cons_of_mem _ hx)
    have ht := h t List.mem_cons_self
    rw [piled_cons]
    simp only [List.length_cons, Nat.add_mul]
    omega
theorem join_len (m : Nat) (ts : List Str) (h : ∀ t ∈ ts, t.length ≤ m) : (Str.join ", " ts).length ≤ ts.length * (m + 2) := by
  cases ts with
  | nil =>
    have : (Str.join ", " ([] : List Str)).length = 0 := by decide
    omega
  | cons t r =>
    have h1 := join_length_add (t :: r) (by simp)
    have h2 := piled_le m (t :: r) h
    omega
theorem shown_all {k n : Nat} : ∀ {ds : List D}, (∀ d ∈ ds, Pr k n d) → plainL ds = true ∧ PyData.showableAll (toPys ds) = true ∧ PyData.hasDictAll (toPys ds) = false ∧ PyData.depthAll (toPys ds) ≤ k ∧ (∀ t ∈ PyData.shownAll (toPys ds), t.length ≤ n) ∧ (PyData.shownAll (toPys ds)).length = ds.length
  | [], _ => ⟨rfl, rfl, rfl, by simp [toPys, PyData.depthAll], by simp [toPys, PyData.shownAll], by simp [toPys, PyData.shownAll]⟩
  | d :: ds, h => by
    obtain ⟨a1, a2, a3, a4, a5⟩ := h d List.mem_cons_self
    obtain ⟨b1, b2, b3, b4, b5, b6⟩ := shown_all (ds := ds) fun z hz => h z (List.mem_cons_of_mem _ hz)
    refine ⟨by simp [plainL, a1, b1], by simp [toPys, PyData.showableAll, a2, b2], by simp [toPys, PyData.hasDictAll, a3, b3], ?_, ?_, by simp [toPys, PyData.shownAll, b6]⟩
    · simp only [toPys, PyData.depthAll]; omega
    · intro t ht
      simp only [toPys, PyData.shownAll, List.mem_cons] at ht
      rcases ht with rfl | ht
      · exact a5
      · exact b5 t ht
theorem Pr.lst {k n : Nat} {ds : List D} (h : ∀ d ∈ ds, Pr k n d) : Pr (k + 1) (ds.length * (n + 2) + 2) (.lst ds) := by
  obtain ⟨b1, b2, b3, b4, b5, b6⟩ := shown_all h
  refine ⟨by simpa [plainD] using b1, by simpa [toPy, PyData.showable] using b2, by simpa [toPy, PyData.hasDict] using b3, ?_, ?_⟩
  · simp only [toPy, PyData.depth]; omega
  · simp only [toPy, PyData.shown, listText]
    rw [str_app]
    have := text_len n _ 0 "[" b5
    rw [b6] at this
    have e1 : (("[" : Str)).length = 1 := by decide
    have e2 : (("]" : Str)).length = 1 := by decide
    rw [e1] at this
    rw [e2]
    omega
theorem Pr.tup {k n : Nat} {ds : List D} (h : ∀ d ∈ ds, Pr k n d) : Pr (k + 1) (ds.length * (n + 2) + 3) (.tup ds) := by
  obtain ⟨b1, b2, b3, b4, b5, b6⟩ := shown_all h
  refine ⟨by simpa [plainD] using b1, by simpa [toPy, PyData.showable] using b2, by simpa [toPy, PyData.hasDict] using b3, ?_, ?_⟩
  · simp only [toPy, PyData.depth]; omega
  · simp only [toPy, PyData.shown, tupleText]
    rw [str_app, str_app]
    have := join_len n _ b5
    rw [b6] at this
    have e1 : (("(" : Str)).length = 1 := by decide
    have e2 : (Str.ofString (if ((PyData.shownAll (toPys ds)).length == 1) = true then ",)" else ")" : String)).length ≤ 2 := by split <;> decide
    rw [e1]
    omega
theorem Pr.int {k m : Nat} {i : Int} (h0 : 0 ≤ i) (hm : 0 < m) (h1 : i < 10 ^ m) (h2 : i.natAbs.log2 < 1920) : Pr (k + 1) m (.int i) := by
  refine ⟨rfl, by simp [toPy, PyData.showable, h2], rfl, by simp [toPy, PyData.depth], ?_⟩
  exact PyProof.Rows.toString_length_le h0 hm h1
theorem Pr.mono {k j n m : Nat} {d : D} (h : Pr k n d) (hk : k ≤ j) (hn : n ≤ m) : Pr j m d := ⟨h.p, h.s, h.h, Nat.le_trans h.e hk, Nat.le_trans h.l hn⟩
theorem repr_lst {x : Vl} {ds : List D} (hx : x.d = .lst ds) (h : Pr 60 (2 ^ 24) (.lst ds)) : biD .repr [x] = some (.sh (.str (toPy (.lst ds)).shown)) := by
  simp only [biD, hx]
  rw [if_pos ⟨h.p, h.s, h.h, h.e, h.l⟩]
/-! ### a list or tuple, as it is handed on -/
structure SV (a : Vl) (L : List D) : Prop where
  use : ∀ Q : Vl → Prop, Wo a.use Q = Q a
  arg : ∀ Q : Vl → Prop, Wo a.argd Q = Q a
  len : ∀ Q : Vl → Prop, lenW Q a.d = Q (.sh (.int L.length))
  ix : ∀ (Q : Vl → Prop) (i : Int), ixW a Q a.d (.int i) = Wo (atI L i) fun d => Q (.sh d)
  it : ∀ (Q : List Vl → Prop), itW a Q a.d = Q (L.map .sh)
  st : ∀ Q : Vl → Prop, Wo (stillV a) Q = Q a
theorem SV.sh (L : List D) : SV (.sh (.lst L)) L := ⟨fun Q => z_useS _ Q, fun Q => z_adS _ Q, fun Q => rfl, fun Q i => by simp only [z_dS, z_ixL, z_paS], fun Q => by simp only [z_dS, z_itLs], fun Q => z_stS _ Q⟩
theorem SV.bo (L : List D) : SV (.bo 1 (.lst L)) L := ⟨fun Q => z_useB _ _ Q, fun Q => z_adB _ _ Q, fun Q => rfl, fun Q i => by simp only [z_dB, z_ixL, z_paB], fun Q => by simp only [z_dB, z_itLb], fun Q => z_stB _ _ Q⟩
theorem SV.tu (L : List D) : SV (.sh (.tup L)) L := ⟨fun Q => z_useS _ Q, fun Q => z_adS _ Q, fun Q => rfl, fun Q i => by simp only [z_dS, z_ixT, z_paS], fun Q => by simp only [z_dS, z_itTs], fun Q => z_stS _ Q⟩
end EG
namespace EG
open PySem L2
/-! ### walks over things, however they are held -/
theorem zl_forV {t : Tg} {f : Env → Option O} {Q : O → Prop} (P : Nat → Env → Prop) {xs : List Vl} {ε : Env} (h0 : P 0 ε)
    (hs : ∀ (i : Nat) (d : Vl) (ε : Env), xs[i]? = some d → P i ε → Wo (bindT t d ε) fun ε2 => Wo (f ε2) fun o => match o with | .nx ε3 => P (i + 1) ε3 | .ct ε3 => P (i + 1) ε3 | .bk ε3 => Q (.nx ε3) | o => Q o)
    (hd : ∀ ε, P xs.length ε → Q (.nx ε)) : Wo (forD t f xs ε) Q := by
  have key : ∀ (ys : List Vl) (i : Nat) (ε : Env), xs.drop i = ys → i ≤ xs.length → P i ε → Wo (forD t f ys ε) Q := by
    intro ys
    induction ys with
    | nil =>
      intro i ε e hi hp
      have : xs.length ≤ i := by have := congrArg List.length e; simp at this; omega
      have e2 : i = xs.length := by omega
      subst e2
      exact ⟨_, rfl, hd ε hp⟩
    | cons y ys ih =>
      intro i ε e hi hp
      have hlt : i < xs.length := by
        have := congrArg List.length e
        simp at this; omega
      have hy : xs[i]? = some y := by
        have := congrArg List.head? e
        rw [List.head?_drop] at this
        exact this
      have htl : xs.drop (i + 1) = ys := by
        have := congrArg List.tail e
        rw [List.tail_drop] at this
        exact this
      obtain ⟨ε2, h1, o, h2, h3⟩ := hs i y ε hy hp
      simp only [forD, h1, h2, Option.bind_some]
      cases o with
      | nx ε3 => exact ih (i + 1) ε3 htl (by omega) h3
      | ct ε3 => exact ih (i + 1) ε3 htl (by omega) h3
      | bk ε3 => exact ⟨_, rfl, h3⟩
      | rt r => exact ⟨_, rfl, h3⟩
      | er c ns ds ε3 => exact ⟨_, rfl, h3⟩
  exact key xs 0 ε rfl (Nat.zero_le _) h0
/-- a comprehension that keeps all, its list known -/
theorem zc_to {F : Vl → Option (Option D)} : ∀ {vs : List Vl} {ys : List D} {Q : List D → Prop}, vs.length = ys.length → (∀ (i : Nat) (v : Vl) (y : D), vs[i]? = some v → ys[i]? = some y → Wo (F v) fun o => o = some y) → Q ys → Wo (lcGo F vs) Q := by
  intro vs
  have key : ∀ (vs : List Vl) (ys : List D), vs.length = ys.length → (∀ (i : Nat) (v : Vl) (y : D), vs[i]? = some v → ys[i]? = some y → Wo (F v) fun o => o = some y) → lcGo F vs = some ys := by
    intro vs
    induction vs with
    | nil => intro ys h _; cases ys with
      | nil => rfl
      | cons y ys => simp at h
    | cons v vs ih =>
      intro ys h hs
      cases ys with
      | nil => simp at h
      | cons y ys =>
        obtain ⟨o, h1, rfl⟩ := hs 0 v y rfl rfl
        have h2 := ih ys (by simpa using h) fun i v y a b => hs (i + 1) v y (by simpa using a) (by simpa using b)
        simp only [lcGo, h1, h2, Option.bind_some]
  intro ys Q h hs q
  exact ⟨ys, key vs ys h hs, q⟩
/-- a comprehension with a test, by a function -/
theorem zc_fm {F : Vl → Option (Option D)} {g : Vl → Option D} {vs : List Vl} {Q : List D → Prop} (h : ∀ v ∈ vs, Wo (F v) fun o => o = g v) (q : Q (vs.filterMap g)) : Wo (lcGo F vs) Q := by
  have key : ∀ vs : List Vl, (∀ v ∈ vs, Wo (F v) fun o => o = g v) → lcGo F vs = some (vs.filterMap g) := by
    intro vs
    induction vs with
    | nil => intro _; rfl
    | cons v vs ih =>
      intro h
      obtain ⟨o, h1, rfl⟩ := h v List.mem_cons_self
      have h2 := ih fun v hv => h v (List.mem_cons_of_mem _ hv)
      simp only [lcGo, h1, h2, Option.bind_some, List.filterMap_cons]
      cases g v <;> rfl
  exact ⟨_, key vs h, q⟩
/-- a thing of another's: it may be read and handed on -/
structure SX (a : Vl) : Prop where
  use : ∀ Q : Vl → Prop, Wo a.use Q = Q a
  arg : ∀ Q : Vl → Prop, Wo a.argd Q = Q a
  st : ∀ Q : Vl → Prop, Wo (stillV a) Q = Q a
  bd : ∀ (i : Nat) (ε : Env) (Q : Env → Prop), Wo (bindT (.n i) a ε) Q = setW ε i (some a) Q
  fz : ∀ (l : Env) (Q : Env → Prop), frzW (some a :: l) 0 Q = Q (some a :: l)
  nu : ∀ (l : Env) (P : Prop), nuW (some a :: l) P = nuW l P
  du : ∀ (l : Env) (Q : Env → Prop), duW (some a :: l) Q = duW l fun l' => Q (some a :: l')
theorem SX.sh (d : D) : SX (.sh d) := ⟨fun Q => z_useS _ Q, fun Q => z_adS _ Q, fun Q => z_stS _ Q, fun i ε Q => z_bindSh i d ε Q, fun l Q => z_fz0s d l Q, fun l P => z_nuS d l P, fun l Q => z_duS d l Q⟩
theorem SX.bo (n : Nat) (d : D) : SX (.bo n d) := ⟨fun Q => z_useB _ _ Q, fun Q => z_adB _ _ Q, fun Q => z_stB _ _ Q, fun i ε Q => z_bindBo i n d ε Q, fun l Q => z_fz0b n d l Q, fun l P => z_nuB n d l P, fun l Q => z_duB n d l Q⟩
theorem flat_ints : ∀ ns : List Int, flatL (ns.map D.int) = true
  | [] => rfl
  | n :: ns => by simp [flatL, flatD, flat_ints ns]
theorem parts_flat {n : Nat} {d : D} : ∀ {L : List D}, flatL L = true → partsD (.bo n d) L = some (L.map .sh)
  | [], _ => rfl
  | x :: xs, h => by
    simp only [flatL, Bool.and_eq_true] at h
    simp only [partsD, Vl.part, h.1, or_true, if_true, Option.bind_some, parts_flat h.2, Option.map_some, List.map_cons]
/-- a list or tuple of whole numbers -/
structure SI (a : Vl) (L : List Int) : Prop extends SX a where
  it : ∀ Q : List Vl → Prop, itW a Q a.d = Q (L.map fun i => .sh (.int i))
  ix : ∀ (Q : Vl → Prop) (i : Nat) (x : Int), L[i]? = some x → ixW a Q a.d (.int i) = Q (.sh (.int x))
  len : ∀ Q : Vl → Prop, lenW Q a.d = Q (.sh (.int L.length))
  kd : (a.d = .lst (L.map .int)) ∨ (a.d = .tup (L.map .int))
theorem at_ints {L : List Int} {i : Nat} {x : Int} (h : L[i]? = some x) : atI (L.map D.int) (i : Int) = some (.int x) := atI_nat (by rw [List.getElem?_map, h]; rfl)
theorem SI.shL (L : List Int) : SI (.sh (.lst (L.map .int))) L := ⟨SX.sh _, fun Q => by simp only [z_dS, z_itLs, List.map_map]; rfl, fun Q i x h => by simp only [z_dS, z_ixL, at_ints h, z_some, z_paS], fun Q => by simp only [z_dS, z_lenWL, List.length_map], .inl rfl⟩
theorem SI.shT (L : List Int) : SI (.sh (.tup (L.map .int))) L := ⟨SX.sh _, fun Q => by simp only [z_dS, z_itTs, List.map_map]; rfl, fun Q i x h => by simp only [z_dS, z_ixT, at_ints h, z_some, z_paS], fun Q => by simp only [z_dS, z_lenWT, List.length_map], .inr rfl⟩
theorem SI.boL (n : Nat) (L : List Int) : SI (.bo n (.lst (L.map .int))) L := ⟨SX.bo _ _, fun Q => by simp only [z_dB, itW, parts_flat (flat_ints L), z_some, List.map_map]; rfl, fun Q i x h => by simp only [z_dB, z_ixL, at_ints h, z_some, Vl.part, flatD, or_true, if_true], fun Q => by simp only [z_dB, z_lenWL, List.length_map], .inl rfl⟩
/-- a list or tuple of these -/
structure SM (a : Vl) (R : List (List Int)) : Prop extends SX a where
  it : ∃ vs : List Vl, (∀ Q : List Vl → Prop, itW a Q a.d = Q vs) ∧ vs.length = R.length ∧ ∀ (i : Nat) (v : Vl) (r : List Int), vs[i]? = some v → R[i]? = some r → SI v r
  ix : ∀ (i : Nat) (r : List Int), R[i]? = some r → ∃ v, SI v r ∧ ∀ Q : Vl → Prop, ixW a Q a.d (.int i) = Q v
  len : ∀ Q : Vl → Prop, lenW Q a.d = Q (.sh (.int R.length))
abbrev LL (R : List (List Int)) : D := .lst (R.map fun r => .lst (r.map .int))
abbrev TT2 (R : List (List Int)) : D := .tup (R.map fun r => .tup (r.map .int))
theorem parts_bo2 (d : D) : ∀ R : List (List Int), partsD (.bo 2 d) (R.map fun r => .lst (r.map .int)) = some (R.map fun r => .bo 1 (.lst (r.map .int)))
  | [] => rfl
  | r :: R => by
    have ih := parts_bo2 d R
    simp only [List.map_cons, partsD, Vl.part, ih, Option.map_some]
    simp [flatD]
theorem SM.bo2 (R : List (List Int)) : SM (.bo 2 (LL R)) R := by
  refine ⟨SX.bo _ _, ⟨R.map fun r => .bo 1 (.lst (r.map .int)), fun Q => by simp only [z_dB, itW, parts_bo2, z_some], by simp, fun i v r h1 h2 => ?_⟩, fun i r h => ⟨.bo 1 (.lst (r.map .int)), SI.boL 1 r, fun Q => ?_⟩, fun Q => by simp only [z_dB, z_lenWL, List.length_map]⟩
  · rw [List.getElem?_map, h2] at h1
    cases h1
    exact SI.boL 1 r
  · have : atI (R.map fun r => D.lst (r.map .int)) (i : Int) = some (.lst (r.map .int)) := atI_nat (by rw [List.getElem?_map, h]; rfl)
    simp only [z_dB, z_ixL, this, z_some, z_pa2B]
theorem SM.shL (R : List (List Int)) : SM (.sh (LL R)) R := by
  refine ⟨SX.sh _, ⟨R.map fun r => .sh (.lst (r.map .int)), fun Q => by simp only [z_dS, z_itLs, List.map_map]; rfl, by simp, fun i v r h1 h2 => ?_⟩, fun i r h => ⟨.sh (.lst (r.map .int)), SI.shL r, fun Q => ?_⟩, fun Q => by simp only [z_dS, z_lenWL, List.length_map]⟩
  · rw [List.getElem?_map, h2] at h1
    cases h1
    exact SI.shL r
  · have : atI (R.map fun r => D.lst (r.map .int)) (i : Int) = some (.lst (r.map .int)) := atI_nat (by rw [List.getElem?_map, h]; rfl)
    simp only [z_dS, z_ixL, this, z_some, z_paS]
theorem SM.shT (R : List (List Int)) : SM (.sh (TT2 R)) R := by
  refine ⟨SX.sh _, ⟨R.map fun r => .sh (.tup (r.map .int)), fun Q => by simp only [z_dS, z_itTs, List.map_map]; rfl, by simp, fun i v r h1 h2 => ?_⟩, fun i r h => ⟨.sh (.tup (r.map .int)), SI.shT r, fun Q => ?_⟩, fun Q => by simp only [z_dS, z_lenWT, List.length_map]⟩
  · rw [List.getElem?_map, h2] at h1
    cases h1
    exact SI.shT r
  · have : atI (R.map fun r => D.tup (r.map .int)) (i : Int) = some (.tup (r.map .int)) := atI_nat (by rw [List.getElem?_map, h]; rfl)
    simp only [z_dS, z_ixT, this, z_some, z_paS]
theorem sum_ints {x : Vl} {ns : List Int} (h : x.d = .lst (ns.map D.int)) (Q : Vl → Prop) : Wo (biD .sum [x]) Q = Q (.sh (.int ns.sum)) := by
  simp only [biD, h, intsOf_map, Option.bind_some, z_some]
theorem all_bls {x : Vl} {ns : List Bool} (h : x.d = .lst (ns.map D.bl)) (Q : Vl → Prop) : Wo (biD .all [x]) Q = Q (.sh (.bl (ns.all id))) := by
  simp only [biD, h, blsOf_map, Option.bind_some, z_some]
theorem any_bls {x : Vl} {ns : List Bool} (h : x.d = .lst (ns.map D.bl)) (Q : Vl → Prop) : Wo (biD .any [x]) Q = Q (.sh (.bl (ns.any id))) := by
  simp only [biD, h, blsOf_map, Option.bind_some, z_some]
theorem all_true {x : Vl} {n : Nat} (h : x.d = .lst (List.replicate n (.bl true))) (Q : Vl → Prop) : Wo (biD .all [x]) Q = Q (.sh (.bl true)) := by
  rw [all_bls (ns := List.replicate n true) (by rw [h, List.map_replicate])]
  congr 3
  induction n with
  | zero => rfl
  | succ n ih => simp
end EG
namespace EG
open PySem L2
section
variable {Φ : Fns} {E : EK}
/-! ### own classes, errors: root rules -/
theorem z_shdS (d : D) : (Vl.sh d).shd = true := rfl
theorem z_isc (al : List Nat) (c : Nat) (a : Ep) (ε : Env) (Q : Vl → Prop) : Wr (evalD Φ (.isc al c a) ε) Q E = Wr (evalD Φ a ε) (fun x => Wo (iscD al c x.d) fun r => Q (.sh (.bl r))) E := by simp only [evalD, z_rb, z_rl, z_rp]
theorem zt_isc (al : List Nat) (c : Nat) (a : Ep) (ε : Env) (Q : Bool → Prop) : Wr (testD Φ (.isc al c a) ε) Q E = Wr (evalD Φ a ε) (fun x => Wo (iscD al c x.d) Q) E := by simp only [testD, z_rb, z_rl]
theorem z_iscO (al : List Nat) (c c' : Nat) (ns : List Str) (ds : List D) (Q : Bool → Prop) : Wo (iscD al c (.obj c' ns ds)) Q = (al.contains c' = true ∧ Q (decide (c' = c))) := by simp only [iscD, z_ite]
theorem z_iscI (al : List Nat) (c : Nat) (i : Int) (Q : Bool → Prop) : Wo (iscD al c (.int i)) Q = Q false := z_some _ _
theorem z_iscT (al : List Nat) (c : Nat) (i : List D) (Q : Bool → Prop) : Wo (iscD al c (.tup i)) Q = Q false := z_some _ _
theorem z_iscL (al : List Nat) (c : Nat) (i : List D) (Q : Bool → Prop) : Wo (iscD al c (.lst i)) Q = Q false := z_some _ _
theorem z_iffE {α : Type} {c : Prop} [Decidable c] (x : Rs α) (Q : α → Prop) : Wr (if c then x else none) Q E = (c ∧ Wr x Q E) := by by_cases h : c <;> simp [h, z_no]
theorem zt_oeq (a b : Ep) (ε : Env) (Q : Bool → Prop) : Wr (testD Φ (.oeq a b) ε) Q E = Wr (evalD Φ a ε) (fun x => Wo (methD Φ "__eq__" x) fun fx => Wr (evalD Φ b ε) (fun y => Wo y.argd fun y' => eqT x.d y.d = true ∧ Wr (Φ.call fx.1 [fx.2, y']) (fun r => Wo (blV r) Q) E0) E) E := by
  simp only [testD, z_rb, z_rl, z_iffE, z_bind, z_okO]
theorem z_oeq (a b : Ep) (ε : Env) (Q : Vl → Prop) : Wr (evalD Φ (.oeq a b) ε) Q E = Wr (evalD Φ a ε) (fun x => Wo (methD Φ "__eq__" x) fun fx => Wr (evalD Φ b ε) (fun y => Wo y.argd fun y' => eqT x.d y.d = true ∧ Wr (Φ.call fx.1 [fx.2, y']) (fun r => Wo (blV r) fun t => Q (.sh (.bl t))) E0) E) E := by
  simp only [evalD, z_rb, z_rl, z_iffE, z_bind, z_okO, z_rp]
theorem z_oad (a b : Ep) (ε : Env) (Q : Vl → Prop) : Wr (evalD Φ (.oad a b) ε) Q E = Wr (evalD Φ a ε) (fun x => Wo (methD Φ "__add__" x) fun fx => Wr (evalD Φ b ε) (fun y => Wo y.argd fun y' => adT x.d y.d = true ∧ Wr (Φ.call fx.1 [fx.2, y']) (fun r => Wo (obV r) Q) E0) E) E := by
  simp only [evalD, z_rb, z_rl, z_iffE, z_bind, z_okO]
theorem z_cll (a : Ep) (es : Eps) (ε : Env) (Q : Vl → Prop) : Wr (evalD Φ (.cll a es) ε) Q E = Wr (evalD Φ a ε) (fun x => Wo (methD Φ "__call__" x) fun fx => Wr (argsD Φ es ε) (fun as => Wr (Φ.call fx.1 (fx.2 :: as)) Q E) E) E := by simp only [evalD, z_rb, z_rl]
theorem z_dgt (a k d : Ep) (ε : Env) (Q : Vl → Prop) : Wr (evalD Φ (.dgt a k d) ε) Q E = Wr (evalD Φ a ε) (fun x => isDct x.d = true ∧ Wr (evalD Φ k ε) (fun y => Wr (evalD Φ d ε) (fun z => Wo (dgD x y z) Q) E) E) E := by simp only [evalD, z_rb, z_rl, z_iffE]
theorem z_lio (al : List Nat) (f : Str) (a : Ep) (ε : Env) (Q : Vl → Prop) : Wr (evalD Φ (.lio al f a) ε) Q E = Wr (evalD Φ a ε) (fun x => Wo (lioD al x f) Q) E := by simp only [evalD, z_rb, z_rl]
theorem z_blS (t : Bool) (Q : Bool → Prop) : Wo (blV (.sh (.bl t))) Q = Q t := z_some _ _
theorem z_obS (c : Nat) (ns : List Str) (ds : List D) (Q : Vl → Prop) : Wo (obV (.sh (.obj c ns ds))) Q = Q (.sh (.obj c ns ds)) := z_some _ _
theorem zl_r3 (es : Eps) (ε : Env) (Q : List Vl → Prop) : Wr (loopD Φ (.r3 es) ε) Q E = Wr (argsD Φ es ε) (fun as => Wo (rg3D as) Q) E := by simp only [loopD, iterD, z_rb, z_rl]
theorem zi_r3 (es : Eps) (ε : Env) (Q : List Vl → Prop) : Wr (iterD Φ (.r3 es) ε) Q E = Wr (argsD Φ es ε) (fun as => Wo (rg3D as) Q) E := by simp only [iterD, z_rb, z_rl]
/-- an except suite's end -/
def sutW (i : Nat) (Q : O → Prop) (o : O) : Prop := Wo (exitT i o) Q
def treW (Φ : Fns) (cs : List Nat) (i : Nat) (s : Sms) (Q : O → Prop) : O → Prop
  | .er c ns ds ε => cs.contains c = true ∧ noEx ε = true ∧ setW ε i (some (.ex c ns ds)) fun ε2 => Wo (execsD Φ s ε2) (sutW i Q)
  | o => Q o
theorem z_tre (b s : Sms) (cs : List Nat) (i : Nat) (ε : Env) (Q : O → Prop) : Wo (execD Φ (.tre b cs i s) ε) Q = Wo (execsD Φ b ε) (treW Φ cs i s Q) := by
  simp only [execD, z_bind]
  congr 1; funext o
  cases o with
  | er c ns ds ε2 =>
    simp only [treW, z_ifo, z_none, z_bind]
    by_cases h : cs.contains c = true ∧ noEx ε2 = true
    · rw [if_pos h]; simp only [h.1, h.2, true_and]; rfl
    · rw [if_neg h]
      refine propext ⟨False.elim, fun z => h ⟨z.1, z.2.1⟩⟩
  | _ => simp only [treW, z_some]
theorem z_treN (cs : List Nat) (i : Nat) (s : Sms) (Q : O → Prop) (ε : Env) : treW Φ cs i s Q (.nx ε) = Q (.nx ε) := rfl
theorem z_treR (cs : List Nat) (i : Nat) (s : Sms) (Q : O → Prop) (r : Vl) : treW Φ cs i s Q (.rt r) = Q (.rt r) := rfl
theorem z_treE (cs : List Nat) (i : Nat) (s : Sms) (Q : O → Prop) (c : Nat) (ns : List Str) (ds : List D) (ε : Env) : treW Φ cs i s Q (.er c ns ds ε) = (cs.contains c = true ∧ noEx ε = true ∧ setW ε i (some (.ex c ns ds)) fun ε2 => Wo (execsD Φ s ε2) (sutW i Q)) := rfl
theorem z_sutR (i : Nat) (Q : O → Prop) (r : Vl) : sutW i Q (.rt r) = Q (.rt r) := z_some _ _
theorem z_sutN (i : Nat) (Q : O → Prop) (ε : Env) : sutW i Q (.nx ε) = setW ε i none fun ε2 => noEx ε2 = true ∧ Q (.nx ε2) := by
  unfold sutW setW
  simp only [exitT, z_ite]
/-- an attribute of the caught error -/
def exfW (al : List Nat) (f : Str) (Q : Vl → Prop) (o : Option Vl) : Prop := Wo (exfD al o f) Q
theorem z_exf (i : Nat) (al : List Nat) (f : Str) (ε : Env) (Q : Vl → Prop) : Wr (evalD Φ (.exf i al f) ε) Q E = slW ε i (exfW al f Q) := by simp only [evalD, z_rl]; rfl
theorem z_exfW (al : List Nat) (f : Str) (Q : Vl → Prop) (c : Nat) (ns : List Str) (ds : List D) : exfW al f Q (some (.ex c ns ds)) = (al.contains c = true ∧ Wo ((ns.zip ds).lookup f) fun d => Q (.sh d)) := by
  unfold exfW
  simp only [exfD]
  by_cases h : al.contains c = true
  · simp only [h, if_true, true_and, z_map]
  · rw [if_neg h, z_none]
    exact propext ⟨False.elim, fun z => h z.1⟩
def exiW (al cs : List Nat) (Q : Bool → Prop) : Option Vl → Prop
  | some (.ex c _ _) => al.contains c = true ∧ Q (cs.contains c)
  | _ => False
theorem z_exi (i : Nat) (al cs : List Nat) (ε : Env) (Q : Vl → Prop) : Wr (evalD Φ (.exi i al cs) ε) Q E = slW ε i (exiW al cs fun t => Q (.sh (.bl t))) := by
  simp only [evalD]
  unfold slW
  cases getS ε i with
  | none => simp only [z_no, exiW]
  | some v => cases v <;> first | (simp only [exiW, z_rite]; done) | (simp only [z_no, exiW]; done)
theorem zt_exi (i : Nat) (al cs : List Nat) (ε : Env) (Q : Bool → Prop) : Wr (testD Φ (.exi i al cs) ε) Q E = slW ε i (exiW al cs Q) := by
  simp only [testD]
  unfold slW
  cases getS ε i with
  | none => simp only [z_no, exiW]
  | some v => cases v <;> first | (simp only [exiW, z_rite]; done) | (simp only [z_no, exiW]; done)
theorem z_exiW (al cs : List Nat) (Q : Bool → Prop) (c : Nat) (ns : List Str) (ds : List D) : exiW al cs Q (some (.ex c ns ds)) = (al.contains c = true ∧ Q (cs.contains c)) := rfl
/-- the object that is being made -/
def noW (Q : Nat → List Str → List D → Prop) : Vl → Prop
  | .no c ns ds => Q c ns ds
  | _ => False
theorem z_noW (Q : Nat → List Str → List D → Prop) (c : Nat) (ns : List Str) (ds : List D) : noW Q (.no c ns ds) = Q c ns ds := rfl
theorem z_new (ε : Env) (i : Nat) (Q : Nat × List Str × List D → Prop) : Wo (newD ε i) Q = nuW ε (Wo (getS ε i) (noW fun c ns ds => Q (c, ns, ds))) := by
  unfold newD nuW
  cases getS ε i with
  | none => simp [z_none]
  | some v =>
    cases v <;> first | (simp only [z_none, z_some, noW, and_false]; done) | skip
    rename_i c ns ds
    simp only [z_some, noW]
    by_cases h : noUs ε = true
    · simp only [h, if_true, z_some, true_and]
    · rw [if_neg h, z_none]; exact propext ⟨False.elim, fun z => h z.1⟩
theorem z_sfl (al : List Nat) (i : Nat) (f : Str) (e : Ep) (ε : Env) (Q : O → Prop) : Wo (execD Φ (.sfl al i f e) ε) Q = Wr (evalD Φ e ε) (fun r => Wo r.keep fun d => nuW ε (Wo (getS ε i) (noW fun c ns ds => ¬ (al.contains c = false ∨ ns.contains f = true ∨ 1000 ≤ ns.length) ∧ setW ε i (some (.no c (ns ++ [f]) (ds ++ [d]))) fun ε2 => Q (.nx ε2)))) (erW Q ε) := by
  simp only [execD, z_ob, z_bind, z_new, z_ifo, z_none, z_some]
  congr 1; funext r; congr 1; funext d; congr 1; congr 1; congr 1; funext c ns ds
  by_cases h : al.contains c = false ∨ ns.contains f = true ∨ 1000 ≤ ns.length
  · rw [if_pos h]; exact propext ⟨False.elim, fun z => z.1 h⟩
  · rw [if_neg h]; exact propext ⟨fun z => ⟨h, z⟩, fun z => z.2⟩
theorem z_rse (f : Nat) (es : Eps) (ε : Env) (Q : O → Prop) : Wo (execD Φ (.rse f es) ε) Q = Wr (argsD Φ es ε) (fun as => Wr (Φ.call f as) (fun _ => False) (erW Q ε)) (erW Q ε) := by
  simp only [execD, z_ob, z_none]
/-- the end of an __init__ -/
def iniW (Q : Vl → Prop) (E : EK) : O → Prop
  | .nx ε => nuW ε (Wo (getS ε 0) (noW fun c ns ds => Q (.sh (.obj c ns ds))))
  | .er c ns ds _ => E c ns ds
  | _ => False
theorem z_iniN (Q : Vl → Prop) (ε : Env) : iniW Q E (.nx ε) = nuW ε (Wo (getS ε 0) (noW fun c ns ds => Q (.sh (.obj c ns ds)))) := rfl
theorem z_iniE (Q : Vl → Prop) (c : Nat) (ns : List Str) (ds : List D) (ε : Env) : iniW Q E (.er c ns ds ε) = E c ns ds := rfl
theorem ini_of {c np nn : Nat} {b : Sms} {as : List Vl} {Q : Vl → Prop} (h : as.length + 1 = np) (k : Wo (execsD Φ b (some (.no c [] []) :: as.map some ++ List.replicate (nn - (as.length + 1)) none)) (iniW Q E)) : Wr (runD Φ (.ini c np nn b) as) Q E := by
  simp only [runD]
  rw [if_pos h]
  obtain ⟨o, h1, h2⟩ := k
  rw [h1]
  cases o with
  | nx ε =>
    have h2 : Wo (newD ε 0) (fun p => Q (.sh (.obj p.1 p.2.1 p.2.2))) := by rw [z_new]; exact h2
    obtain ⟨⟨c', ns, ds⟩, h3, h4⟩ := h2
    simp only [Option.bind_some, h3, rl, Option.map_some, rb]
    rw [z_rp]; exact h4
  | er c' ns ds ε =>
    simp only [Option.bind_some]
    rw [z_er]; exact h2
  | _ => exact h2.elim
theorem err_of {c np : Nat} {fs : List (Str × Nat)} {as : List Vl} {Q : Vl → Prop} {ns : List Str} {xs : List D} (h : as.length + 1 = np) (h2 : as.length ≤ 1000) (hp : putE (none :: as.map Vl.keep) fs [] [] = some (ns, xs)) (k : E c ns xs) : Wr (runD Φ (.err c np fs) as) Q E := by
  simp only [runD]
  rw [if_pos ⟨h, h2⟩, hp]
  exact Wr.er rfl k
theorem z_fldS (al : List Nat) (c : Nat) (ns : List Str) (ds : List D) (f : Str) (Q : Vl → Prop) : Wo (fldD al (.sh (.obj c ns ds)) f) Q = (al.contains c = true ∧ Wo ((ns.zip ds).lookup f) fun d => Q (.sh d)) := by
  simp only [fldD, Vl.d, z_ifo, z_bind, Vl.part, z_some, z_none]
  by_cases h : al.contains c = true
  · simp only [h, if_true, true_and]
  · rw [if_neg h]; exact propext ⟨False.elim, fun z => h z.1⟩
end
end EG
namespace EG
open PySem L2
/-! ### root rules: two clauses, sorted sets, raise X() -/
section
variable {Φ : Fns} {E : EK}
/-- one clause's turn; P: what lies behind the tests -/
def clF {α : Type} (Φ : Fns) (t : Tg) (cs : Eps) (P : Env → Option (List α)) (ε : Env) (x : Vl) : Option (List α) := (bindT t x ε).bind fun ε2 => (okO (testsD Φ cs ε2)).bind fun tb => if tb = true then P ε2 else some []
/-- a number, a kept value -/
def eI (Φ : Fns) (e : Ep) (ε : Env) : Option (List Int) := (okO (evalD Φ e ε)).bind fun r => (asI r.d).map fun k => [k]
def eK (Φ : Fns) (e : Ep) (ε : Env) : Option (List D) := (okO (evalD Φ e ε)).bind fun r => r.keep.map fun d => [d]
/-- the second clause -/
def cl2 {α : Type} (Φ : Fns) (own own1 : List Nat) (it1 : Epi) (t1 : Tg) (cs1 : Eps) (P : Env → Option (List α)) (ε2 : Env) : Option (List α) :=
  if shOn ε2 own = true then (okO (loopD Φ it1 ε2)).bind fun ys => catGo (clF Φ t1 cs1 P (wipeE ε2 own1)) ys else none
theorem z_sst (t : Tg) (it : Epi) (cs : Eps) (e : Ep) (own : List Nat) (ε : Env) (Q : Vl → Prop) : Wr (evalD Φ (.sst t it cs e own) ε) Q E =
    Wr (iterD Φ it ε) (fun xs => xs.length ≤ 100000 ∧ wipeW ε own fun ε2 => Wo (catGo (clF Φ t cs (eI Φ e) ε2) xs) fun ns => (uniqI ns).length < 64 ∧ Q (.fr 1 (.lst ((setI ns).map .int)))) E := by
  simp only [evalD, z_rb, wipeW_eq]
  congr 1; funext xs
  by_cases h : xs.length ≤ 100000
  · simp only [h, if_true, true_and, z_rl, z_bind]
    show Wo (catGo (clF Φ t cs (eI Φ e) (wipeE ε own)) xs) _ = _
    congr 1; funext ns
    by_cases h2 : (uniqI ns).length < 64
    · simp only [h2, if_true, true_and, z_some]; rfl
    · simp [h2, z_none]
  · simp [h, z_no, z_none]
theorem z_sst2 (t : Tg) (it : Epi) (cs : Eps) (t1 : Tg) (it1 : Epi) (cs1 : Eps) (e : Ep) (own own1 : List Nat) (ε : Env) (Q : Vl → Prop) : Wr (evalD Φ (.sst2 t it cs t1 it1 cs1 e own own1) ε) Q E =
    Wr (iterD Φ it ε) (fun xs => xs.length ≤ 100000 ∧ wipeW ε own fun ε2 => Wo (catGo (clF Φ t cs (cl2 Φ own own1 it1 t1 cs1 (eI Φ e)) ε2) xs) fun ns => (uniqI ns).length < 64 ∧ Q (.fr 1 (.lst ((setI ns).map .int)))) E := by
  simp only [evalD, z_rb, wipeW_eq, lit_loop]
  congr 1; funext xs
  by_cases h : xs.length ≤ 100000
  · simp only [h, if_true, true_and, z_rl, z_bind]
    show Wo (catGo (clF Φ t cs (cl2 Φ own own1 it1 t1 cs1 (eI Φ e)) (wipeE ε own)) xs) _ = _
    congr 1; funext ns
    by_cases h2 : (uniqI ns).length < 64
    · simp only [h2, if_true, true_and, z_some]; rfl
    · simp [h2, z_none]
  · simp [h, z_no, z_none]
theorem z_lc2 (t : Tg) (it : Epi) (cs : Eps) (t1 : Tg) (it1 : Epi) (cs1 : Eps) (e : Ep) (own own1 : List Nat) (ε : Env) (Q : Vl → Prop) : Wr (evalD Φ (.lc2 t it cs t1 it1 cs1 e own own1) ε) Q E =
    Wr (iterD Φ it ε) (fun xs => xs.length ≤ 100000 ∧ wipeW ε own fun ε2 => Wo (catGo (clF Φ t cs (cl2 Φ own own1 it1 t1 cs1 (eK Φ e)) ε2) xs) fun zs => zs.length ≤ 100000 ∧ Q (.fr 1 (.lst zs))) E := by
  simp only [evalD, z_rb, wipeW_eq, lit_loop]
  congr 1; funext xs
  by_cases h : xs.length ≤ 100000
  · simp only [h, if_true, true_and, z_rl, z_bind]
    show Wo (catGo (clF Φ t cs (cl2 Φ own own1 it1 t1 cs1 (eK Φ e)) (wipeE ε own)) xs) _ = _
    congr 1; funext ns
    by_cases h2 : ns.length ≤ 100000
    · simp only [h2, if_true, true_and, z_some]
    · simp [h2, z_none]
  · simp [h, z_no, z_none]
theorem z_clF0 {α : Type} (t : Tg) (P : Env → Option (List α)) (ε : Env) (x : Vl) (Q : List α → Prop) : Wo (clF Φ t .nil P ε x) Q = Wo (bindT t x ε) fun ε2 => Wo (P ε2) Q := by
  unfold clF
  simp only [z_bind, testsD, z_okO, z_rp, if_true]
theorem z_clF1 {α : Type} (t : Tg) (c : Ep) (P : Env → Option (List α)) (ε : Env) (x : Vl) (Q : List α → Prop) : Wo (clF Φ t (.cons c .nil) P ε x) Q = Wo (bindT t x ε) fun ε2 => Wr (testD Φ c ε2) (fun b => if b = true then Wo (P ε2) Q else Q []) E0 := by
  unfold clF
  simp only [z_bind, testsD, z_okO, z_rb]
  congr 1; funext ε2; congr 1; funext b
  cases b <;> simp [z_some, z_bind, z_map, z_rp, z_okO]
theorem z_eI (e : Ep) (ε : Env) (Q : List Int → Prop) : Wo (eI Φ e ε) Q = Wr (evalD Φ e ε) (fun r => Wo (asI r.d) fun k => Q [k]) E0 := by
  unfold eI
  simp only [z_bind, z_map, z_okO]
theorem z_eK (e : Ep) (ε : Env) (Q : List D → Prop) : Wo (eK Φ e ε) Q = Wr (evalD Φ e ε) (fun r => Wo r.keep fun d => Q [d]) E0 := by
  unfold eK
  simp only [z_bind, z_map, z_okO]
def shW (ε : Env) (own : List Nat) (P : Prop) : Prop := shOn ε own = true ∧ P
theorem z_cl2 {α : Type} (own own1 : List Nat) (it1 : Epi) (t1 : Tg) (cs1 : Eps) (P : Env → Option (List α)) (ε2 : Env) (Q : List α → Prop) : Wo (cl2 Φ own own1 it1 t1 cs1 P ε2) Q = shW ε2 own (Wr (loopD Φ it1 ε2) (fun ys => wipeW ε2 own1 fun ε3 => Wo (catGo (clF Φ t1 cs1 P ε3) ys) Q) E0) := by
  unfold cl2 shW
  by_cases h : shOn ε2 own = true
  · simp only [h, if_true, true_and, z_bind, z_okO, wipeW_eq]
  · simp [h, z_no, z_none]
theorem z_sh0 (ε : Env) (P : Prop) : shW ε [] P = P := by simp [shW, shOn]
theorem z_shS (ε : Env) (v : Nat) (vs : List Nat) (P : Prop) : shW ε (v :: vs) P = ((match getS ε v with | none => True | some (.sh _) => True | _ => False) ∧ shW ε vs P) := by
  unfold shW shOn
  simp only [List.all_cons, Bool.and_eq_true, and_assoc]
  congr 1
  apply propext
  split <;> simp_all
/-- the parts, one behind the other -/
theorem zk_to {α : Type} {F : Vl → Option (List α)} : ∀ {vs : List Vl} {ys : List (List α)} {Q : List α → Prop}, vs.length = ys.length → (∀ (i : Nat) (v : Vl) (y : List α), vs[i]? = some v → ys[i]? = some y → Wo (F v) fun o => o = y) → Q ys.flatten → Wo (catGo F vs) Q := by
  intro vs
  have key : ∀ (vs : List Vl) (ys : List (List α)), vs.length = ys.length → (∀ (i : Nat) (v : Vl) (y : List α), vs[i]? = some v → ys[i]? = some y → Wo (F v) fun o => o = y) → catGo F vs = some ys.flatten := by
    intro vs
    induction vs with
    | nil => intro ys h _; cases ys with
      | nil => rfl
      | cons y ys => simp at h
    | cons v vs ih =>
      intro ys h hs
      cases ys with
      | nil => simp at h
      | cons y ys =>
        obtain ⟨o, h1, h2⟩ := hs 0 v y rfl rfl
        rw [catGo, h1, h2, Option.bind_some, ih ys (by simpa using h) fun i v y a b => hs (i + 1) v y (by simpa using a) (by simpa using b)]
        rfl
  intro ys Q h hs q
  rw [key vs ys h hs, z_some]; exact q
theorem z_cat0 {α : Type} (F : Vl → Option (List α)) (Q : List α → Prop) : Wo (catGo F []) Q = Q [] := by rw [catGo, z_some]
theorem z_catS {α : Type} (F : Vl → Option (List α)) (x : Vl) (xs : List Vl) (Q : List α → Prop) : Wo (catGo F (x :: xs)) Q = Wo (F x) fun ys => Wo (catGo F xs) fun zs => Q (ys ++ zs) := by
  simp only [catGo, z_bind, z_map]
theorem z_rse0 (c : Nat) (ε : Env) (Q : O → Prop) : Wo (execD Φ (.rse0 c) ε) Q = Q (.er c [] [] ε) := by simp only [execD, z_some]
end
end EG
namespace EG
open PySem L2
/-! ### root rules: texts, dicts -/
section
variable {Φ : Fns} {E : EK}
theorem z_fnd (a b : Ep) (ε : Env) (Q : Vl → Prop) : Wr (evalD Φ (.fnd a b) ε) Q E = Wr (evalD Φ a ε) (fun x => isStr x.d = true ∧ Wr (evalD Φ b ε) (fun y => Wo (fndD x.d y.d) Q) E) E := by simp only [evalD, z_rb, z_rl, z_iffE]
theorem z_isStr (x : Str) (P : Prop) : (isStr (.str x) = true ∧ P) = P := by simp [isStr]
theorem z_fndX (x y : Str) (Q : Vl → Prop) : Wo (fndD (.str x) (.str y)) Q = Q (.sh (.int (Txt.find x y))) := z_some _ _
theorem z_dit (a : Ep) (ε : Env) (Q : Vl → Prop) : Wr (evalD Φ (.dit a) ε) Q E = Wr (evalD Φ a ε) (fun x => Wo (ditD x) Q) E := by simp only [evalD, z_rb, z_rl]
theorem z_ditB (ks : List Key) (xs : List D) (Q : Vl → Prop) : Wo (ditD (.bo 1 (.dct (.k ks) xs))) Q = Q (.fr 1 (.lst ((ks.zip xs).map fun p => .tup [keyD p.1, p.2]))) := z_some _ _
theorem z_ditF (ks : List Key) (xs : List D) (Q : Vl → Prop) : Wo (ditD (.fr 1 (.dct (.k ks) xs))) Q = Q (.fr 1 (.lst ((ks.zip xs).map fun p => .tup [keyD p.1, p.2]))) := z_some _ _
theorem z_ditS (ks : List Key) (xs : List D) (Q : Vl → Prop) : Wo (ditD (.sh (.dct (.k ks) xs))) Q = Q (.fr 1 (.lst ((ks.zip xs).map fun p => .tup [keyD p.1, p.2]))) := z_some _ _
theorem z_ditU (ks : List Key) (xs : List D) (Q : Vl → Prop) : Wo (ditD (.us 1 (.dct (.k ks) xs))) Q = Q (.fr 1 (.lst ((ks.zip xs).map fun p => .tup [keyD p.1, p.2]))) := z_some _ _
theorem z_listDB (ks : List Key) (xs : List D) (Q : Vl → Prop) : Wo (biD .list [.bo 1 (.dct (.k ks) xs)]) Q = Q (.fr 1 (.lst (ks.map keyD))) := z_some _ _
theorem z_listDS (ks : List Key) (xs : List D) (Q : Vl → Prop) : Wo (biD .list [.sh (.dct (.k ks) xs)]) Q = Q (.fr 1 (.lst (ks.map keyD))) := z_some _ _
theorem z_strI (i : Int) (Q : Vl → Prop) : Wo (biD .str [.sh (.int i)]) Q = (i.natAbs.log2 < 1900 ∧ Q (.sh (.str (toString i)))) := z_ite _ _
theorem z_strX (x : Str) (Q : Vl → Prop) : Wo (biD .str [.sh (.str x)]) Q = Q (.sh (.str x)) := z_some _ _
theorem z_isiX (t : TyN) (i : Str) (Q : Bool → Prop) : Wo (isiD t (.str i)) Q = Q (match t with | .str => true | _ => false) := by cases t <;> exact z_some _ _
theorem z_isiD (t : TyN) (ks : List Key) (xs : List D) (Q : Bool → Prop) : Wo (isiD t (.dct (.k ks) xs)) Q = Q (match t with | .dict => true | _ => false) := by cases t <;> exact z_some _ _
theorem z_truX (i : Str) : truD (.str i) = none := rfl
theorem sorted_strs_some {zs : List Str} (h : zs.length < 64) : sortD (zs.map D.str) = some ((sortS zs).map D.str) := by
  unfold sortD
  cases zs with
  | nil => rfl
  | cons z zs =>
    have h1 : intsOf ((z :: zs).map D.str) = none := rfl
    have h2 : pairsOf ((z :: zs).map D.str) = none := rfl
    rw [h1, h2]
    simp only [strsOf_map, Option.bind_some, h, if_true]
theorem z_sortXS {zs : List Str} (h : zs.length < 64) (Q : Vl → Prop) : Wo (biD .sorted [.sh (.lst (zs.map .str))]) Q = Q (.fr 1 (.lst ((sortS zs).map .str))) := by
  simp only [biD, Vl.low, Vl.d, if_true, sorted_strs_some h, Option.map_some, z_some]
theorem z_sortXB {zs : List Str} (h : zs.length < 64) (Q : Vl → Prop) : Wo (biD .sorted [.bo 1 (.lst (zs.map .str))]) Q = Q (.fr 1 (.lst ((sortS zs).map .str))) := by
  simp only [biD, z_loB, Vl.d, if_true, sorted_strs_some h, Option.map_some, z_some]
theorem z_sortXT {zs : List Str} (h : zs.length < 64) (Q : Vl → Prop) : Wo (biD .sorted [.sh (.tup (zs.map .str))]) Q = Q (.fr 1 (.lst ((sortS zs).map .str))) := by
  simp only [biD, Vl.d, strsOf_map, Option.bind_some, h, if_true, z_some]
/-! dict comprehensions -/
def dcF (Φ : Fns) (t : Tg) (cs : Eps) (ek ev : Ep) (ε : Env) (x : Vl) : Option (Option (D × D)) := (bindT t x ε).bind fun ε2 => (okO (testsD Φ cs ε2)).bind fun tb =>
  if tb = true then (okO (evalD Φ ek ε2)).bind fun kv => if isK kv.d = true then (okO (evalD Φ ev ε2)).bind fun r => r.keep.map fun d => some (kv.d, d) else none else some none
theorem z_dcp (t : Tg) (it : Epi) (cs : Eps) (ek ev : Ep) (own : List Nat) (ε : Env) (Q : Vl → Prop) : Wr (evalD Φ (.dcp t it cs ek ev own) ε) Q E = Wr (iterD Φ it ε) (fun xs => xs.length ≤ 100000 ∧ wipeW ε own fun ε2 => Wo (dcGo (dcF Φ t cs ek ev ε2) xs) fun t => Q (.fr 1 t)) E := by
  simp only [evalD, z_rb, wipeW_eq]
  congr 1; funext xs
  by_cases h : xs.length ≤ 100000
  · simp only [h, if_true, true_and, z_rl, z_map]; rfl
  · simp [h, z_no]
theorem z_dcF0 (t : Tg) (ek ev : Ep) (ε : Env) (x : Vl) (Q : Option (D × D) → Prop) : Wo (dcF Φ t .nil ek ev ε x) Q = Wo (bindT t x ε) fun ε2 => Wr (evalD Φ ek ε2) (fun kv => isK kv.d = true ∧ Wr (evalD Φ ev ε2) (fun r => Wo r.keep fun d => Q (some (kv.d, d))) E0) E0 := by
  unfold dcF
  simp only [z_bind, testsD, z_okO, z_rp, if_true]
  congr 1; funext ε2; congr 1; funext kv
  by_cases h : isK kv.d = true
  · simp only [h, if_true, true_and, z_bind, z_okO, z_map]
  · simp [h, z_none]
theorem z_isK (x : Str) (P : Prop) : (isK (.str x) = true ∧ P) = P := by simp [isK]
theorem z_isKI (x : Int) (P : Prop) : (isK (.int x) = true ∧ P) = P := by simp [isK]
theorem asK_keyD : ∀ k : Key, asK (keyD k) = some k
  | .inl _ => rfl
  | .inr _ => rfl
theorem keyAt_no {κ : Type} [DecidableEq κ] : ∀ {ks : List κ} {k : κ}, k ∉ ks → keyAt ks k = none
  | [], _, _ => rfl
  | y :: r, k, h => by
    have h1 : y ≠ k := fun z => h (by rw [z]; exact List.mem_cons_self)
    simp only [keyAt, if_neg h1, keyAt_no fun z => h (List.mem_cons_of_mem _ z), Option.map_none]
/-- distinct keys -/
theorem dc_new {f : Vl → Option (Option (D × D))} {xs : List Vl} {ks : List Key} {ds : List D} (h1 : xs.length = ks.length) (h2 : ds.length = ks.length) (nd : ks.Nodup) (hl : ks.length ≤ 100000)
    (h : ∀ (i : Nat) (x : Vl) (k : Key) (d : D), xs[i]? = some x → ks[i]? = some k → ds[i]? = some d → Wo (f x) fun o => o = some (keyD k, d)) : dcGo f xs = some (.dct (.k ks) ds) := by
  have key : ∀ (n : Nat), n ≤ ks.length → dcFold f (.dct (.k []) []) (xs.take n) = some (.dct (.k (ks.take n)) (ds.take n)) := by
    intro n
    induction n with
    | zero => intro _; rfl
    | succ n ih =>
      intro hn
      have ih := ih (by omega)
      have hx : xs[n]? = some (xs[n]'(by omega)) := List.getElem?_eq_getElem _
      have hk : ks[n]? = some (ks[n]'(by omega)) := List.getElem?_eq_getElem _
      have hd : ds[n]? = some (ds[n]'(by omega)) := List.getElem?_eq_getElem _
      obtain ⟨o, e1, rfl⟩ := h n _ _ _ hx hk hd
      rw [List.take_add_one, hx, dcFold_app, ih]
      simp only [Option.toList, Option.bind_some, dcFold, e1]
      have hnot : ks[n]'(by omega) ∉ ks.take n := fun z => by
        obtain ⟨j, hj, e⟩ := List.getElem_of_mem z
        rw [List.getElem_take] at e
        rw [List.length_take] at hj
        have := (List.getElem_inj nd).mp e
        omega
      have hput : dcStep (.dct (.k (ks.take n)) (ds.take n)) (keyD (ks[n]'(by omega)), ds[n]'(by omega)) = some (.dct (.k (ks.take (n + 1))) (ds.take (n + 1))) := by
        unfold dcStep putDc
        simp only [Ky.at, asK_keyD, Option.map_some, Option.bind_some, keyAt_no hnot, Ky.snoc]
        rw [if_pos (show (Ky.k (ks.take n)).length < 100000 by show (ks.take n).length < 100000; rw [List.length_take]; omega)]
        rw [List.take_add_one, hk, List.take_add_one, hd]; rfl
      rw [hput]; rfl
  have := key ks.length (Nat.le_refl _)
  rw [List.take_of_length_le (by omega), List.take_of_length_le (by omega), List.take_of_length_le (by omega)] at this
  exact this
/-! moving a part out of an own list -/
def mvW (k i : Nat) (j : Int) (ε : Env) (Q : Env → Prop) : Option Vl → Prop
  | some (.fr (n + 2) (.lst ds)) => k ≠ i ∧ Wo (atI ds j) fun d => setW ε i none fun ε1 => setW ε1 k (some (.fr (n + 1) d)) Q
  | _ => False
theorem z_mov (k i : Nat) (j : Int) (ε : Env) (Q : O → Prop) : Wo (execD Φ (.mov k i j) ε) Q = slW ε i (mvW k i j ε fun ε2 => Q (.nx ε2)) := by
  simp only [execD, z_map]
  unfold movD slW
  cases getS ε i with
  | none => simp [mvW, z_none]
  | some r =>
    cases r with
    | fr n d =>
      cases n with
      | zero => simp [mvW, z_none]
      | succ n =>
        cases n with
        | zero => simp [mvW, z_none]
        | succ n =>
          cases d <;> simp [mvW, z_none]
          rename_i xs
          by_cases h : k = i
          · simp [h, z_none]
          · simp [h, z_map, setW]
    | _ => simp [mvW, z_none]
theorem z_mvW (k i : Nat) (j : Int) (ε : Env) (Q : Env → Prop) (n : Nat) (ds : List D) : mvW k i j ε Q (some (.fr (n + 2) (.lst ds))) = (k ≠ i ∧ Wo (atI ds j) fun d => setW ε i none fun ε1 => setW ε1 k (some (.fr (n + 1) d)) Q) := rfl
theorem z_mvW2 (k i : Nat) (j : Int) (ε : Env) (Q : Env → Prop) (ds : List D) : mvW k i j ε Q (some (.fr 2 (.lst ds))) = (k ≠ i ∧ Wo (atI ds j) fun d => setW ε i none fun ε1 => setW ε1 k (some (.fr 1 d)) Q) := rfl
end
end EG
namespace K03
open PySem L2 EG
def topS (i : Nat) : Stmt := PySem.Challenge.pw_everyfuture_k03_gauges_and_readings.main.body.getD i (.Pass ⟨0, 0, 0, 0⟩)
def mo : Mo := { fs := ["is_gauge", "value_of", "part_of", "_law_draw", "_law_name", "_law_is_integer", "_law_order", "_law_good", "_law_odd", "_law_words", "_law_value", "_law_asked", "_law_value_fits", "_law_is_part", "_law_part_fits", "law"], bn := ["len", "int", "list", "tuple", "all", "sorted", "isinstance", "range", "bool", "str", "dict"], gc := [], nw := [], me := [], fl := [], er := [("InvalidGauge", 16), ("OtherGauges", 17), ("SharedGauge", 18), ("MissingGauge", 19), ("OutOfRange", 20), ("InvalidSign", 21)], er0 := [], hd := [("FutureError", [0, 1, 2, 3, 4, 5, 6])], ec := [0, 1, 2, 3, 4, 5, 6], et := [("InvalidGauge", [1]), ("InvalidSign", [6]), ("MissingGauge", [4]), ("OtherGauges", [2]), ("OutOfRange", [5]), ("SharedGauge", [3]), ("ValueError", [0, 1, 2, 3, 4, 5, 6])], xf := ["gauge"], dp := [(128, 19, 1)], dt := false, ic := [], al := [], oq := [], oa := [], cv := false, dg := true, hnw := [], lp := [], lc := [], lf := "", gk := [("LETTERS", "abcdefghijklmnopqrstuvwxyz"), ("DIGITS", "0123456789")], sf := true, mv := [(163, 4, 163, 28)] }
def N_is_gauge : List Str := ["name", "sign"]
def ps_is_gauge : List Str := ["name"]
def N_value_of : List Str := ["reading", "future"]
def ps_value_of : List Str := ["reading", "future"]
def N_part_of : List Str := ["future", "gauges", "names", "name"]
def ps_part_of : List Str := ["future", "gauges"]
def N_q_draw : List Str := ["_law_script", "_law_place", "_law_step", "_law_size", "_law_cell", "_law_left", "_law_turn", "_law_mixed"]
def ps_q_draw : List Str := ["_law_script", "_law_place", "_law_step", "_law_size"]
def N_q_name : List Str := ["_law_script", "_law_place", "_law_step", "_law_k", "_law_letters", "_law_same", "_law_first", "_law_front", "_law_back"]
def ps_q_name : List Str := ["_law_script", "_law_place", "_law_step", "_law_k"]
def N_q_is_integer : List Str := ["_law_told"]
def ps_q_is_integer : List Str := ["_law_told"]
def N_q_order : List Str := ["_law_script", "_law_place", "_law_many", "_law_left", "_law_order_here", "_law_k", "_law_at"]
def ps_q_order : List Str := ["_law_script", "_law_place", "_law_many"]
def N_q_good : List Str := ["_law_name_here", "_law_letters", "_law_sign"]
def ps_q_good : List Str := ["_law_name_here"]
def N_q_odd : List Str := ["_law_script", "_law_place", "_law_step", "_law_signs"]
def ps_q_odd : List Str := ["_law_script", "_law_place", "_law_step"]
def N_q_words : List Str := ["_law_script", "_law_name_here", "_law_signs", "_law_word", "_law_k", "_law_at", "_law_filled", "_law_spoilt", "_law_front", "_law_words_here"]
def ps_q_words : List Str := ["_law_script", "_law_name_here"]
def N_q_value : List Str := ["_law_script", "_law_place", "_law_step", "_law_value_here", "_law_shape"]
def ps_q_value : List Str := ["_law_script", "_law_place", "_law_step"]
def N_q_asked : List Str := ["_law_wanted", "_law_future", "_law_whole", "e"]
def ps_q_asked : List Str := ["_law_wanted", "_law_future", "_law_whole"]
def N_q_value_fits : List Str := ["_law_reading", "_law_future", "_law_told"]
def ps_q_value_fits : List Str := ["_law_reading", "_law_future"]
def N_q_is_part : List Str := ["_law_told", "_law_wanted", "_law_future", "_law_names", "_law_name_here"]
def ps_q_is_part : List Str := ["_law_told", "_law_wanted", "_law_future"]
def N_q_part_fits : List Str := ["_law_wanted", "_law_future", "_law_passed", "_law_told", "_law_name_here", "_law_part", "_law_again"]
def ps_q_part_fits : List Str := ["_law_wanted", "_law_future"]
def N_law : List Str := ["_law_script", "_law_names", "_law_k", "_law_word", "_law_told", "_law_future", "_law_before", "_law_wanted", "_law_held", "_law_name_here", "_law_reading", "_law_kept", "_law_stood"]
def ps_law : List Str := ["_law_script"]
def N_E_InvalidGauge : List Str := ["self", "gauge", "__class__"]
def ps_E_InvalidGauge : List Str := ["self", "gauge"]
def N_E_OtherGauges : List Str := ["self", "gauge", "__class__"]
def ps_E_OtherGauges : List Str := ["self", "gauge"]
def N_E_SharedGauge : List Str := ["self", "gauge", "__class__"]
def ps_E_SharedGauge : List Str := ["self", "gauge"]
def N_E_MissingGauge : List Str := ["self", "gauge", "__class__"]
def ps_E_MissingGauge : List Str := ["self", "gauge"]
def N_E_OutOfRange : List Str := ["self", "gauge", "__class__"]
def ps_E_OutOfRange : List Str := ["self", "gauge"]
def N_E_InvalidSign : List Str := ["self", "gauge", "__class__"]
def ps_E_InvalidSign : List Str := ["self", "gauge"]
def b_is_gauge_1 : Sms := (.cons (.ret (.bi .all (.cons (.lc (.n 1) (.over (.v 0)) .nil (.or (.cmp .In (.v 1) (.c (.str "abcdefghijklmnopqrstuvwxyz"))) (.cmp .In (.v 1) (.c (.str "0123456789")))) [1]) .nil))) .nil)
def b_is_gauge : Sms := (.cons (.ifs (.or (.not (.chn .LtE .LtE (.c (.int (1))) (.bi .len (.cons (.v 0) .nil)) (.c (.int (8))))) (.cmp .NotIn (.ix (.v 0) (.c (.int (0)))) (.c (.str "abcdefghijklmnopqrstuvwxyz")))) (.cons (.ret (.c (.bl false))) .nil) .nil) b_is_gauge_1)
def e_is_gauge : Ent := { x := "is_gauge", q := "is_gauge", st := (topS 11), N := N_is_gauge, ps := ps_is_gauge, body := b_is_gauge }
theorem c_is_gauge : EntOk mo e_is_gauge := ⟨fun _ => scopeB_ok (by decide +kernel), fun _ => ⟨60, by kernel_rfl⟩⟩
def b_value_of_1 : Sms := (.cons (.ret (.ix (.v 1) (.v 0))) .nil)
def b_value_of_2 : Sms := (.cons (.ifs (.cmp .NotIn (.v 0) (.v 1)) (.cons (.fz 0) (.cons (.rse 19 (.cons (.v 0) .nil)) .nil)) .nil) b_value_of_1)
def b_value_of : Sms := (.cons (.ifs (.not (.isi .str (.v 0))) (.cons (.retV 0) .nil) .nil) b_value_of_2)
def e_value_of : Ent := { x := "value_of", q := "value_of", st := (topS 12), N := N_value_of, ps := ps_value_of, body := b_value_of }
theorem c_value_of : EntOk mo e_value_of := ⟨fun _ => scopeB_ok (by decide +kernel), fun _ => ⟨60, by kernel_rfl⟩⟩
def b_part_of_1 : Sms := (.cons (.ret (.dcp (.n 3) (.over (.v 2)) .nil (.v 3) (.ix (.v 0) (.v 3)) [3])) .nil)
def b_part_of_L2 : Sms := (.cons (.ifs (.cmp .NotIn (.v 3) (.v 0)) (.cons (.fz 3) (.cons (.rse 19 (.cons (.v 3) .nil)) .nil)) .nil) .nil)
def b_part_of : Sms := (.cons (.asg (.n 2) (.bi .sorted (.cons (.v 1) .nil))) (.cons (.fz 2) (.cons (.frs (.n 3) (.over (.v 2)) b_part_of_L2) b_part_of_1)))
def e_part_of : Ent := { x := "part_of", q := "part_of", st := (topS 13), N := N_part_of, ps := ps_part_of, body := b_part_of }
theorem c_part_of : EntOk mo e_part_of := ⟨fun _ => scopeB_ok (by decide +kernel), fun _ => ⟨60, by kernel_rfl⟩⟩
def b_q_draw_1 : Sms := (.cons (.asg (.n 7) (.bin .Mod (.bi .int (.cons (.bin .Add (.bin .Add (.bin .Add (.v 4) (.bin .Mult (.c (.int (7919))) (.v 2))) (.bin .Mult (.c (.int (104729))) (.v 1))) (.c (.int (13)))) .nil)) (.c (.int (2147483647))))) (.cons (.asg (.n 7) (.bin .Mod (.bi .int (.cons (.bin .Mult (.v 7) (.bin .Add (.v 7) (.c (.int (48271))))) .nil)) (.c (.int (2147483629))))) (.cons (.asg (.n 7) (.bin .Mod (.bi .int (.cons (.bin .Add (.bin .Mult (.v 7) (.bin .Add (.v 7) (.c (.int (69621))))) (.bin .Mult (.c (.int (31))) (.v 2))) .nil)) (.c (.int (2147483647))))) (.cons (.ret (.bin .Mod (.bi .int (.cons (.bin .FloorDiv (.v 7) (.c (.int (9)))) .nil)) (.v 3))) .nil))))
def b_q_draw_2 : Sms := (.cons (.ifs (.cmp .Gt (.v 5) (.c (.int (0)))) (.cons (.ret (.bin .Mod (.bi .int (.cons (.bin .Mod (.bi .int (.cons (.v 5) .nil)) (.c (.int (1000)))) .nil)) (.v 3))) .nil) .nil) b_q_draw_1)
def b_q_draw_L3 : Sms := (.cons (.ifs (.cmp .Gt (.v 5) (.c (.int (0)))) (.cons (.asg (.n 5) (.bin .FloorDiv (.v 5) (.c (.int (1000))))) .nil) .nil) .nil)
def b_q_draw_4 : Sms := (.cons (.asg (.n 5) (.bin .Sub (.v 4) (.bin .Pow (.c (.int (10))) (.c (.int (18)))))) (.cons (.frs (.n 6) (.r1 (.v 2)) b_q_draw_L3) b_q_draw_2))
def b_q_draw_5 : Sms := (.cons (.ifs (.cmp .Lt (.v 4) (.c (.int (0)))) (.cons (.asg (.n 4) (.bin .Sub (.c (.int (0))) (.v 4))) .nil) .nil) b_q_draw_4)
def b_q_draw : Sms := (.cons (.fz 1) (.cons (.asg (.n 4) (.v 1)) (.cons (.ifs (.cmp .Gt (.bi .len (.cons (.v 0) .nil)) (.c (.int (0)))) (.cons (.asg (.n 4) (.bin .Add (.ix (.v 0) (.bin .Mod (.bi .int (.cons (.v 1) .nil)) (.bi .len (.cons (.v 0) .nil)))) (.bin .FloorDiv (.v 1) (.bi .len (.cons (.v 0) .nil))))) .nil) .nil) b_q_draw_5)))
def e_q_draw : Ent := { x := "_law_draw", q := "_law_draw", st := (topS 15), N := N_q_draw, ps := ps_q_draw, body := b_q_draw }
theorem c_q_draw : EntOk mo e_q_draw := ⟨fun _ => scopeB_ok (by decide +kernel), fun _ => ⟨60, by kernel_rfl⟩⟩
def b_q_name_1 : Sms := (.cons (.ret (.bin .Add (.bin .Add (.bin .Add (.ix (.v 4) (.v 6)) (.bin .Mult (.ix (.v 4) (.bin .Sub (.c (.int (25))) (.v 6))) (.v 7))) (.bi .str (.cons (.v 3) .nil))) (.bin .Mult (.ix (.v 4) (.v 6)) (.v 8)))) .nil)
def b_q_name : Sms := (.cons (.asg (.n 4) (.c (.str "abcdefghijklmnopqrstuvwxyz"))) (.cons (.asg (.n 5) (.call 3 (.cons (.v 0) (.cons (.v 1) (.cons (.c (.int (0))) (.cons (.c (.int (2))) .nil)))))) (.cons (.asg (.n 6) (.call 3 (.cons (.v 0) (.cons (.v 1) (.cons (.bin .Add (.v 2) (.c (.int (1)))) (.cons (.c (.int (26))) .nil)))))) (.cons (.asg (.n 7) (.call 3 (.cons (.v 0) (.cons (.v 1) (.cons (.bin .Add (.v 2) (.c (.int (2)))) (.cons (.c (.int (4))) .nil)))))) (.cons (.asg (.n 8) (.call 3 (.cons (.v 0) (.cons (.v 1) (.cons (.bin .Add (.v 2) (.c (.int (3)))) (.cons (.c (.int (4))) .nil)))))) (.cons (.ifs (.cmp .Eq (.v 5) (.c (.int (0)))) (.cons (.ret (.bin .Add (.bin .Add (.bin .Add (.ix (.v 4) (.c (.int (7)))) (.bin .Mult (.c (.str "q")) (.v 7))) (.bi .str (.cons (.v 3) .nil))) (.bin .Mult (.c (.str "q")) (.v 8)))) .nil) .nil) b_q_name_1))))))
def e_q_name : Ent := { x := "_law_name", q := "_law_name", st := (topS 16), N := N_q_name, ps := ps_q_name, body := b_q_name }
theorem c_q_name : EntOk mo e_q_name := ⟨fun _ => scopeB_ok (by decide +kernel), fun _ => ⟨60, by kernel_rfl⟩⟩
def b_q_is_integer : Sms := (.cons (.ret (.and (.isi .int (.v 0)) (.not (.isi .bool (.v 0))))) .nil)
def e_q_is_integer : Ent := { x := "_law_is_integer", q := "_law_is_integer", st := (topS 17), N := N_q_is_integer, ps := ps_q_is_integer, body := b_q_is_integer }
theorem c_q_is_integer : EntOk mo e_q_is_integer := ⟨fun _ => scopeB_ok (by decide +kernel), fun _ => ⟨60, by kernel_rfl⟩⟩
def b_q_order_1 : Sms := (.cons (.retV 4) .nil)
def b_q_order_L2 : Sms := (.cons (.asg (.n 6) (.call 3 (.cons (.v 0) (.cons (.v 1) (.cons (.v 5) (.cons (.bi .len (.cons (.v 3) .nil)) .nil)))))) (.cons (.appPop 4 3 (.so (.v 6))) .nil))
def b_q_order : Sms := (.cons (.asg (.n 3) (.lrg (.v 2))) (.cons (.asg (.n 4) (.lst .nil)) (.cons (.frs (.n 5) (.r1 (.v 2)) b_q_order_L2) b_q_order_1)))
def e_q_order : Ent := { x := "_law_order", q := "_law_order", st := (topS 18), N := N_q_order, ps := ps_q_order, body := b_q_order }
theorem c_q_order : EntOk mo e_q_order := ⟨fun _ => scopeB_ok (by decide +kernel), fun _ => ⟨60, by kernel_rfl⟩⟩
def b_q_good_1 : Sms := (.cons (.ret (.c (.bl true))) .nil)
def b_q_good_L2 : Sms := (.cons (.ifs (.cmp .Lt (.fnd (.bin .Add (.v 1) (.c (.str "0123456789"))) (.v 2)) (.c (.int (0)))) (.cons (.ret (.c (.bl false))) .nil) .nil) .nil)
def b_q_good_3 : Sms := (.cons (.fz 0) (.cons (.frs (.n 2) (.over (.v 0)) b_q_good_L2) b_q_good_1))
def b_q_good : Sms := (.cons (.asg (.n 1) (.c (.str "abcdefghijklmnopqrstuvwxyz"))) (.cons (.ifs (.or (.cmp .Lt (.bi .len (.cons (.v 0) .nil)) (.c (.int (1)))) (.or (.cmp .Gt (.bi .len (.cons (.v 0) .nil)) (.c (.int (8)))) (.cmp .Lt (.fnd (.v 1) (.ix (.v 0) (.c (.int (0))))) (.c (.int (0)))))) (.cons (.ret (.c (.bl false))) .nil) .nil) b_q_good_3))
def e_q_good : Ent := { x := "_law_good", q := "_law_good", st := (topS 19), N := N_q_good, ps := ps_q_good, body := b_q_good }
theorem c_q_good : EntOk mo e_q_good := ⟨fun _ => scopeB_ok (by decide +kernel), fun _ => ⟨60, by kernel_rfl⟩⟩
def b_q_odd_1 : Sms := (.cons (.ret (.ix (.v 3) (.call 3 (.cons (.v 0) (.cons (.v 1) (.cons (.bin .Add (.v 2) (.c (.int (1)))) (.cons (.bi .len (.cons (.v 3) .nil)) .nil))))))) .nil)
def b_q_odd : Sms := (.cons (.asg (.n 3) (.c (.str " !\"#$&'()*+,-./:;<=>?\x40[\\]^_`{|}~\n\t"))) (.cons (.ifs (.cmp .Eq (.call 3 (.cons (.v 0) (.cons (.v 1) (.cons (.v 2) (.cons (.c (.int (2))) .nil))))) (.c (.int (0)))) (.cons (.asg (.n 3) (.c (.str "ABCDEFGHIJKLMNOPQRSTUVWXYZ"))) .nil) .nil) b_q_odd_1))
def e_q_odd : Ent := { x := "_law_odd", q := "_law_odd", st := (topS 20), N := N_q_odd, ps := ps_q_odd, body := b_q_odd }
theorem c_q_odd : EntOk mo e_q_odd := ⟨fun _ => scopeB_ok (by decide +kernel), fun _ => ⟨60, by kernel_rfl⟩⟩
def b_q_words_1 : Sms := (.cons (.asg (.n 5) (.call 3 (.cons (.v 0) (.cons (.c (.int (1))) (.cons (.c (.int (8))) (.cons (.bi .len (.cons (.v 6) .nil)) .nil)))))) (.cons (.asg (.n 7) (.bin .Add (.bin .Add (.sl (.v 6) .no (.so (.v 5))) (.call 8 (.cons (.v 0) (.cons (.c (.int (1))) (.cons (.c (.int (9))) .nil))))) (.sl (.v 6) (.so (.bin .Add (.v 5) (.c (.int (1))))) .no))) (.cons (.asg (.n 8) (.ix (.v 2) (.call 3 (.cons (.v 0) (.cons (.c (.int (1))) (.cons (.c (.int (11))) (.cons (.c (.int (36))) .nil))))))) (.cons (.fz 3) (.cons (.fz 1) (.cons (.fz 6) (.cons (.fz 7) (.cons (.fz 8) (.cons (.asg (.n 9) (.lst (.cons (.v 3) (.cons (.c (.str "")) (.cons (.v 1) (.cons (.v 6) (.cons (.bin .Add (.v 6) (.c (.str "a"))) (.cons (.bin .Add (.sl (.v 6) .no (.so (.c (.int (7))))) (.c (.str "\n"))) (.cons (.v 7) (.cons (.v 8) (.cons (.bin .Add (.v 8) (.sl (.v 1) (.so (.c (.int (1)))) .no)) (.cons (.bin .Add (.v 1) (.c (.str "\n"))) .nil)))))))))))) (.cons (.ret (.bin .Add (.v 9) (.lst (.cons (.bin .Add (.call 8 (.cons (.v 0) (.cons (.c (.int (1))) (.cons (.c (.int (12))) .nil)))) (.sl (.v 1) (.so (.c (.int (1)))) .no)) (.cons (.bin .Add (.bin .Add (.sl (.v 1) .no (.so (.c (.int (1))))) (.call 8 (.cons (.v 0) (.cons (.c (.int (1))) (.cons (.c (.int (14))) .nil))))) (.sl (.v 1) (.so (.c (.int (1)))) (.so (.c (.int (2)))))) .nil))))) .nil))))))))))
def b_q_words_L2 : Sms := (.cons (.asg (.n 6) (.bin .Add (.v 6) (.ix (.v 2) (.call 3 (.cons (.v 0) (.cons (.c (.int (1))) (.cons (.v 4) (.cons (.c (.int (36))) .nil)))))))) .nil)
def b_q_words_3 : Sms := (.cons (.fz 1) (.cons (.asg (.n 6) (.v 1)) (.cons (.frs (.n 4) (.r1 (.bin .Sub (.c (.int (8))) (.bi .len (.cons (.v 1) .nil)))) b_q_words_L2) b_q_words_1)))
def b_q_words_4 : Sms := (.cons (.ifs (.and (.cmp .Gt (.bi .len (.cons (.v 3) .nil)) (.c (.int (0)))) (.cmp .Eq (.call 3 (.cons (.v 0) (.cons (.c (.int (0))) (.cons (.c (.int (11))) (.cons (.c (.int (3))) .nil))))) (.c (.int (0))))) (.cons (.asg (.n 5) (.call 3 (.cons (.v 0) (.cons (.c (.int (0))) (.cons (.c (.int (12))) (.cons (.bi .len (.cons (.v 3) .nil)) .nil)))))) (.cons (.asg (.n 3) (.bin .Add (.bin .Add (.sl (.v 3) .no (.so (.v 5))) (.call 8 (.cons (.v 0) (.cons (.c (.int (0))) (.cons (.c (.int (13))) .nil))))) (.sl (.v 3) (.so (.bin .Add (.v 5) (.c (.int (1))))) .no))) .nil)) .nil) b_q_words_3)
def b_q_words_L5 : Sms := (.cons (.asg (.n 3) (.bin .Add (.v 3) (.ix (.v 2) (.call 3 (.cons (.v 0) (.cons (.c (.int (0))) (.cons (.bin .Add (.v 4) (.c (.int (1)))) (.cons (.c (.int (36))) .nil)))))))) .nil)
def b_q_words : Sms := (.cons (.asg (.n 2) (.c (.str "abcdefghijklmnopqrstuvwxyz0123456789"))) (.cons (.asg (.n 3) (.c (.str ""))) (.cons (.frs (.n 4) (.r1 (.call 3 (.cons (.v 0) (.cons (.c (.int (0))) (.cons (.c (.int (0))) (.cons (.c (.int (10))) .nil)))))) b_q_words_L5) b_q_words_4)))
def e_q_words : Ent := { x := "_law_words", q := "_law_words", st := (topS 21), N := N_q_words, ps := ps_q_words, body := b_q_words }
theorem c_q_words : EntOk mo e_q_words := ⟨fun _ => scopeB_ok (by decide +kernel), fun _ => ⟨60, by kernel_rfl⟩⟩
def b_q_value_1 : Sms := (.cons (.retV 3) .nil)
def b_q_value_2 : Sms := (.cons (.ifs (.cmp .Eq (.v 4) (.c (.int (1)))) (.cons (.ret (.bin .Sub (.c (.int (0))) (.v 3))) .nil) .nil) b_q_value_1)
def b_q_value : Sms := (.cons (.asg (.n 3) (.call 3 (.cons (.v 0) (.cons (.v 1) (.cons (.v 2) (.cons (.c (.int (1000))) .nil)))))) (.cons (.asg (.n 4) (.call 3 (.cons (.v 0) (.cons (.v 1) (.cons (.bin .Add (.v 2) (.c (.int (1)))) (.cons (.c (.int (4))) .nil)))))) (.cons (.ifs (.cmp .Eq (.v 4) (.c (.int (0)))) (.cons (.ret (.bin .Sub (.bin .Pow (.c (.int (10))) (.c (.int (18)))) (.v 3))) .nil) .nil) b_q_value_2)))
def e_q_value : Ent := { x := "_law_value", q := "_law_value", st := (topS 22), N := N_q_value, ps := ps_q_value, body := b_q_value }
theorem c_q_value : EntOk mo e_q_value := ⟨fun _ => scopeB_ok (by decide +kernel), fun _ => ⟨60, by kernel_rfl⟩⟩
def b_q_asked_1 : Sms := (.cons (.ret (.lst (.cons (.c (.str "told")) (.cons (.call 1 (.cons (.v 0) (.cons (.v 1) .nil))) .nil)))) .nil)
def b_q_asked_2 : Sms := (.cons (.ret (.lst (.cons (.c (.str "another")) .nil))) .nil)
def b_q_asked_3 : Sms := (.cons (.ifs (.exi 3 [0, 1, 2, 3, 4, 5, 6] [4]) (.cons (.ret (.lst (.cons (.c (.str "missing")) (.cons (.exf 3 [0, 1, 2, 3, 4, 5, 6] "gauge") .nil)))) .nil) .nil) b_q_asked_2)
def b_q_asked_4 : Sms := (.cons (.ifs (.or (.exi 3 [0, 1, 2, 3, 4, 5, 6] [5]) (.or (.exi 3 [0, 1, 2, 3, 4, 5, 6] [3]) (.not (.exi 3 [0, 1, 2, 3, 4, 5, 6] [0, 1, 2, 3, 4, 5, 6])))) (.cons (.ret (.lst (.cons (.c (.str "another")) .nil))) .nil) .nil) b_q_asked_3)
def b_q_asked_X5 : Sms := (.cons (.ifs (.or (.exi 3 [0, 1, 2, 3, 4, 5, 6] [1]) (.or (.exi 3 [0, 1, 2, 3, 4, 5, 6] [6]) (.exi 3 [0, 1, 2, 3, 4, 5, 6] [2]))) (.cons (.ret (.lst (.cons (.c (.str "another")) .nil))) .nil) .nil) b_q_asked_4)
def b_q_asked : Sms := (.cons (.tre (.cons (.ifs (.v 2) (.cons (.ret (.lstd 1 (.cons (.c (.str "told")) (.cons (.call 2 (.cons (.v 1) (.cons (.v 0) .nil))) .nil)))) .nil) .nil) b_q_asked_1) [0, 1, 2, 3, 4, 5, 6] 3 b_q_asked_X5) .nil)
def e_q_asked : Ent := { x := "_law_asked", q := "_law_asked", st := (topS 23), N := N_q_asked, ps := ps_q_asked, body := b_q_asked }
theorem c_q_asked : EntOk mo e_q_asked := ⟨fun _ => scopeB_ok (by decide +kernel), fun _ => ⟨60, by kernel_rfl⟩⟩
def b_q_value_fits_1 : Sms := (.cons (.ret (.and (.cmp .Eq (.bi .len (.cons (.v 2) .nil)) (.c (.int (2)))) (.and (.cmp .Eq (.ix (.v 2) (.c (.int (0)))) (.c (.str "told"))) (.and (.call 5 (.cons (.ix (.v 2) (.c (.int (1)))) .nil)) (.cmp .Eq (.ix (.v 2) (.c (.int (1)))) (.ix (.v 1) (.v 0))))))) .nil)
def b_q_value_fits_2 : Sms := (.cons (.ifs (.cmp .NotIn (.v 0) (.v 1)) (.cons (.fz 0) (.cons (.ret (.cmp .Eq (.v 2) (.lst (.cons (.c (.str "missing")) (.cons (.v 0) .nil))))) .nil)) .nil) b_q_value_fits_1)
def b_q_value_fits : Sms := (.cons (.asg (.n 2) (.call 11 (.cons (.v 0) (.cons (.v 1) (.cons (.c (.bl false)) .nil))))) (.cons (.ifs (.not (.isi .str (.v 0))) (.cons (.ret (.and (.cmp .Eq (.bi .len (.cons (.v 2) .nil)) (.c (.int (2)))) (.and (.cmp .Eq (.ix (.v 2) (.c (.int (0)))) (.c (.str "told"))) (.and (.call 5 (.cons (.ix (.v 2) (.c (.int (1)))) .nil)) (.cmp .Eq (.ix (.v 2) (.c (.int (1)))) (.v 0)))))) .nil) .nil) b_q_value_fits_2))
def e_q_value_fits : Ent := { x := "_law_value_fits", q := "_law_value_fits", st := (topS 24), N := N_q_value_fits, ps := ps_q_value_fits, body := b_q_value_fits }
theorem c_q_value_fits : EntOk mo e_q_value_fits := ⟨fun _ => scopeB_ok (by decide +kernel), fun _ => ⟨60, by kernel_rfl⟩⟩
def b_q_is_part_1 : Sms := (.cons (.ret (.c (.bl true))) .nil)
def b_q_is_part_L2 : Sms := (.cons (.ifs (.or (.not (.call 5 (.cons (.ix (.v 0) (.v 4)) .nil))) (.cmp .NotEq (.ix (.v 0) (.v 4)) (.ix (.v 2) (.v 4)))) (.cons (.ret (.c (.bl false))) .nil) .nil) .nil)
def b_q_is_part_3 : Sms := (.cons (.fz 3) (.cons (.frs (.n 4) (.over (.v 3)) b_q_is_part_L2) b_q_is_part_1))
def b_q_is_part : Sms := (.cons (.asg (.n 3) (.bi .sorted (.cons (.v 1) .nil))) (.cons (.ifs (.or (.not (.isi .dict (.v 0))) (.cmp .NotEq (.bi .list (.cons (.v 0) .nil)) (.v 3))) (.cons (.ret (.c (.bl false))) .nil) .nil) b_q_is_part_3))
def e_q_is_part : Ent := { x := "_law_is_part", q := "_law_is_part", st := (topS 25), N := N_q_is_part, ps := ps_q_is_part, body := b_q_is_part }
theorem c_q_is_part : EntOk mo e_q_is_part := ⟨fun _ => scopeB_ok (by decide +kernel), fun _ => ⟨60, by kernel_rfl⟩⟩
def b_q_part_fits_1 : Sms := (.cons (.mov 5 3 (1)) (.cons (.setx 5 (.c (.str "a")) (.bin .Pow (.c (.int (10))) (.c (.int (18))))) (.cons (.asg (.n 6) (.call 11 (.cons (.bi .tuple (.cons (.v 0) .nil)) (.cons (.v 1) (.cons (.c (.bl true)) .nil))))) (.cons (.ret (.and (.cmp .Eq (.bi .len (.cons (.v 6) .nil)) (.c (.int (2)))) (.and (.cmp .Eq (.ix (.v 6) (.c (.int (0)))) (.c (.str "told"))) (.call 13 (.cons (.ix (.v 6) (.c (.int (1)))) (.cons (.v 0) (.cons (.v 1) .nil))))))) .nil))))
def b_q_part_fits_2 : Sms := (.cons (.ifs (.or (.cmp .NotEq (.bi .len (.cons (.v 3) .nil)) (.c (.int (2)))) (.or (.cmp .NotEq (.ix (.v 3) (.c (.int (0)))) (.c (.str "told"))) (.not (.call 13 (.cons (.ix (.v 3) (.c (.int (1)))) (.cons (.v 0) (.cons (.v 1) .nil))))))) (.cons (.ret (.c (.bl false))) .nil) .nil) b_q_part_fits_1)
def b_q_part_fits_L3 : Sms := (.cons (.ifs (.cmp .NotIn (.v 4) (.v 1)) (.cons (.fz 4) (.cons (.fz 4) (.cons (.ret (.and (.cmp .Eq (.v 3) (.lst (.cons (.c (.str "missing")) (.cons (.v 4) .nil)))) (.cmp .Eq (.call 11 (.cons (.bi .tuple (.cons (.v 0) .nil)) (.cons (.v 1) (.cons (.c (.bl true)) .nil)))) (.lst (.cons (.c (.str "missing")) (.cons (.v 4) .nil)))))) .nil))) .nil) .nil)
def b_q_part_fits_4 : Sms := (.cons (.frs (.n 4) (.over (.bi .sorted (.cons (.v 0) .nil))) b_q_part_fits_L3) b_q_part_fits_2)
def b_q_part_fits : Sms := (.cons (.asg (.n 2) (.bi .list (.cons (.v 0) .nil))) (.cons (.asg (.n 3) (.call 11 (.cons (.v 2) (.cons (.v 1) (.cons (.c (.bl true)) .nil))))) (.cons (.ifs (.cmp .NotEq (.v 2) (.v 0)) (.cons (.ret (.c (.bl false))) .nil) .nil) b_q_part_fits_4)))
def e_q_part_fits : Ent := { x := "_law_part_fits", q := "_law_part_fits", st := (topS 26), N := N_q_part_fits, ps := ps_q_part_fits, body := b_q_part_fits }
theorem c_q_part_fits : EntOk mo e_q_part_fits := ⟨fun _ => scopeB_ok (by decide +kernel), fun _ => ⟨60, by kernel_rfl⟩⟩
def b_law_1 : Sms := (.cons (.ret (.c (.bl true))) .nil)
def b_law_L2 : Sms := (.cons (.ifs (.not (.call 12 (.cons (.v 9) (.cons (.v 5) .nil)))) (.cons (.ret (.c (.bl false))) .nil) .nil) .nil)
def b_law_3 : Sms := (.cons (.fz 1) (.cons (.frs (.n 9) (.over (.v 1)) b_law_L2) b_law_1))
def b_law_4 : Sms := (.cons (.ifs (.or (.not (.call 13 (.cons (.v 11) (.cons (.v 8) (.cons (.v 12) .nil))))) (.not (.call 14 (.cons (.v 7) (.cons (.v 5) .nil))))) (.cons (.ret (.c (.bl false))) .nil) .nil) b_law_3)
def b_law_L5 : Sms := (.cons (.setx 5 (.v 9) (.bin .Sub (.bin .Add (.c (.int (1))) (.call 3 (.cons (.v 0) (.cons (.c (.int (9))) (.cons (.c (.int (0))) (.cons (.c (.int (9))) .nil)))))) (.dgt (.v 5) (.v 9) (.c (.int (0)))))) .nil)
def b_law_6 : Sms := (.cons (.fz 1) (.cons (.frs (.n 9) (.over (.v 1)) b_law_L5) b_law_4))
def b_law_L7 : Sms := (.cons (.setx 12 (.v 9) (.ix (.v 5) (.v 9))) .nil)
def b_law_8 : Sms := (.cons (.asg (.n 11) (.call 2 (.cons (.v 5) (.cons (.v 8) .nil)))) (.cons (.asg (.n 12) (.dnw false)) (.cons (.fz 8) (.cons (.frs (.n 9) (.over (.v 8)) b_law_L7) b_law_6))))
def b_law_9 : Sms := (.cons (.ifs (.cmp .NotEq (.dit (.v 5)) (.v 6)) (.cons (.ret (.c (.bl false))) .nil) .nil) b_law_8)
def b_law_10 : Sms := (.cons (.ifs (.or (.not (.call 14 (.cons (.v 7) (.cons (.v 5) .nil)))) (.or (.not (.call 14 (.cons (.v 8) (.cons (.v 5) .nil)))) (.not (.call 14 (.cons (.lst .nil) (.cons (.v 5) .nil)))))) (.cons (.ret (.c (.bl false))) .nil) .nil) b_law_9)
def b_law_L11 : Sms := (.cons (.ifs (.not (.call 12 (.cons (.v 10) (.cons (.v 5) .nil)))) (.cons (.ret (.c (.bl false))) .nil) .nil) .nil)
def b_law_12 : Sms := (.cons (.asg (.n 6) (.dit (.v 5))) (.cons (.asg (.n 7) (.lc (.n 2) (.over (.call 6 (.cons (.v 0) (.cons (.c (.int (6))) (.cons (.c (.int (9))) .nil))))) (.cons (.cmp .Eq (.call 3 (.cons (.v 0) (.cons (.c (.int (7))) (.cons (.v 2) (.cons (.c (.int (2))) .nil))))) (.c (.int (0)))) .nil) (.ix (.v 1) (.v 2)) [2])) (.cons (.fz 9) (.cons (.asg (.n 8) (.lc (.n 9) (.over (.v 7)) (.cons (.cmp .In (.v 9) (.v 5)) .nil) (.v 9) [9])) (.cons (.frs (.n 10) (.over (.bin .Add (.v 1) (.lst (.cons (.c (.int (0))) (.cons (.bin .Sub (.c (.int (0))) (.c (.int (7)))) (.cons (.bin .Pow (.c (.int (10))) (.c (.int (18)))) (.cons (.call 10 (.cons (.v 0) (.cons (.c (.int (8))) (.cons (.c (.int (0))) .nil)))) .nil))))))) b_law_L11) b_law_10)))))
def b_law_L13 : Sms := (.cons (.ifs (.cmp .Gt (.call 3 (.cons (.v 0) (.cons (.c (.int (4))) (.cons (.v 2) (.cons (.c (.int (3))) .nil))))) (.c (.int (0)))) (.cons (.setx 5 (.ix (.v 1) (.v 2)) (.call 10 (.cons (.v 0) (.cons (.c (.int (5))) (.cons (.bin .Mult (.c (.int (2))) (.v 2)) .nil))))) .nil) .nil) .nil)
def b_law_14 : Sms := (.cons (.asg (.n 5) (.dnw false)) (.cons (.frs (.n 2) (.over (.call 6 (.cons (.v 0) (.cons (.c (.int (3))) (.cons (.c (.int (9))) .nil))))) b_law_L13) b_law_12))
def b_law_L15 : Sms := (.cons (.asg (.n 4) (.call 0 (.cons (.v 3) .nil))) (.cons (.ifs (.or (.not (.isi .bool (.v 4))) (.cmp .NotEq (.v 4) (.call 7 (.cons (.v 3) .nil)))) (.cons (.ret (.c (.bl false))) .nil) .nil) .nil))
def b_law : Sms := (.cons (.asg (.n 1) (.lc (.n 2) (.r1 (.c (.int (9)))) .nil (.call 4 (.cons (.v 0) (.cons (.c (.int (2))) (.cons (.bin .Mult (.c (.int (4))) (.v 2)) (.cons (.v 2) .nil))))) [2])) (.cons (.frs (.n 3) (.over (.call 9 (.cons (.v 0) (.cons (.ix (.v 1) (.c (.int (0)))) .nil)))) b_law_L15) b_law_14))
def e_law : Ent := { x := "law", q := "law", st := (topS 27), N := N_law, ps := ps_law, body := b_law }
theorem c_law : EntOk mo e_law := ⟨fun _ => scopeB_ok (by decide +kernel), fun _ => ⟨60, by kernel_rfl⟩⟩
def e_E_InvalidGauge : Ent := { x := "__init__", q := "InvalidGauge.__init__", st := (inClass (topS 2) 0), N := N_E_InvalidGauge, ps := ps_E_InvalidGauge, body := .nil, kd := .err 1 [("gauge", 1)] }
theorem c_E_InvalidGauge : EntOk mo e_E_InvalidGauge := ⟨fun h => absurd rfl (h _ _), fun h => absurd rfl (h _ _)⟩
def e_E_OtherGauges : Ent := { x := "__init__", q := "OtherGauges.__init__", st := (inClass (topS 3) 0), N := N_E_OtherGauges, ps := ps_E_OtherGauges, body := .nil, kd := .err 2 [("gauge", 1)] }
theorem c_E_OtherGauges : EntOk mo e_E_OtherGauges := ⟨fun h => absurd rfl (h _ _), fun h => absurd rfl (h _ _)⟩
def e_E_SharedGauge : Ent := { x := "__init__", q := "SharedGauge.__init__", st := (inClass (topS 4) 0), N := N_E_SharedGauge, ps := ps_E_SharedGauge, body := .nil, kd := .err 3 [("gauge", 1)] }
theorem c_E_SharedGauge : EntOk mo e_E_SharedGauge := ⟨fun h => absurd rfl (h _ _), fun h => absurd rfl (h _ _)⟩
def e_E_MissingGauge : Ent := { x := "__init__", q := "MissingGauge.__init__", st := (inClass (topS 5) 0), N := N_E_MissingGauge, ps := ps_E_MissingGauge, body := .nil, kd := .err 4 [("gauge", 1)] }
theorem c_E_MissingGauge : EntOk mo e_E_MissingGauge := ⟨fun h => absurd rfl (h _ _), fun h => absurd rfl (h _ _)⟩
def e_E_OutOfRange : Ent := { x := "__init__", q := "OutOfRange.__init__", st := (inClass (topS 6) 0), N := N_E_OutOfRange, ps := ps_E_OutOfRange, body := .nil, kd := .err 5 [("gauge", 1)] }
theorem c_E_OutOfRange : EntOk mo e_E_OutOfRange := ⟨fun h => absurd rfl (h _ _), fun h => absurd rfl (h _ _)⟩
def e_E_InvalidSign : Ent := { x := "__init__", q := "InvalidSign.__init__", st := (inClass (topS 7) 0), N := N_E_InvalidSign, ps := ps_E_InvalidSign, body := .nil, kd := .err 6 [("gauge", 1)] }
theorem c_E_InvalidSign : EntOk mo e_E_InvalidSign := ⟨fun h => absurd rfl (h _ _), fun h => absurd rfl (h _ _)⟩
def tab : List Ent := [e_is_gauge, e_value_of, e_part_of, e_q_draw, e_q_name, e_q_is_integer, e_q_order, e_q_good, e_q_odd, e_q_words, e_q_value, e_q_asked, e_q_value_fits, e_q_is_part, e_q_part_fits, e_law, e_E_InvalidGauge, e_E_OtherGauges, e_E_SharedGauge, e_E_MissingGauge, e_E_OutOfRange, e_E_InvalidSign]
abbrev T : List Df := tab.map Ent.df
def mu : Nat → Str → Option Nat := fun c m => none
theorem r_is_gauge (n : Nat) (as : List Vl) : callD T mu (n + 1) 0 as = runD ⟨callD T mu n, mu⟩ (.fn 1 2 b_is_gauge) as := rfl
theorem r_value_of (n : Nat) (as : List Vl) : callD T mu (n + 1) 1 as = runD ⟨callD T mu n, mu⟩ (.fn 2 2 b_value_of) as := rfl
theorem r_part_of (n : Nat) (as : List Vl) : callD T mu (n + 1) 2 as = runD ⟨callD T mu n, mu⟩ (.fn 2 4 b_part_of) as := rfl
theorem r_q_draw (n : Nat) (as : List Vl) : callD T mu (n + 1) 3 as = runD ⟨callD T mu n, mu⟩ (.fn 4 8 b_q_draw) as := rfl
theorem r_q_name (n : Nat) (as : List Vl) : callD T mu (n + 1) 4 as = runD ⟨callD T mu n, mu⟩ (.fn 4 9 b_q_name) as := rfl
theorem r_q_is_integer (n : Nat) (as : List Vl) : callD T mu (n + 1) 5 as = runD ⟨callD T mu n, mu⟩ (.fn 1 1 b_q_is_integer) as := rfl
theorem r_q_order (n : Nat) (as : List Vl) : callD T mu (n + 1) 6 as = runD ⟨callD T mu n, mu⟩ (.fn 3 7 b_q_order) as := rfl
theorem r_q_good (n : Nat) (as : List Vl) : callD T mu (n + 1) 7 as = runD ⟨callD T mu n, mu⟩ (.fn 1 3 b_q_good) as := rfl
theorem r_q_odd (n : Nat) (as : List Vl) : callD T mu (n + 1) 8 as = runD ⟨callD T mu n, mu⟩ (.fn 3 4 b_q_odd) as := rfl
theorem r_q_words (n : Nat) (as : List Vl) : callD T mu (n + 1) 9 as = runD ⟨callD T mu n, mu⟩ (.fn 2 10 b_q_words) as := rfl
theorem r_q_value (n : Nat) (as : List Vl) : callD T mu (n + 1) 10 as = runD ⟨callD T mu n, mu⟩ (.fn 3 5 b_q_value) as := rfl
theorem r_q_asked (n : Nat) (as : List Vl) : callD T mu (n + 1) 11 as = runD ⟨callD T mu n, mu⟩ (.fn 3 4 b_q_asked) as := rfl
theorem r_q_value_fits (n : Nat) (as : List Vl) : callD T mu (n + 1) 12 as = runD ⟨callD T mu n, mu⟩ (.fn 2 3 b_q_value_fits) as := rfl
theorem r_q_is_part (n : Nat) (as : List Vl) : callD T mu (n + 1) 13 as = runD ⟨callD T mu n, mu⟩ (.fn 3 5 b_q_is_part) as := rfl
theorem r_q_part_fits (n : Nat) (as : List Vl) : callD T mu (n + 1) 14 as = runD ⟨callD T mu n, mu⟩ (.fn 2 7 b_q_part_fits) as := rfl
theorem r_law (n : Nat) (as : List Vl) : callD T mu (n + 1) 15 as = runD ⟨callD T mu n, mu⟩ (.fn 1 13 b_law) as := rfl
theorem r_E_InvalidGauge (n : Nat) (as : List Vl) : callD T mu (n + 1) 16 as = runD ⟨callD T mu n, mu⟩ (.err 1 2 [("gauge", 1)]) as := rfl
theorem r_E_OtherGauges (n : Nat) (as : List Vl) : callD T mu (n + 1) 17 as = runD ⟨callD T mu n, mu⟩ (.err 2 2 [("gauge", 1)]) as := rfl
theorem r_E_SharedGauge (n : Nat) (as : List Vl) : callD T mu (n + 1) 18 as = runD ⟨callD T mu n, mu⟩ (.err 3 2 [("gauge", 1)]) as := rfl
theorem r_E_MissingGauge (n : Nat) (as : List Vl) : callD T mu (n + 1) 19 as = runD ⟨callD T mu n, mu⟩ (.err 4 2 [("gauge", 1)]) as := rfl
theorem r_E_OutOfRange (n : Nat) (as : List Vl) : callD T mu (n + 1) 20 as = runD ⟨callD T mu n, mu⟩ (.err 5 2 [("gauge", 1)]) as := rfl
theorem r_E_InvalidSign (n : Nat) (as : List Vl) : callD T mu (n + 1) 21 as = runD ⟨callD T mu n, mu⟩ (.err 6 2 [("gauge", 1)]) as := rfl
end K03
open EG
local macro_rules | `(tactic| walk_at "vc") => `(tactic| try simp only [↓z_some, ↓z_ok, ↓z_er, ↓z_ff, ↓z_tt, ↓z_ntt, ↓z_nff, ↓z_set0, ↓z_setS, ↓z_get0, ↓z_getS, ↓z_v, ↓z_c, ↓z_bin, ↓z_neg, ↓z_not, ↓z_and, ↓z_or, ↓z_cmp, ↓z_chn, ↓z_ix, ↓z_sl, ↓z_tup, ↓z_lst, ↓z_call, ↓z_bi, ↓z_isi, ↓z_lrg, ↓z_lc, ↓z_lcd, ↓z_lcFn0, ↓z_lstd, ↓z_dnwT, ↓z_dnwK, ↓z_knN, ↓z_knC, ↓z_kn1, ↓z_kn2, ↓z_kn12, ↓z_nu0, ↓z_nuN, ↓z_nuS, ↓z_nuF, ↓z_nuB, ↓z_nuE, ↓z_nuO, ↓z_du0, ↓z_duN, ↓z_duS, ↓z_duF, ↓z_duB, ↓z_duU, ↓z_sl0, ↓z_slS, ↓z_sxL, ↓z_sxD, ↓z_odW, ↓z_spW, ↓z_ixsN, ↓z_ixsC, ↓z_setp, ↓z_ku, ↓z_useU, ↓z_bindUs, ↓z_loF2, ↓z_loB2, ↓z_loU2, ↓z_ltt, ↓z_lft, ↓z_ltf, ↓z_pa2F, ↓z_pa2B, ↓z_pa2U, ↓z_pa3F, ↓z_pa3B, ↓z_pa3U, ↓z_ixD, ↓z_wipe0, ↓z_wipeS, ↓z_lcF0, ↓z_lcF1, ↓z_ife, ↓z_fld, ↓z_argsN, ↓z_argsC, ↓z_keepsN, ↓z_keepsC, ↓z_pno, ↓z_pso, ↓z_asI, ↓z_asB, ↓z_asL, ↓z_add, ↓z_addI, ↓z_addL, ↓z_subI, ↓z_mulI, ↓z_divI, ↓z_modI, ↓z_powI, ↓z_eqI, ↓z_neI, ↓z_eqB, ↓z_neB, ↓z_eqS, ↓z_neS, ↓z_ltI, ↓z_leI, ↓z_gtI, ↓z_geI, ↓z_isN, ↓z_inN, ↓z_len, ↓z_lenWL, ↓z_lenWT, ↓z_lenWS, ↓z_intI, ↓z_maxI, ↓z_minI, ↓z_absI, ↓z_gcdI, ↓z_listSh, ↓z_listBo, ↓z_listT, ↓z_tupleSh, ↓z_tupleBo, ↓z_tupleT, ↓z_ixL, ↓z_ixT, ↓z_ixS, ↓z_keepSh, ↓z_keepFr, ↓z_loS, ↓z_loF, ↓z_loB, ↓z_loU, ↓z_paS, ↓z_paF, ↓z_paB, ↓z_paU, ↓zt_not, ↓zt_and, ↓zt_or, ↓zt_v, ↓zt_c, ↓zt_cmp, ↓zt_chn, ↓zt_ix, ↓zt_call, ↓zt_bi, ↓zt_isi, ↓zt_fld, ↓z_truB, ↓z_truL, ↓z_truI, ↓z_nil, ↓z_seq, ↓z_thenNx, ↓z_thenRt, ↓z_thenBk, ↓z_thenCt, ↓z_thenEr, ↓z_asg, ↓z_exp, ↓z_bindSh, ↓z_bindFr, ↓z_bindBo, ↓z_bindT, ↓z_mapC, ↓z_mapN, ↓z_all0, ↓z_allS, ↓z_ret, ↓z_retV, ↓z_rtSh, ↓z_rtFr, ↓z_ifs, ↓z_frs, ↓z_ownW, ↓z_app, ↓z_setx, ↓z_ins, ↓z_popT, ↓z_brk, ↓z_cnt, ↓z_pas, ↓z_fz, ↓z_fz0s, ↓z_fz0b, ↓z_fz0n, ↓z_fz0f, ↓z_fzS, ↓zl_over, ↓zi_over, ↓zl_r1, ↓zl_r2, ↓zi_r1, ↓zi_r2, ↓zl_enum, ↓zl_rev, ↓z_stS, ↓z_stF, ↓z_stB, ↓z_itLs, ↓z_itTs, ↓z_itLb, ↓z_itTb, ↓z_itLu, ↓z_itLf, ↓z_lowSh, ↓z_seqT, ↓z_seqSh, ↓z_seqBo, ↓z_lowBo, ↓z_useS, ↓z_useF, ↓z_useB, ↓z_useN, ↓z_dS, ↓z_dF, ↓z_dB, ↓z_dU, ↓z_adS, ↓z_adF, ↓z_adB, ↓z_adU, ↓z_at0, ↓z_at1, ↓z_at2, ↓z_at3, ↓z_last, ↓z_isB, ↓z_isiB, ↓z_isiI, ↓z_isiT, ↓z_isiL, ↓z_outR, ↓z_outN, ↓z_outE, ↓z_shdS, ↓z_isc, ↓zt_isc, ↓z_iscO, ↓z_iscI, ↓z_iscT, ↓z_iscL, ↓zt_oeq, ↓z_oeq, ↓z_oad, ↓z_cll, ↓z_dgt, ↓z_lio, ↓z_slxL, ↓z_slxS, ↓z_ixX, ↓z_addX, ↓z_mulX, ↓z_inX, ↓z_niX, ↓z_lenWX, ↓z_itX, ↓z_fnd, ↓z_isStr, ↓z_fndX, ↓z_dit, ↓z_ditB, ↓z_ditF, ↓z_ditS, ↓z_ditU, ↓z_listDB, ↓z_listDS, ↓z_strI, ↓z_strX, ↓z_isiX, ↓z_isiD, ↓z_dcp, ↓z_dcF0, ↓z_isK, ↓z_isKI, ↓z_mov, ↓z_mvW2, ↓z_blS, ↓z_obS, ↓zl_r3, ↓zi_r3, ↓z_tre, ↓z_treN, ↓z_treR, ↓z_treE, ↓z_sutR, ↓z_sutN, ↓z_exf, ↓z_exfW, ↓z_exi, ↓zt_exi, ↓z_exiW, ↓z_noW, ↓z_new, ↓z_sfl, ↓z_rse, ↓z_iniN, ↓z_iniE, ↓z_fldS, ↓z_mth, ↓zt_mth, ↓z_addT, ↓z_sst, ↓z_sst2, ↓z_lc2, ↓z_clF0, ↓z_clF1, ↓z_eI, ↓z_eK, ↓z_cl2, ↓z_rse0, ↓z_cat0, ↓z_catS])
namespace K03
open PySem L2 EG
theorem draw_c (n : Nat) {ns : List Int} {p s z : Int} (hl : ns.length ≤ 63) (hp : 0 ≤ p) (hs : 0 ≤ s) (hs2 : s < 2 ^ 60) (hz : 0 < z) : Dr (callD T mu (n + 1) 3 [.sh (.scr ns), .sh (.int p), .sh (.int s), .sh (.int z)]) z := by
  rw [r_q_draw]
  exact draw_ok hl hp hs hs2 hz
/-! ### signs in texts -/
theorem inS_one (c : Nat) (z : Str) : inS ⟨#[c]⟩ z = decide (c ∈ z.cps.toList) := StrLaws.found_one z c
theorem find_one (c : Nat) (z : Str) : decide (Txt.find z ⟨#[c]⟩ < 0) = !decide (c ∈ z.cps.toList) := by
  rw [← inS_one]
  unfold inS Txt.find
  cases Builtin.Str.occurrences z ⟨#[c]⟩ 0 z.length 1 with
  | nil => simp
  | cons k r => simp
def LT : Str := "abcdefghijklmnopqrstuvwxyz"
def DG : Str := "0123456789"
/-- is it a name? -/
def gauB (w : Str) : Bool := decide (1 ≤ w.length) && decide (w.length ≤ 8) && (match w.cps.toList with | [] => false | c :: _ => decide (c ∈ LT.cps.toList)) && w.cps.toList.all fun c => decide (c ∈ LT.cps.toList ∨ c ∈ DG.cps.toList)
theorem len_list (w : Str) : w.length = w.cps.toList.length := by simp [Str.length]
theorem at_head {w : Str} {c : Nat} {r : List Nat} (e : w.cps.toList = c :: r) : atI w.cps.toList 0 = some c := by rw [e]; exact atI_nat (j := 0) rfl
theorem gauge_c (n : Nat) {w : Str} (hw : w.length ≤ 1000) : Wr (callD T mu (n + 1) 0 [.sh (.str w)]) (fun r => r = .sh (.bl (gauB w))) E0 := by
  rw [r_is_gauge]
  refine run_of rfl ?_
  show Wo (execsD _ b_is_gauge [some (.sh (.str w)), none]) _
  unfold b_is_gauge
  walk_at "vc"
  refine ⟨by omega, if_of (fun h1 => ?_) fun h1 => ?_⟩
  · by_cases h2 : w.length ≤ 8
    · rw [if_neg (by simp; omega)]
      refine ⟨by omega, ?_⟩
      cases e : w.cps.toList with
      | nil => rw [len_list, e] at h1; exact absurd h1 (by simp)
      | cons c r =>
        rw [← e, at_head e]
        walk_at "vc"
        rw [inS_one]
        by_cases h3 : c ∈ LT.cps.toList
        · rw [if_neg (by show ¬ ((!decide (c ∈ LT.cps.toList)) = true); simp [h3])]
          unfold b_is_gauge_1
          walk_at "vc"
          refine ⟨by rw [List.length_map, ← len_list]; omega, zc_to (ys := w.cps.toList.map fun c => D.bl (decide (c ∈ LT.cps.toList ∨ c ∈ DG.cps.toList))) (by simp) (fun i v y e1 e2 => ?_) ?_⟩
          · rw [List.getElem?_map, Option.map_eq_some_iff] at e1 e2
            obtain ⟨d, e1, rfl⟩ := e1
            obtain ⟨d', e2, rfl⟩ := e2
            rw [e1] at e2; cases e2
            walk_at "vc"
            simp only [inS_one]
            by_cases q1 : d ∈ LT.cps.toList
            · rw [if_pos (by show decide (d ∈ LT.cps.toList) = true; simp [q1])]
              simp [q1]
            · rw [if_neg (by show ¬ decide (d ∈ LT.cps.toList) = true; simp [q1])]
              simp only [q1, false_or]
              rfl
          · rw [show (w.cps.toList.map fun c => D.bl (decide (c ∈ LT.cps.toList ∨ c ∈ DG.cps.toList))) = (w.cps.toList.map fun c => decide (c ∈ LT.cps.toList ∨ c ∈ DG.cps.toList)).map D.bl by rw [List.map_map]; rfl, all_bls (ns := w.cps.toList.map fun c => decide (c ∈ LT.cps.toList ∨ c ∈ DG.cps.toList)) rfl]
            walk_at "vc"
            have h1' : 1 ≤ w.length := by omega
            rw [List.all_map]
            show Vl.sh (D.bl (w.cps.toList.all fun c => decide (c ∈ LT.cps.toList ∨ c ∈ DG.cps.toList))) = _
            unfold gauB
            have e2 : (match w.cps.toList with | [] => false | c :: _ => decide (c ∈ LT.cps.toList)) = true := by rw [e]; simp [h3]
            rw [e2]
            simp only [h1', h2, decide_true, Bool.and_self, Bool.true_and]
        · rw [if_pos (by show (!decide (c ∈ LT.cps.toList)) = true; simp [h3])]
          simp [gauB, e, h3]
    · rw [if_pos (by simp; omega)]
      simp [gauB, h2]
  · have : ¬ 1 ≤ w.length := by omega
    simp [gauB, this]
/-- the law's own look at a name -/
theorem good_c (n : Nat) {w : Str} (hw : w.length ≤ 1000) : Wr (callD T mu (n + 1) 7 [.sh (.str w)]) (fun r => r = .sh (.bl (gauB w))) E0 := by
  rw [r_q_good]
  refine run_of rfl ?_
  show Wo (execsD _ b_q_good [some (.sh (.str w)), none, none]) _
  unfold b_q_good
  walk_at "vc"
  have key : ∀ c r, w.cps.toList = c :: r → 1 ≤ w.length → w.length ≤ 8 → c ∈ LT.cps.toList → Wo (execsD ⟨callD T mu n, mu⟩ b_q_good_3 [some (.sh (.str w)), some (.sh (.str LT)), none]) (outW (fun r => r = .sh (.bl (gauB w))) E0) := fun c r e h1 h2 h3 => by
    unfold b_q_good_3
    walk_at "vc"
    have e2 : (match w.cps.toList with | [] => false | c :: _ => decide (c ∈ LT.cps.toList)) = true := by rw [e]; simp [h3]
    have eg : gauB w = w.cps.toList.all fun c => decide (c ∈ LT.cps.toList ∨ c ∈ DG.cps.toList) := by
      unfold gauB
      rw [e2]
      simp only [h1, h2, decide_true, Bool.and_self, Bool.true_and]
    rw [eg]
    rw [show (w.cps.toList.map fun c => Vl.sh (D.str ⟨#[c]⟩)) = (w.cps.toList.map fun c => D.str ⟨#[c]⟩).map Vl.sh by rw [List.map_map]; rfl]
    refine zl_for (xs := w.cps.toList.map fun c => D.str ⟨#[c]⟩) (fun i ε => (∃ y, ε = [some (.sh (.str w)), some (.sh (.str LT)), y]) ∧ ∀ j c, j < i → w.cps.toList[j]? = some c → c ∈ LT.cps.toList ∨ c ∈ DG.cps.toList) ⟨⟨none, rfl⟩, fun j c h => absurd h (Nat.not_lt_zero _)⟩ ?_ ?_
    · rintro i d ε hd ⟨⟨y, rfl⟩, hj⟩
      rw [List.getElem?_map, Option.map_eq_some_iff] at hd
      obtain ⟨x, hx, rfl⟩ := hd
      unfold b_q_good_L2
      walk_at "vc"
      refine ⟨by decide, ?_⟩
      rw [find_one]
      have hap : x ∈ (LT ++ DG).cps.toList ↔ x ∈ LT.cps.toList ∨ x ∈ DG.cps.toList := by
        rw [show (LT ++ DG).cps.toList = LT.cps.toList ++ DG.cps.toList by decide +kernel, List.mem_append]
      by_cases q : x ∈ LT.cps.toList ∨ x ∈ DG.cps.toList
      · rw [if_neg (by show ¬ (!decide (x ∈ (LT ++ DG).cps.toList)) = true; simp only [hap.mpr q, decide_true]; decide)]
        refine ⟨⟨_, rfl⟩, fun j c h e => ?_⟩
        by_cases hji : j = i
        · subst hji; rw [hx] at e; cases e; exact q
        · exact hj j c (by omega) e
      · rw [if_pos (by show (!decide (x ∈ (LT ++ DG).cps.toList)) = true; simp only [mt hap.mp q, decide_false]; decide)]
        have : (w.cps.toList.all fun c => decide (c ∈ LT.cps.toList ∨ c ∈ DG.cps.toList)) = false := by
          rw [List.all_eq_false]
          exact ⟨x, List.mem_of_getElem? hx, by simpa using q⟩
        rw [this]
    · rintro ε ⟨⟨y, rfl⟩, hj⟩
      unfold b_q_good_1
      walk_at "vc"
      have : (w.cps.toList.all fun c => decide (c ∈ LT.cps.toList ∨ c ∈ DG.cps.toList)) = true := by
        rw [List.all_eq_true]
        intro c hc
        obtain ⟨j, hj1, hj2⟩ := List.getElem_of_mem hc
        exact decide_eq_true (hj j c (by rw [List.length_map]; exact hj1) (by rw [List.getElem?_eq_getElem hj1, hj2]))
      rw [this]
  refine ⟨by omega, if_of (fun h1 => ?_) fun h1 => ?_⟩
  · have : ¬ 1 ≤ w.length := by omega
    simp [gauB, this]
  · refine ⟨by omega, if_of (fun h2 => ?_) fun h2 => ?_⟩
    · have : ¬ w.length ≤ 8 := by omega
      simp [gauB, this]
    · refine ⟨by omega, ?_⟩
      cases e : w.cps.toList with
      | nil => rw [len_list, e] at h1; exact absurd h1 (by simp)
      | cons c r =>
        rw [← e, at_head e]
        walk_at "vc"
        rw [find_one]
        by_cases h3 : c ∈ LT.cps.toList
        · rw [if_neg (by show ¬ ((!decide (c ∈ LT.cps.toList)) = true); simp [h3])]
          exact key c r e (by omega) (by omega) h3
        · rw [if_pos (by show (!decide (c ∈ LT.cps.toList)) = true; simp [h3])]
          simp [gauB, e, h3]
end K03
namespace K03
open PySem L2 EG
theorem cps_app (i j : Str) : (i ++ j).cps.toList = i.cps.toList ++ j.cps.toList := Array.toList_append
theorem len_app (i j : Str) : (i ++ j).length = i.length + j.length := by simp [len_list, cps_app]
theorem at_ex {z : Str} {i : Int} (h0 : 0 ≤ i) (h1 : i < z.length) : ∃ c, atI z.cps.toList i = some c ∧ c ∈ z.cps.toList := by
  obtain ⟨j, rfl⟩ := Int.eq_ofNat_of_zero_le h0
  have hj : j < z.cps.toList.length := by rw [← len_list]; omega
  exact ⟨_, atI_nat (List.getElem?_eq_getElem hj), List.getElem_mem _⟩
theorem repS_mem (x : Str) : ∀ n, ∀ c ∈ (repS x n).cps.toList, c ∈ x.cps.toList
  | 0, c, h => by cases h
  | n + 1, c, h => by
    rw [repS_succ, Array.toList_append, List.mem_append] at h
    exact h.elim id (repS_mem x n c)
theorem str_dig : ∀ k : Fin 9, (Str.ofString (toString ((k.val : Nat) : Int))).cps.toList = [48 + k.val] := by decide +kernel
theorem LT_ge : ∀ c ∈ LT.cps.toList, 97 ≤ c ∧ c ≤ 122 := by decide +kernel
/-- the k-th name -/
structure Nm (k : Nat) (w : Str) : Prop where
  ex : ∃ A B : List Nat, w.cps.toList = A ++ (48 + k) :: B ∧ (∀ c ∈ A, 97 ≤ c ∧ c ≤ 122) ∧ (∀ c ∈ B, 97 ≤ c ∧ c ≤ 122) ∧ 1 ≤ A.length ∧ A.length ≤ 4 ∧ B.length ≤ 3
theorem Nm.len {k : Nat} {w : Str} (h : Nm k w) : 2 ≤ w.length ∧ w.length ≤ 8 := by
  obtain ⟨A, B, e, _, _, h1, h2, h3⟩ := h.ex
  rw [len_list, e]; simp; omega
theorem Nm.ok {k : Nat} {w : Str} (h : Nm k w) (hk : k < 9) : PyData.strOk w = true := by
  obtain ⟨A, B, e, a1, a2, _⟩ := h.ex
  unfold PyData.strOk
  rw [← Array.all_toList, e, List.all_eq_true]
  intro c hc
  rcases List.mem_append.mp hc with h | h
  · have := a1 c h; simp; omega
  · rcases List.mem_cons.mp h with rfl | h
    · simp; omega
    · have := a2 c h; simp; omega
theorem Nm.inj {j k : Nat} {w : Str} (h : Nm j w) (h' : Nm k w) (hj : j < 9) : j = k := by
  obtain ⟨A, B, e, a1, a2, _⟩ := h.ex
  obtain ⟨A', B', e', b1, b2, _⟩ := h'.ex
  have hm : 48 + j ∈ w.cps.toList := by rw [e]; simp
  rw [e'] at hm
  rcases List.mem_append.mp hm with h | h
  · have := b1 _ h; omega
  · rcases List.mem_cons.mp h with h | h
    · omega
    · have := b2 _ h; omega
theorem Nm.mk' {k : Nat} {a b c : Str} (hk : k < 9) (ha : a.length = 1) (h1 : ∀ x ∈ a.cps.toList, 97 ≤ x ∧ x ≤ 122) (h2 : ∀ x ∈ b.cps.toList, 97 ≤ x ∧ x ≤ 122) (h3 : ∀ x ∈ c.cps.toList, 97 ≤ x ∧ x ≤ 122) (l2 : b.length ≤ 3) (l3 : c.length ≤ 3) : Nm k (a ++ b ++ Str.ofString (toString (k : Int)) ++ c) := by
  refine ⟨a.cps.toList ++ b.cps.toList, c.cps.toList, ?_, ?_, h3, ?_, ?_, ?_⟩
  · rw [cps_app, cps_app, cps_app, str_dig ⟨k, hk⟩]; simp
  · intro x hx
    rcases List.mem_append.mp hx with h | h
    · exact h1 x h
    · exact h2 x h
  · rw [List.length_append, ← len_list, ← len_list]; omega
  · rw [List.length_append, ← len_list, ← len_list]; omega
  · rw [← len_list]; exact l3
theorem one_len (c : Nat) : (⟨#[c]⟩ : Str).length = 1 := rfl
theorem log_small {k : Nat} (hk : k < 9) : (k : Int).natAbs.log2 < 1900 := by
  have : ∀ k : Fin 9, ((k.val : Nat) : Int).natAbs.log2 < 1900 := by decide +kernel
  exact this ⟨k, hk⟩
theorem name_c (n : Nat) {ns : List Int} {p s : Int} {k : Nat} (hl : ns.length ≤ 63) (hp : 0 ≤ p) (hs : 0 ≤ s) (hs2 : s < 2 ^ 40) (hk : k < 9) : Wr (callD T mu (n + 2) 4 [.sh (.scr ns), .sh (.int p), .sh (.int s), .sh (.int k)]) (fun r => ∃ w, r = .sh (.str w) ∧ Nm k w) E0 := by
  rw [r_q_name]
  refine run_of rfl ?_
  show Wo (execsD _ b_q_name [some (.sh (.scr ns)), some (.sh (.int p)), some (.sh (.int s)), some (.sh (.int k)), none, none, none, none, none]) _
  unfold b_q_name
  walk_at "vc"
  refine (draw_c n hl hp (by decide) (by decide) (by decide)).to ?_
  rintro r ⟨same, rfl, _, _⟩
  walk_at "vc"
  refine (draw_c n hl hp (by omega) (by omega) (by decide)).to ?_
  rintro r ⟨fst, rfl, f1, f2⟩
  walk_at "vc"
  refine (draw_c n hl hp (by omega) (by omega) (by decide)).to ?_
  rintro r ⟨fr, rfl, g1, g2⟩
  walk_at "vc"
  refine (draw_c n hl hp (by omega) (by omega) (by decide)).to ?_
  rintro r ⟨bk, rfl, b1, b2⟩
  walk_at "vc"
  have hdl : (Str.ofString (toString (k : Int))).length = 1 := by rw [len_list, str_dig ⟨k, hk⟩]; rfl
  have fin : ∀ (c d e : Nat), (97 ≤ c ∧ c ≤ 122) → (97 ≤ d ∧ d ≤ 122) → (97 ≤ e ∧ e ≤ 122) → Nm k ((⟨#[c]⟩ : Str) ++ repS ⟨#[d]⟩ fr.toNat ++ Str.ofString (toString (k : Int)) ++ repS ⟨#[e]⟩ bk.toNat) := fun c d e hc hd he =>
    Nm.mk' hk rfl (fun x hx => by simp at hx; omega) (fun x hx => by have := repS_mem _ _ x hx; simp at this; omega) (fun x hx => by have := repS_mem _ _ x hx; simp at this; omega)
      (by rw [repS_len, one_len]; omega) (by rw [repS_len, one_len]; omega)
  have sz : ∀ (c d e : Nat), ((⟨#[c]⟩ : Str) ++ repS ⟨#[d]⟩ fr.toNat).length ≤ 10 ∧ (repS ⟨#[e]⟩ bk.toNat).length ≤ 4 := fun c d e => by
    rw [len_app, repS_len, repS_len]; simp only [one_len]; omega
  have hq : (Str.ofString "q") = ⟨#[113]⟩ := by decide +kernel
  refine if_of (fun h0 => ?_) fun h0 => ?_
  · rw [show atI (Str.ofString "abcdefghijklmnopqrstuvwxyz").cps.toList 7 = some 104 by decide +kernel, hq]
    walk_at "vc"
    obtain ⟨z1, z2⟩ := sz 104 113 113
    refine ⟨by decide +kernel, ⟨by omega, by omega, by decide⟩, ?_, log_small hk, ?_, ⟨by omega, by omega, by decide⟩, ?_, _, rfl, fin 104 113 113 (by decide) (by decide) (by decide)⟩
    · rw [len_app] at z1; omega
    · rw [hdl]; omega
    · rw [len_app, hdl]; omega
  · unfold b_q_name_1
    walk_at "vc"
    obtain ⟨c, e1, m1⟩ := at_ex (z := LT) f1 (by rw [show LT.length = 26 by decide +kernel]; omega)
    obtain ⟨d, e2, m2⟩ := at_ex (z := LT) (i := 25 - fst) (by omega) (by rw [show LT.length = 26 by decide +kernel]; omega)
    rw [show (Str.ofString "abcdefghijklmnopqrstuvwxyz") = LT from rfl, e1, e2]
    walk_at "vc"
    obtain ⟨z1, z2⟩ := sz c d c
    refine ⟨by decide +kernel, by decide +kernel, ⟨by omega, by omega, by rw [one_len]; omega⟩, ?_, log_small hk, ?_, by decide +kernel, ⟨by omega, by omega, by rw [one_len]; omega⟩, ?_, _, rfl, fin c d c (LT_ge _ m1) (LT_ge _ m2) (LT_ge _ m1)⟩
    · rw [len_app] at z1; omega
    · rw [hdl]; omega
    · rw [len_app, hdl]; omega
/-- a sign that is none of a name's -/
theorem odd_c (n : Nat) {ns : List Int} {p s : Int} (hl : ns.length ≤ 63) (hp : 0 ≤ p) (hs : 0 ≤ s) (hs2 : s < 2 ^ 40) : Wr (callD T mu (n + 2) 8 [.sh (.scr ns), .sh (.int p), .sh (.int s)]) (fun r => ∃ c : Nat, r = .sh (.str ⟨#[c]⟩)) E0 := by
  rw [r_q_odd]
  refine run_of rfl ?_
  show Wo (execsD _ b_q_odd [some (.sh (.scr ns)), some (.sh (.int p)), some (.sh (.int s)), none]) _
  unfold b_q_odd
  walk_at "vc"
  refine (draw_c n hl hp hs (by omega) (by decide)).to ?_
  rintro r ⟨same, rfl, _, _⟩
  walk_at "vc"
  have key : ∀ (z : Str), 0 < z.length → z.length ≤ 1000 → Wo (execsD ⟨callD T mu (n + 1), mu⟩ b_q_odd_1 [some (.sh (.scr ns)), some (.sh (.int p)), some (.sh (.int s)), some (.sh (.str z))]) (outW (fun r => ∃ c : Nat, r = .sh (.str ⟨#[c]⟩)) E0) := fun z h1 h2 => by
    unfold b_q_odd_1
    walk_at "vc"
    refine ⟨by omega, (draw_c n hl hp (by omega) (by omega) (by omega)).to ?_⟩
    rintro r ⟨i, rfl, i1, i2⟩
    walk_at "vc"
    obtain ⟨c, e1, _⟩ := at_ex i1 i2
    rw [e1]
    walk_at "vc"
    exact ⟨by omega, c, rfl⟩
  refine if_of (fun _ => ?_) fun _ => ?_
  · exact key _ (by decide +kernel) (by decide +kernel)
  · exact key _ (by decide +kernel) (by decide +kernel)
end K03
namespace K03
open PySem L2 EG
theorem sl_len (z : Str) (lo hi : Option Int) : (Txt.slice z lo hi).length ≤ z.length := by
  rw [← C8.cutS_slice, len_list, len_list]
  unfold cutS
  simp only [List.length_take, List.length_drop]
  omega
def SG : Str := "abcdefghijklmnopqrstuvwxyz0123456789"
theorem SG_len : SG.length = 36 := by decide +kernel
def tl : Sms → Sms
  | .cons _ s => s
  | s => s
def W3 : Sms := tl (tl (tl b_q_words_1))
theorem words_3 (n : Nat) {ns : List Int} {w0 w f sp fr : Str} {y4 y5 : Option Vl} (hl : ns.length ≤ 63) (h0 : w0.length ≤ 30) (hw : w.length ≤ 30) (hf : f.length ≤ 30) (hs : sp.length ≤ 70) (hr : fr.length ≤ 30) : Wo (execsD ⟨callD T mu (n + 2), mu⟩ W3 [some (.sh (.scr ns)), some (.sh (.str w0)), some (.sh (.str SG)), some (.sh (.str w)), y4, y5, some (.sh (.str f)), some (.sh (.str sp)), some (.sh (.str fr)), none]) (outW (fun r => ∃ ws : List Str, r = .fr 1 (.lst (ws.map .str)) ∧ ∀ w ∈ ws, w.length ≤ 100) E0) := by
  unfold W3 b_q_words_1 tl
  walk_at "vc"
  have hn : (Str.ofString "a").length = 1 := by decide +kernel
  have hn2 : (Str.ofString "\n").length = 1 := by decide +kernel
  have s7 := sl_len f none (some 7)
  have s1 := sl_len w0 (some 1) none
  have s2 := sl_len w0 none (some 1)
  have s3 := sl_len w0 (some 1) (some 2)
  refine ⟨by omega, by omega, by omega, by omega, by omega, by omega, by simp, (odd_c n hl (by decide) (by decide) (by decide)).to ?_⟩
  rintro r ⟨c, rfl⟩
  walk_at "vc"
  refine ⟨by omega, by rw [one_len]; omega, by omega, (odd_c n hl (by decide) (by decide) (by decide)).to ?_⟩
  rintro r ⟨d, rfl⟩
  walk_at "vc"
  refine ⟨by rw [one_len]; omega, by omega, by rw [len_app, one_len]; omega, by simp, ?_⟩
  rw [if_pos trivial]
  refine ⟨by simp, [w, Str.ofString "", w0, f, f ++ Str.ofString "a", Txt.slice f none (some 7) ++ Str.ofString "\n", sp, fr, fr ++ Txt.slice w0 (some 1) none, w0 ++ Str.ofString "\n", (⟨#[c]⟩ : Str) ++ Txt.slice w0 (some 1) none, Txt.slice w0 none (some 1) ++ ⟨#[d]⟩ ++ Txt.slice w0 (some 1) (some 2)], rfl, ?_⟩
  intro x hx
  simp only [List.mem_cons, List.not_mem_nil, or_false] at hx
  have h00 : (Str.ofString "").length = 0 := by decide +kernel
  rcases hx with rfl | rfl | rfl | rfl | rfl | rfl | rfl | rfl | rfl | rfl | rfl | rfl
  all_goals (try simp only [len_app, one_len])
  all_goals omega
theorem words_1 (n : Nat) {ns : List Int} {w0 w f : Str} {y4 y5 : Option Vl} (hl : ns.length ≤ 63) (h0 : w0.length ≤ 30) (hw : w.length ≤ 30) (hf : 1 ≤ f.length) (hf2 : f.length ≤ 30) : Wo (execsD ⟨callD T mu (n + 2), mu⟩ b_q_words_1 [some (.sh (.scr ns)), some (.sh (.str w0)), some (.sh (.str SG)), some (.sh (.str w)), y4, y5, some (.sh (.str f)), none, none, none]) (outW (fun r => ∃ ws : List Str, r = .fr 1 (.lst (ws.map .str)) ∧ ∀ w ∈ ws, w.length ≤ 100) E0) := by
  rw [show b_q_words_1 = .cons (.asg (.n 5) (.call 3 (.cons (.v 0) (.cons (.c (.int (1))) (.cons (.c (.int (8))) (.cons (.bi .len (.cons (.v 6) .nil)) .nil)))))) (.cons (.asg (.n 7) (.bin .Add (.bin .Add (.sl (.v 6) .no (.so (.v 5))) (.call 8 (.cons (.v 0) (.cons (.c (.int (1))) (.cons (.c (.int (9))) .nil))))) (.sl (.v 6) (.so (.bin .Add (.v 5) (.c (.int (1))))) .no))) (.cons (.asg (.n 8) (.ix (.v 2) (.call 3 (.cons (.v 0) (.cons (.c (.int (1))) (.cons (.c (.int (11))) (.cons (.c (.int (36))) .nil))))))) W3)) from rfl]
  walk_at "vc"
  refine ⟨by omega, (draw_c (n + 1) hl (by decide) (by decide) (by decide) (by omega)).to ?_⟩
  rintro r ⟨at', rfl, a1, a2⟩
  walk_at "vc"
  refine ⟨by omega, (odd_c n hl (by decide) (by decide) (by decide)).to ?_⟩
  rintro r ⟨c, rfl⟩
  walk_at "vc"
  have s1 := sl_len f none (some at')
  have s2 := sl_len f (some (at' + 1)) none
  refine ⟨by rw [one_len]; omega, by omega, by rw [len_app, one_len]; omega, (draw_c (n + 1) hl (by decide) (by decide) (by decide) (by decide)).to ?_⟩
  rintro r ⟨i, rfl, i1, i2⟩
  walk_at "vc"
  obtain ⟨d, e1, _⟩ := at_ex (z := SG) i1 (by rw [SG_len]; omega)
  rw [e1]
  walk_at "vc"
  refine ⟨by decide +kernel, words_3 n hl h0 hw hf2 ?_ ?_⟩
  · simp only [len_app, one_len]; omega
  · rw [one_len]; omega
theorem words_3' (n : Nat) {ns : List Int} {w0 w : Str} {y4 y5 : Option Vl} (hl : ns.length ≤ 63) (h0 : 1 ≤ w0.length) (h8 : w0.length ≤ 8) (hw : w.length ≤ 30) : Wo (execsD ⟨callD T mu (n + 2), mu⟩ b_q_words_3 [some (.sh (.scr ns)), some (.sh (.str w0)), some (.sh (.str SG)), some (.sh (.str w)), y4, y5, none, none, none, none]) (outW (fun r => ∃ ws : List Str, r = .fr 1 (.lst (ws.map .str)) ∧ ∀ w ∈ ws, w.length ≤ 100) E0) := by
  unfold b_q_words_3
  walk_at "vc"
  refine ⟨by omega, smallI_of (by omega) (by omega), zl_for (fun i ε => ∃ (f : Str) (y : Option Vl), ε = [some (.sh (.scr ns)), some (.sh (.str w0)), some (.sh (.str SG)), some (.sh (.str w)), y, y5, some (.sh (.str f)), none, none, none] ∧ f.length = w0.length + i ∧ i ≤ 8) ⟨w0, y4, rfl, rfl, by omega⟩ ?_ ?_⟩
  · rintro i d ε hd ⟨f, y, rfl, hf, _⟩
    obtain ⟨rfl, hi⟩ := rangeD_get hd
    unfold b_q_words_L2
    walk_at "vc"
    refine (draw_c (n + 1) hl (by decide) (by omega) (by omega) (by decide)).to ?_
    rintro r ⟨j, rfl, j1, j2⟩
    walk_at "vc"
    obtain ⟨d, e1, _⟩ := at_ex (z := SG) j1 (by rw [SG_len]; omega)
    rw [e1]
    walk_at "vc"
    exact ⟨by decide +kernel, by rw [one_len]; omega, _, _, rfl, by rw [len_app, one_len]; omega, by omega⟩
  · rintro ε ⟨f, y, rfl, hf, hle⟩
    exact words_1 n hl (by omega) hw (by omega) (by omega)
/-- the words that are asked -/
theorem words_c (n : Nat) {ns : List Int} {w0 : Str} (hl : ns.length ≤ 63) (h0 : 1 ≤ w0.length) (h8 : w0.length ≤ 8) : Wr (callD T mu (n + 3) 9 [.sh (.scr ns), .sh (.str w0)]) (fun r => ∃ ws : List Str, r = .fr 1 (.lst (ws.map .str)) ∧ ∀ w ∈ ws, w.length ≤ 100) E0 := by
  rw [r_q_words]
  refine run_of rfl ?_
  show Wo (execsD _ b_q_words [some (.sh (.scr ns)), some (.sh (.str w0)), none, none, none, none, none, none, none, none]) _
  unfold b_q_words
  walk_at "vc"
  refine (draw_c (n + 1) hl (by decide) (by decide) (by decide) (by decide)).to ?_
  rintro r ⟨m, rfl, m1, m2⟩
  walk_at "vc"
  refine ⟨smallI_of (by omega) (by omega), zl_for (fun i ε => ∃ (w : Str) (y : Option Vl), ε = [some (.sh (.scr ns)), some (.sh (.str w0)), some (.sh (.str SG)), some (.sh (.str w)), y, none, none, none, none, none] ∧ w.length = i ∧ i ≤ 10) ⟨Str.ofString "", none, rfl, by decide +kernel, by omega⟩ ?_ ?_⟩
  · rintro i d ε hd ⟨w, y, rfl, hw, _⟩
    obtain ⟨rfl, hi⟩ := rangeD_get hd
    unfold b_q_words_L5
    walk_at "vc"
    refine (draw_c (n + 1) hl (by decide) (by omega) (by omega) (by decide)).to ?_
    rintro r ⟨j, rfl, j1, j2⟩
    walk_at "vc"
    obtain ⟨d, e1, _⟩ := at_ex (z := SG) j1 (by rw [SG_len]; omega)
    rw [e1]
    walk_at "vc"
    exact ⟨by decide +kernel, by rw [one_len]; omega, _, _, rfl, by rw [len_app, one_len]; omega, by omega⟩
  · rintro ε ⟨w, y, rfl, hw, hle⟩
    unfold b_q_words_4
    walk_at "vc"
    refine ⟨by omega, if_of (fun hpos => ?_) fun _ => words_3' n hl h0 h8 (by omega)⟩
    refine (draw_c (n + 1) hl (by decide) (by decide) (by decide) (by decide)).to ?_
    rintro r ⟨q, rfl, _, _⟩
    walk_at "vc"
    refine if_of (fun _ => ?_) fun _ => words_3' n hl h0 h8 (by omega)
    refine ⟨by omega, (draw_c (n + 1) hl (by decide) (by decide) (by decide) (by omega)).to ?_⟩
    rintro r ⟨at', rfl, a1, a2⟩
    walk_at "vc"
    refine ⟨by omega, (odd_c n hl (by decide) (by decide) (by decide)).to ?_⟩
    rintro r ⟨c, rfl⟩
    walk_at "vc"
    have s1 := sl_len w none (some at')
    have s2 := sl_len w (some (at' + 1)) none
    refine ⟨by rw [one_len]; omega, by omega, by rw [len_app, one_len]; omega, words_3' n hl h0 h8 ?_⟩
    simp only [len_app, one_len]; omega
/-- numbers that are no bools -/
theorem int_c (n : Nat) (i : Int) : Wr (callD T mu (n + 1) 5 [.sh (.int i)]) (fun r => r = .sh (.bl true)) E0 := by
  rw [r_q_is_integer]
  refine run_of rfl ?_
  show Wo (execsD _ b_q_is_integer [some (.sh (.int i))]) _
  unfold b_q_is_integer
  walk_at "vc"
  rfl
theorem value_c (n : Nat) {ns : List Int} {p s : Int} (hl : ns.length ≤ 63) (hp : 0 ≤ p) (hs : 0 ≤ s) (hs2 : s < 2 ^ 40) : Wr (callD T mu (n + 2) 10 [.sh (.scr ns), .sh (.int p), .sh (.int s)]) (fun r => ∃ i : Int, r = .sh (.int i)) E0 := by
  rw [r_q_value]
  refine run_of rfl ?_
  show Wo (execsD _ b_q_value [some (.sh (.scr ns)), some (.sh (.int p)), some (.sh (.int s)), none, none]) _
  unfold b_q_value
  walk_at "vc"
  refine (draw_c n hl hp hs (by omega) (by decide)).to ?_
  rintro r ⟨v, rfl, v1, v2⟩
  walk_at "vc"
  refine (draw_c n hl hp (by omega) (by omega) (by decide)).to ?_
  rintro r ⟨sh, rfl, _, _⟩
  walk_at "vc"
  refine if_of (fun _ => ⟨by decide, _, rfl⟩) fun _ => ?_
  unfold b_q_value_2
  walk_at "vc"
  refine if_of (fun _ => ⟨_, rfl⟩) fun _ => ?_
  unfold b_q_value_1
  walk_at "vc"
  exact ⟨_, rfl⟩
theorem erase_map : ∀ (K : List Int) (j : Nat), (K.map D.int).eraseIdx j = (K.eraseIdx j).map D.int
  | [], _ => rfl
  | _ :: _, 0 => rfl
  | x :: K, j + 1 => congrArg (D.int x :: ·) (erase_map K j)
theorem er_perm : ∀ {K : List Int} {j : Nat} (h : j < K.length), (K[j] :: K.eraseIdx j).Perm K
  | x :: K, 0, _ => List.Perm.refl _
  | x :: K, j + 1, h => by
    have ih := er_perm (K := K) (j := j) (by simpa using h)
    exact (List.Perm.swap x _ _).trans (ih.cons x)
/-- a drawn order of 0 to m - 1 -/
theorem order_c (n : Nat) {ns : List Int} {p m : Int} (hl : ns.length ≤ 63) (hp : 0 ≤ p) (h0 : 0 ≤ m) (h1 : m ≤ 100) : Wr (callD T mu (n + 2) 6 [.sh (.scr ns), .sh (.int p), .sh (.int m)]) (fun r => ∃ L : List Int, r = .fr 1 (.lst (L.map .int)) ∧ L.Nodup ∧ ∀ x ∈ L, 0 ≤ x ∧ x < m) E0 := by
  rw [r_q_order]
  refine run_of rfl ?_
  show Wo (execsD _ b_q_order [some (.sh (.scr ns)), some (.sh (.int p)), some (.sh (.int m)), none, none, none, none]) _
  unfold b_q_order
  walk_at "vc"
  refine ⟨⟨h0, by omega⟩, by simp, smallI_of (by omega) (by omega), zl_for (fun i ε => ∃ (L K : List Int) (y5 y6 : Option Vl), ε = [some (.sh (.scr ns)), some (.sh (.int p)), some (.sh (.int m)), some (.fr 1 (.lst (K.map .int))), some (.fr 1 (.lst (L.map .int))), y5, y6] ∧ (L ++ K).Nodup ∧ (∀ x ∈ L ++ K, 0 ≤ x ∧ x < m) ∧ L.length = i ∧ ((L.length + K.length : Nat) : Int) = m ∧ (∀ (l : EG.Env) (P : Prop), nuW (y5 :: l) P = nuW l P) ∧ ∀ (l : EG.Env) (P : Prop), nuW (y6 :: l) P = nuW l P) ?_ ?_ ?_⟩
  · obtain ⟨K, hK1, hK2, hK3, hK4⟩ : ∃ K : List Int, rangeD 0 m = K.map .int ∧ K.Nodup ∧ (∀ x ∈ K, 0 ≤ x ∧ x < m) ∧ (K.length : Int) = m := by
      refine ⟨(List.range m.toNat).map fun (i : Nat) => (i : Int), by unfold rangeD; rw [List.map_map, Int.sub_zero]; exact List.map_congr_left fun x _ => by simp, ?_, fun x hx => ?_, by simp; omega⟩
      · exact List.Pairwise.map _ (fun (a b : Nat) (h : a ≠ b) (z : (a : Int) = b) => h (by omega)) List.nodup_range
      · obtain ⟨j, hj, rfl⟩ := List.mem_map.mp hx
        have := List.mem_range.mp hj
        omega
    exact ⟨[], K, none, none, by rw [hK1]; rfl, by simpa using hK2, by simpa using hK3, rfl, by simpa using hK4, fun _ _ => rfl, fun _ _ => rfl⟩
  · rintro i d ε hd ⟨L, K, y5, y6, rfl, nd, bd, hL, hm, n5, n6⟩
    obtain ⟨rfl, hi⟩ := rangeD_get hd
    unfold b_q_order_L2
    walk_at "vc"
    refine (draw_c n hl hp (by omega) (by omega) (by simp; omega)).to ?_
    rintro r ⟨q, rfl, q1, q2⟩
    rw [List.length_map] at q2
    walk_at "vc"
    rw [z_appPop _ _ _ _ _ (by decide)]
    walk_at "vc"
    obtain ⟨j, rfl⟩ := Int.eq_ofNat_of_zero_le q1
    have hj : j < K.length := by omega
    have hp : popD (K.map D.int) (some (j : Int)) = some (.int K[j], (K.eraseIdx j).map .int) := by
      have e1 : smallI (j : Int) = true := smallI_of (by omega) (by omega)
      have e2 : ixN (K.map D.int).length (j : Int) = some j := by rw [List.length_map]; simp [ixN]; omega
      simp only [popD, e1, if_true, e2, Option.bind_some, List.getElem?_map, List.getElem?_eq_getElem hj, Option.map_some]
      rw [erase_map]
    rw [hp]
    walk_at "vc"
    have hperm : (L ++ [K[j]] ++ K.eraseIdx j).Perm (L ++ K) := by
      rw [List.append_assoc]
      refine List.Perm.append_left L ?_
      exact er_perm hj
    refine ⟨by rw [List.length_map]; omega, L ++ [K[j]], K.eraseIdx j, _, _, by rw [List.map_append]; rfl, hperm.nodup_iff.mpr nd, fun x hx => bd x (hperm.mem_iff.mp hx), by simp [hL], by rw [List.length_append, List.length_eraseIdx_of_lt hj]; simp; omega, fun _ _ => rfl, fun _ _ => rfl⟩
  · rintro ε ⟨L, K, y5, y6, rfl, nd, bd, hL, hm, n5, n6⟩
    unfold b_q_order_1
    walk_at "vc"
    exact ⟨L, rfl, (List.nodup_append.mp nd).1, fun x hx => bd x (List.mem_append_left _ hx)⟩
end K03
namespace K03
open PySem L2 EG
theorem _root_.EG.Wr.toE {α : Type} {o : Rs α} {Q Q' : α → Prop} {E E' : EK} (h : Wr o Q E) (k : ∀ r, Q r → Q' r) (e : ∀ c ns ds, E c ns ds → E' c ns ds) : Wr o Q' E' := by
  obtain ⟨r, h1, h2⟩ := h
  refine ⟨r, h1, ?_⟩
  cases r with
  | ok a => exact k a h2
  | er c ns ds => exact e _ _ _ h2
/-- a future: gauges and values -/
abbrev Fu := List (Str × Int)
def keysF (f : Fu) : List Key := f.map fun p => Sum.inr p.1
def valsF (f : Fu) : List D := f.map fun p => .int p.2
def DF (f : Fu) : D := .dct (.k (keysF f)) (valsF f)
def look (f : Fu) (x : Str) : Option Int := (f.find? fun p => decide (p.1 = x)).map (·.2)
theorem look_at : ∀ (f : Fu) (x : Str), match look f x with
    | none => keyAt (keysF f) (Sum.inr x) = none
    | some v => ∃ i : Nat, keyAt (keysF f) (Sum.inr x) = some i ∧ (valsF f)[i]? = some (D.int v)
  | [], x => rfl
  | p :: f, x => by
    unfold look keysF valsF
    simp only [List.find?_cons, List.map_cons, keyAt]
    by_cases h : p.1 = x
    · subst h
      simp only [decide_true, Option.map_some, if_true]
      exact ⟨0, rfl, rfl⟩
    · have ih := look_at f x
      have h2 : ¬ (Sum.inr p.1 : Key) = Sum.inr x := fun z => h (Sum.inr.inj z)
      simp only [h, decide_false, if_neg h2]
      unfold look at ih
      cases e : (f.find? fun p => decide (p.1 = x)).map (·.2) with
      | none =>
        rw [e] at ih
        simp only at ih ⊢
        unfold keysF at ih
        rw [ih]; rfl
      | some v =>
        rw [e] at ih
        simp only at ih ⊢
        obtain ⟨i, h3, h4⟩ := ih
        unfold keysF at h3
        unfold valsF at h4
        exact ⟨i + 1, by rw [h3]; rfl, by simpa using h4⟩
theorem at_none {f : Fu} {x : Str} (h : look f x = none) : (Ky.k (keysF f)).at (.str x) = some none := by
  have := look_at f x
  rw [h] at this
  show some (keyAt (keysF f) (Sum.inr x)) = _
  rw [this]
theorem at_some {f : Fu} {x : Str} {v : Int} (h : look f x = some v) : ∃ i, (Ky.k (keysF f)).at (.str x) = some (some i) ∧ (valsF f)[i]? = some (.int v) := by
  have := look_at f x
  rw [h] at this
  obtain ⟨i, h1, h2⟩ := this
  exact ⟨i, by show some (keyAt (keysF f) (Sum.inr x)) = _; rw [h1], h2⟩
theorem in_F (f : Fu) (x : Str) (Q : Bool → Prop) : Wo (cmpD .In (.str x) (DF f)) Q = Q (look f x).isSome := by
  have : cmpD .In (.str x) (DF f) = some (look f x).isSome := by
    show ((Ky.k (keysF f)).at (.str x)).map _ = _
    cases h : look f x with
    | none => rw [at_none h]; rfl
    | some v => obtain ⟨i, h1, _⟩ := at_some h; rw [h1]; rfl
  rw [this, z_some]
theorem ni_F (f : Fu) (x : Str) (Q : Bool → Prop) : Wo (cmpD .NotIn (.str x) (DF f)) Q = Q (!(look f x).isSome) := by
  have h2 : cmpD .NotIn (.str x) (DF f) = (cmpD .In (.str x) (DF f)).map (!·) := rfl
  rw [h2, z_map, in_F]
theorem ix_F {f : Fu} {x : Str} {v : Int} (h : look f x = some v) (a : Vl) (ha : a.low = true) (Q : Vl → Prop) : ixW a Q (DF f) (.str x) = Q (.sh (.int v)) := by
  obtain ⟨i, h1, h2⟩ := at_some h
  unfold DF
  rw [z_ixD, h1, z_some, z_some, h2, z_some]
  simp [ha]
theorem dF (n : Nat) (f : Fu) : (Vl.bo n (DF f)).d = DF f := rfl
def part (f : Fu) (xs : List Str) : Fu := xs.map fun x => (x, (look f x).getD 0)
theorem look_part {f : Fu} {xs : List Str} {x : Str} (h : x ∈ xs) : look (part f xs) x = some ((look f x).getD 0) := by
  induction xs with
  | nil => cases h
  | cons y ys ih =>
    unfold look part
    simp only [List.map_cons, List.find?_cons]
    by_cases e : y = x
    · subst e; simp [look]
    · simp only [e, decide_false]
      rcases List.mem_cons.mp h with h | h
      · exact absurd h.symm e
      · have := ih h
        unfold look part at this
        exact this
/-- MissingGauge of the first one that is missing -/
def MG (x : Str) : Nat → List Str → List D → Prop := fun c ns ds => c = 4 ∧ ns = (["gauge"] : List Str) ∧ ds = [.str x]
theorem mg_c (n : Nat) {x : Str} : Wr (callD T mu (n + 1) 19 [.sh (.str x)]) (fun _ => False) (MG x) := by
  rw [r_E_MissingGauge]
  exact err_of rfl (by simp) rfl ⟨rfl, rfl, rfl⟩
theorem value_of_i (n : Nat) {f : Fu} {i : Int} : Wr (callD T mu (n + 2) 1 [.sh (.int i), .bo 1 (DF f)]) (fun r => r = .sh (.int i)) E0 := by
  rw [r_value_of]
  refine run_of rfl ?_
  show Wo (execsD _ b_value_of [some (.sh (.int i)), some (.bo 1 (DF f))]) _
  unfold b_value_of
  walk_at "vc"
theorem value_of_s (n : Nat) {f : Fu} {x : Str} : Wr (callD T mu (n + 2) 1 [.sh (.str x), .bo 1 (DF f)]) (fun r => ∃ v, look f x = some v ∧ r = .sh (.int v)) (fun c ns ds => look f x = none ∧ MG x c ns ds) := by
  rw [r_value_of]
  refine run_of rfl ?_
  show Wo (execsD _ b_value_of [some (.sh (.str x)), some (.bo 1 (DF f))]) _
  unfold b_value_of
  walk_at "vc"
  unfold b_value_of_2
  walk_at "vc"
  simp only [ni_F]
  cases h : look f x with
  | none =>
    rw [if_pos (by rfl)]
    walk_at "vc"
    refine (mg_c n).toE (fun _ z => z.elim) fun c ns ds z => ?_
    simp only [erW]
    walk_at "vc"
    exact ⟨trivial, z⟩
  | some v =>
    rw [if_neg (by simp)]
    unfold b_value_of_1
    walk_at "vc"
    rw [ix_F h _ rfl]
    walk_at "vc"
    exact ⟨v, rfl, rfl⟩
/-- what is asked for: a list or a tuple of names -/
structure Wn (a : Vl) (ws : List Str) : Prop where
  use : ∀ Q : Vl → Prop, Wo a.use Q = Q a
  arg : ∀ Q : Vl → Prop, Wo a.argd Q = Q a
  srt : ws.length < 64 → ∀ Q : Vl → Prop, Wo (biD .sorted [a]) Q = Q (.fr 1 (.lst ((sortS ws).map .str)))
theorem Wn.sh (ws : List Str) : Wn (.sh (.lst (ws.map .str))) ws := ⟨fun _ => z_some _ _, fun _ => z_some _ _, fun h Q => z_sortXS h Q⟩
theorem Wn.bo (ws : List Str) : Wn (.bo 1 (.lst (ws.map .str))) ws := ⟨fun _ => z_some _ _, fun _ => z_some _ _, fun h Q => z_sortXB h Q⟩
theorem Wn.tu (ws : List Str) : Wn (.sh (.tup (ws.map .str))) ws := ⟨fun _ => z_some _ _, fun _ => z_some _ _, fun h Q => z_sortXT h Q⟩
theorem getS_str {xs : List Str} {i : Nat} {d : D} (h : (xs.map D.str)[i]? = some d) : ∃ x, xs[i]? = some x ∧ d = .str x := by
  rw [List.getElem?_map, Option.map_eq_some_iff] at h
  obtain ⟨x, h1, h2⟩ := h
  exact ⟨x, h1, h2.symm⟩
/-- the first one that is missing -/
def Miss (f : Fu) (xs : List Str) (x : Str) : Prop := ∃ i : Nat, xs[i]? = some x ∧ look f x = none ∧ ∀ j y, j < i → xs[j]? = some y → look f y ≠ none
theorem part_of_c (n : Nat) {f : Fu} {a : Vl} {ws : List Str} (ha : Wn a ws) (hn : ws.Nodup) (hl : ws.length < 64) : Wr (callD T mu (n + 2) 2 [.bo 1 (DF f), a]) (fun r => (∀ x ∈ sortS ws, look f x ≠ none) ∧ r = .fr 1 (DF (part f (sortS ws)))) (fun c ns ds => ∃ x, Miss f (sortS ws) x ∧ MG x c ns ds) := by
  rw [r_part_of]
  refine run_of rfl ?_
  show Wo (execsD _ b_part_of [some (.bo 1 (DF f)), some a, none, none]) _
  have hps := sortS_perm ws
  have hnd : (sortS ws).Nodup := hps.nodup_iff.mpr hn
  have hlen : (sortS ws).length < 64 := by rw [hps.length_eq]; exact hl
  unfold b_part_of
  walk_at "vc"
  simp only [ha.use, ha.arg]
  walk_at "vc"
  rw [ha.srt hl]
  walk_at "vc"
  generalize sortS ws = xs at *
  refine zl_for (xs := xs.map D.str) (fun i ε => (∃ y, ε = [some (.bo 1 (DF f)), some a, some (.sh (.lst (xs.map .str))), y]) ∧ ∀ j x, j < i → xs[j]? = some x → look f x ≠ none) ⟨⟨none, rfl⟩, fun j x h => absurd h (Nat.not_lt_zero _)⟩ ?_ ?_
  · rintro i d ε hd ⟨⟨y, rfl⟩, hj⟩
    obtain ⟨x, hx, rfl⟩ := getS_str hd
    unfold b_part_of_L2
    walk_at "vc"
    simp only [ni_F]
    cases h : look f x with
    | none =>
      rw [if_pos (by rfl)]
      walk_at "vc"
      refine (mg_c n).toE (fun _ z => z.elim) fun c ns ds z => ?_
      simp only [erW]
      walk_at "vc"
      exact ⟨x, ⟨i, hx, h, fun j y hji e => hj j y hji e⟩, z⟩
    | some v =>
      rw [if_neg (by simp)]
      refine ⟨⟨_, rfl⟩, fun j z hji e => ?_⟩
      by_cases e2 : j = i
      · subst e2; rw [hx] at e; cases e; rw [h]; exact fun z => nomatch z
      · exact hj j z (by omega) e
  · rintro ε ⟨⟨y, rfl⟩, hj⟩
    rw [List.length_map] at hj
    have hall : ∀ x ∈ xs, look f x ≠ none := fun x hx => by
      obtain ⟨j, hj1, hj2⟩ := List.getElem_of_mem hx
      exact hj j x hj1 (by rw [List.getElem?_eq_getElem hj1, hj2])
    unfold b_part_of_1
    walk_at "vc"
    refine ⟨by simp; omega, ?_⟩
    have e1 : ((xs.map D.str).map Vl.sh).length = (keysF (part f xs)).length := by simp [keysF, part]
    have e2 : (valsF (part f xs)).length = (keysF (part f xs)).length := by simp [keysF, valsF]
    have nd : (keysF (part f xs)).Nodup := by
      unfold keysF part
      rw [List.map_map]
      exact List.Pairwise.map _ (fun (a b : Str) (h : a ≠ b) z => h (Sum.inr.inj z)) hnd
    rw [dc_new e1 e2 nd (by simp [keysF, part]; omega) fun i v k d h1 h2 h3 => ?_, z_some]
    · exact ⟨hall, rfl⟩
    · rw [List.getElem?_map, Option.map_eq_some_iff] at h1
      obtain ⟨d1, h1, rfl⟩ := h1
      obtain ⟨x, hx, rfl⟩ := getS_str h1
      have hk : (keysF (part f xs))[i]? = some (Sum.inr x) := by unfold keysF part; simp [hx]
      rw [hk] at h2; cases h2
      obtain ⟨v, hv⟩ : ∃ v, look f x = some v := by
        cases e : look f x with
        | none => exact absurd e (hall x (List.mem_of_getElem? hx))
        | some v => exact ⟨v, rfl⟩
      have hd : (valsF (part f xs))[i]? = some (.int v) := by unfold valsF part; simp [hx, hv]
      rw [hd] at h3; cases h3
      walk_at "vc"
      rw [ix_F hv _ rfl]
      walk_at "vc"
      rfl
end K03
namespace K03
open PySem L2 EG
abbrev told (d : D) : D := .lst [.str "told", d]
abbrev miss (x : Str) : D := .lst [.str "missing", .str x]
theorem kn_str (x : Str) (Q : D → Prop) : Wo (Vl.keepN 1 (.sh (.str x))) Q = Q (.str x) := by simp [Vl.keepN, flatD, z_some]
theorem kn_fr (d : D) (Q : D → Prop) : Wo (Vl.keepN 1 (.fr 1 d)) Q = Q d := by simp [Vl.keepN, z_some]
theorem tail_5 (n : Nat) {x : Str} {a b w : Option Vl} {Q : Vl → Prop} (hq : Q (.fr 1 (miss x))) :
    Wo (execsD ⟨callD T mu n, mu⟩ b_q_asked_X5 [a, b, w, some (.ex 4 ([("gauge" : Str)] : List Str) [.str x])]) (sutW 3 (andThen ⟨callD T mu n, mu⟩ Sms.nil (outW Q E0))) := by
  unfold b_q_asked_X5
  walk_at "vc"
  refine ⟨by decide, ?_⟩
  rw [if_neg (by decide)]
  refine ⟨by decide, ?_⟩
  rw [if_neg (by decide)]
  refine ⟨by decide, ?_⟩
  rw [if_neg (by decide)]
  unfold b_q_asked_4
  walk_at "vc"
  refine ⟨by decide, ?_⟩
  rw [if_neg (by decide)]
  refine ⟨by decide, ?_⟩
  rw [if_neg (by decide)]
  refine ⟨by decide, ?_⟩
  rw [if_neg (by decide)]
  unfold b_q_asked_3
  walk_at "vc"
  refine ⟨by decide, ?_⟩
  rw [if_pos (by decide)]
  refine ⟨by decide, ?_⟩
  rw [show (([("gauge" : Str)] : List Str).zip [D.str x]).lookup ("gauge" : Str) = some (.str x) from rfl]
  walk_at "vc"
  exact ⟨by simp, hq⟩
theorem asked_p (n : Nat) {f : Fu} {a : Vl} {ws : List Str} (ha : Wn a ws) (hx : ∀ r, noEx (some a :: r) = noEx r) (hn : ws.Nodup) (hl : ws.length < 64) :
    Wr (callD T mu (n + 3) 11 [a, .bo 1 (DF f), .sh (.bl true)]) (fun r => ((∀ x ∈ sortS ws, look f x ≠ none) ∧ r = .fr 2 (told (DF (part f (sortS ws))))) ∨ ∃ x, Miss f (sortS ws) x ∧ r = .fr 1 (miss x)) E0 := by
  rw [r_q_asked]
  refine run_of rfl ?_
  show Wo (execsD _ b_q_asked [some a, some (.bo 1 (DF f)), some (.sh (.bl true)), none]) _
  unfold b_q_asked
  walk_at "vc"
  simp only [ha.use, ha.arg]
  walk_at "vc"
  rw [kn_str]
  refine (part_of_c n ha hn hl).toE ?_ ?_
  · rintro r ⟨h1, rfl⟩
    rw [kn_fr]
    exact ⟨by simp, .inl ⟨h1, rfl⟩⟩
  · rintro c ns ds ⟨x, hm, rfl, rfl, rfl⟩
    simp only [erW]
    walk_at "vc"
    refine ⟨by decide, hx _, ?_⟩
    walk_at "vc"
    exact tail_5 (n + 2) (.inr ⟨x, hm, rfl⟩)
theorem asked_i (n : Nat) {f : Fu} {i : Int} : Wr (callD T mu (n + 3) 11 [.sh (.int i), .bo 1 (DF f), .sh (.bl false)]) (fun r => r = .fr 1 (told (.int i))) E0 := by
  rw [r_q_asked]
  refine run_of rfl ?_
  show Wo (execsD _ b_q_asked [some (.sh (.int i)), some (.bo 1 (DF f)), some (.sh (.bl false)), none]) _
  unfold b_q_asked
  walk_at "vc"
  unfold b_q_asked_1
  walk_at "vc"
  refine (value_of_i n).to ?_
  rintro r rfl
  walk_at "vc"
  exact ⟨by simp, trivial⟩
theorem asked_s (n : Nat) {f : Fu} {x : Str} : Wr (callD T mu (n + 3) 11 [.sh (.str x), .bo 1 (DF f), .sh (.bl false)]) (fun r => (∃ v, look f x = some v ∧ r = .fr 1 (told (.int v))) ∨ (look f x = none ∧ r = .fr 1 (miss x))) E0 := by
  rw [r_q_asked]
  refine run_of rfl ?_
  show Wo (execsD _ b_q_asked [some (.sh (.str x)), some (.bo 1 (DF f)), some (.sh (.bl false)), none]) _
  unfold b_q_asked
  walk_at "vc"
  unfold b_q_asked_1
  walk_at "vc"
  refine (value_of_s n).toE ?_ ?_
  · rintro r ⟨v, h1, rfl⟩
    walk_at "vc"
    exact ⟨by simp, .inl ⟨v, h1, rfl⟩⟩
  · rintro c ns ds ⟨h1, rfl, rfl, rfl⟩
    simp only [erW]
    walk_at "vc"
    refine ⟨by decide, rfl, ?_⟩
    walk_at "vc"
    exact tail_5 (n + 2) (.inr ⟨h1, rfl⟩)
theorem sh_str {k : Nat} {x : Str} (h : PyData.strOk x = true) : Sh (k + 1) (.str x) := ⟨rfl, h, by simp [toPy, PyData.depth]⟩
theorem ok_miss : PyData.strOk (Str.ofString "missing") = true := by decide +kernel
theorem eq_miss {x : Str} (h : PyData.strOk x = true) : cmpD .Eq (miss x) (miss x) = some true := eq_self_l (Sh.lst (k := 63) fun d hd => by
  simp only [List.mem_cons, List.not_mem_nil, or_false] at hd
  rcases hd with rfl | rfl
  · exact sh_str ok_miss
  · exact sh_str h)
theorem sh_strs {ws : List Str} (h : ∀ x ∈ ws, PyData.strOk x = true) : Sh 64 (.lst (ws.map .str)) := Sh.lst (k := 63) fun d hd => by
  obtain ⟨x, hx, rfl⟩ := List.mem_map.mp hd
  exact sh_str (h x hx)
/-- a value that is asked for -/
theorem vfits_i (n : Nat) {f : Fu} {i : Int} : Wr (callD T mu (n + 4) 12 [.sh (.int i), .bo 1 (DF f)]) (fun r => r = .sh (.bl true)) E0 := by
  rw [r_q_value_fits]
  refine run_of rfl ?_
  show Wo (execsD _ b_q_value_fits [some (.sh (.int i)), some (.bo 1 (DF f)), none]) _
  unfold b_q_value_fits
  walk_at "vc"
  refine (asked_i n).to ?_
  rintro r rfl
  walk_at "vc"
  rw [if_pos (by simp), if_pos (by simp)]
  refine (int_c (n + 2) i).to ?_
  rintro r rfl
  walk_at "vc"
  simp
theorem vfits_s (n : Nat) {f : Fu} {x : Str} (hx : PyData.strOk x = true) : Wr (callD T mu (n + 4) 12 [.sh (.str x), .bo 1 (DF f)]) (fun r => r = .sh (.bl true)) E0 := by
  rw [r_q_value_fits]
  refine run_of rfl ?_
  show Wo (execsD _ b_q_value_fits [some (.sh (.str x)), some (.bo 1 (DF f)), none]) _
  unfold b_q_value_fits
  walk_at "vc"
  refine (asked_s n).to ?_
  rintro r (⟨v, h1, rfl⟩ | ⟨h1, rfl⟩)
  · walk_at "vc"
    unfold b_q_value_fits_2
    walk_at "vc"
    simp only [ni_F, h1]
    walk_at "vc"
    rw [if_neg (by simp)]
    unfold b_q_value_fits_1
    walk_at "vc"
    rw [if_pos (by simp), if_pos (by simp)]
    refine (int_c (n + 2) v).to ?_
    rintro r rfl
    walk_at "vc"
    rw [ix_F h1 _ rfl]
    walk_at "vc"
    simp
  · walk_at "vc"
    unfold b_q_value_fits_2
    walk_at "vc"
    simp only [ni_F, h1]
    walk_at "vc"
    rw [if_pos (by rfl)]
    refine ⟨by simp, ?_⟩
    rw [show (D.lst [D.str (Str.ofString "missing"), D.str x]) = miss x from rfl, eq_miss hx]
    walk_at "vc"
theorem isi_DF (g : Fu) (Q : Bool → Prop) : Wo (isiD .dict (DF g)) Q = Q true := z_isiD _ _ _ _
theorem keys_DF (g : Fu) : (keysF g).map keyD = (g.map (·.1)).map D.str := by
  unfold keysF
  rw [List.map_map, List.map_map]; rfl
theorem list_DF (g : Fu) (Q : Vl → Prop) : Wo (biD .list [.bo 1 (DF g)]) Q = Q (.fr 1 (.lst ((g.map (·.1)).map .str))) := by
  unfold DF
  rw [z_listDB, keys_DF]
/-- a part that was told -/
theorem is_part_c (n : Nat) {g f : Fu} {a t : Vl} {ws : List Str} (ht : t = .bo 1 (DF g)) (ha : Wn a ws) (hl : ws.length < 64) (hok : ∀ x ∈ ws, PyData.strOk x = true) (hg : g.map (·.1) = sortS ws) (hv : ∀ x ∈ ws, ∃ v, look g x = some v ∧ look f x = some v) :
    Wr (callD T mu (n + 2) 13 [t, a, .bo 1 (DF f)]) (fun r => r = .sh (.bl true)) E0 := by
  subst ht
  rw [r_q_is_part]
  refine run_of rfl ?_
  show Wo (execsD _ b_q_is_part [some (.bo 1 (DF g)), some a, some (.bo 1 (DF f)), none, none]) _
  have hps := sortS_perm ws
  have hv' : ∀ x ∈ sortS ws, ∃ v, look g x = some v ∧ look f x = some v := fun x hx => hv x (hps.mem_iff.mp hx)
  have hok' : ∀ x ∈ sortS ws, PyData.strOk x = true := fun x hx => hok x (hps.mem_iff.mp hx)
  unfold b_q_is_part
  walk_at "vc"
  simp only [ha.use, ha.arg]
  walk_at "vc"
  rw [ha.srt hl]
  walk_at "vc"
  rw [isi_DF, list_DF]
  generalize sortS ws = xs at *
  rw [hg]
  walk_at "vc"
  rw [ne_self_l (sh_strs hok')]
  walk_at "vc"
  unfold b_q_is_part_3
  walk_at "vc"
  refine zl_for (xs := xs.map D.str) (fun i ε => ∃ y, ε = [some (.bo 1 (DF g)), some a, some (.bo 1 (DF f)), some (.sh (.lst (xs.map .str))), y]) ⟨none, rfl⟩ ?_ ?_
  · rintro i d ε hd ⟨y, rfl⟩
    obtain ⟨x, hx, rfl⟩ := getS_str hd
    obtain ⟨v, v1, v2⟩ := hv' x (List.mem_of_getElem? hx)
    unfold b_q_is_part_L2
    walk_at "vc"
    rw [ix_F v1 _ rfl]
    walk_at "vc"
    refine (int_c n v).to ?_
    rintro r rfl
    walk_at "vc"
    rw [ix_F v1 _ rfl, ix_F v2 _ rfl]
    walk_at "vc"
    rw [if_neg (by simp)]
    exact ⟨_, rfl⟩
  · rintro ε ⟨y, rfl⟩
    unfold b_q_is_part_1
    walk_at "vc"
theorem put_any (ks : List Key) (xs : List D) (h : ks.length = xs.length) (hl : ks.length < 1000) (x : Str) (d : D) : ∃ t, putDc (.k ks) xs (.str x) d = some t := by
  unfold putDc
  show ∃ t, (some (keyAt ks (Sum.inr x))).bind _ = some t
  cases keyAt ks (Sum.inr x) with
  | none =>
    refine ⟨.dct (.k (ks ++ [Sum.inr x])) (xs ++ [d]), ?_⟩
    simp only [Option.bind_some]
    rw [if_pos (show (Ky.k ks).length < 100000 from by show ks.length < 100000; omega)]
    rfl
  | some i =>
    refine ⟨.dct (.k ks) (putAll (Sum.inr x) d ks xs), ?_⟩
    simp only [Option.bind_some]
    rw [if_pos (show (Ky.k ks).length < 100000 from by show ks.length < 100000; omega)]
    rfl
theorem Miss.uniq {f : Fu} {xs : List Str} {x y : Str} (h : Miss f xs x) (h' : Miss f xs y) : x = y := by
  obtain ⟨i, a1, a2, a3⟩ := h
  obtain ⟨j, b1, b2, b3⟩ := h'
  rcases Nat.lt_trichotomy i j with c | c | c
  · exact absurd a2 (b3 i x c a1)
  · subst c; rw [a1] at b1; exact Option.some.inj b1
  · exact absurd b2 (a3 j y c b1)
theorem Miss.not {f : Fu} {xs : List Str} {x : Str} (h : Miss f xs x) (h' : ∀ x ∈ xs, look f x ≠ none) : False := by
  obtain ⟨i, a1, a2, _⟩ := h
  exact h' x (List.mem_of_getElem? a1) a2
theorem pa_us2 (X : D) (x : Str) (Q : Vl → Prop) : Wo ((Vl.us 2 X).part (.str x)) Q = Q (.sh (.str x)) := by simp [Vl.part, flatD, z_some]
theorem pa_us2D (X : D) (g : Fu) (Q : Vl → Prop) : Wo ((Vl.us 2 X).part (DF g)) Q = Q (.us 1 (DF g)) := by simp [Vl.part, flatD, DF, z_some]
theorem sx_DF (A B : Prop) (g : Fu) : sxW A B (some (.fr 1 (DF g))) = A := rfl
theorem od_DF (Q : Ky → List D → Prop) (g : Fu) : odW Q (.fr 1 (DF g)) = Q (.k (keysF g)) (valsF g) := z_odW _ _ _
/-- all parts that are asked for -/
theorem part_fits_c (n : Nat) {f : Fu} {t : Vl} {ws : List Str} (ht : t = .bo 1 (.lst (ws.map .str)) ∨ t = .sh (.lst (ws.map .str))) (hn : ws.Nodup) (hl : ws.length < 64) (hok : ∀ x ∈ ws, PyData.strOk x = true) :
    Wr (callD T mu (n + 4) 14 [t, .bo 1 (DF f)]) (fun r => r = .sh (.bl true)) E0 := by
  rw [r_q_part_fits]
  refine run_of rfl ?_
  show Wo (execsD _ b_q_part_fits [some t, some (.bo 1 (DF f)), none, none, none, none, none]) _
  have ha : Wn t ws := by exact ht.elim (fun e => e ▸ Wn.bo ws) (fun e => e ▸ Wn.sh ws)
  have hps := sortS_perm ws
  have hok' : ∀ x ∈ sortS ws, PyData.strOk x = true := fun x hx => hok x (hps.mem_iff.mp hx)
  have hlst : ∀ Q : Vl → Prop, Wo (biD .list [t]) Q = Q (.fr 1 (.lst (ws.map .str))) := fun Q => by
    rcases ht with rfl | rfl
    · exact z_listBo _ _
    · exact z_listSh _ _
  have htup : ∀ Q : Vl → Prop, Wo (biD .tuple [t]) Q = Q (.sh (.tup (ws.map .str))) := fun Q => by
    rcases ht with rfl | rfl
    · exact z_tupleBo _ _
    · exact z_tupleSh _ _
  have hd : t.d = .lst (ws.map .str) := by rcases ht with rfl | rfl <;> rfl
  unfold b_q_part_fits
  walk_at "vc"
  simp only [ha.use, ha.arg]
  walk_at "vc"
  rw [hlst]
  walk_at "vc"
  refine (asked_p n (Wn.bo ws) (fun _ => rfl) hn hl).to ?_
  have hsl : (sortS ws).length < 64 := by rw [hps.length_eq]; exact hl
  rintro r (⟨hall, rfl⟩ | ⟨x, hm, rfl⟩)
  · walk_at "vc"
    simp only [ha.use]
    rw [hd, ne_self_l (sh_strs hok)]
    walk_at "vc"
    unfold b_q_part_fits_4
    walk_at "vc"
    simp only [ha.use, ha.arg]
    walk_at "vc"
    rw [ha.srt hl]
    walk_at "vc"
    refine zl_for (xs := (sortS ws).map D.str) (fun i ε => ∃ y, ε = [some t, some (.bo 1 (DF f)), some (.fr 1 (.lst (ws.map .str))), some (.fr 2 (told (DF (part f (sortS ws))))), y, none, none] ∧ ∀ (l : EG.Env) (P : Prop), nuW (y :: l) P = nuW l P) ⟨none, rfl, fun _ _ => rfl⟩ ?_ ?_
    · rintro i d ε hdd ⟨y, rfl, _⟩
      obtain ⟨x, hx, rfl⟩ := getS_str hdd
      unfold b_q_part_fits_L3
      walk_at "vc"
      simp only [ni_F]
      cases e : look f x with
      | none => exact absurd e (hall x (List.mem_of_getElem? hx))
      | some v =>
        rw [if_neg (by simp)]
        exact ⟨_, rfl, fun _ _ => rfl⟩
    · rintro ε ⟨y, rfl, hy⟩
      unfold b_q_part_fits_2
      walk_at "vc"
      have hp1 : (part f (sortS ws)).map (·.1) = sortS ws := by unfold part; rw [List.map_map]; exact List.map_id _
      have hp2 : ∀ x ∈ ws, ∃ v, look (part f (sortS ws)) x = some v ∧ look f x = some v := fun x hx => by
        have hx' : x ∈ sortS ws := hps.mem_iff.mpr hx
        rw [look_part hx']
        cases e : look f x with
        | none => exact absurd e (hall x hx')
        | some v => exact ⟨v, rfl, rfl⟩
      rw [if_neg (by simp), pa_us2]
      walk_at "vc"
      rw [if_neg (by simp), pa_us2D]
      walk_at "vc"
      simp only [ha.use, ha.arg]
      walk_at "vc"
      refine (is_part_c (n + 1) rfl ha hl hok hp1 hp2).to ?_
      rintro r rfl
      walk_at "vc"
      unfold b_q_part_fits_1
      walk_at "vc"
      refine ⟨by decide, ?_⟩
      rw [sx_DF]
      refine ⟨⟨by decide, by decide, by decide⟩, ?_⟩
      have ht2 : ∀ (l : EG.Env) (P : Prop), nuW (some t :: l) P = nuW l P := fun l P => by rcases ht with rfl | rfl <;> rfl
      rw [ht2]
      walk_at "vc"
      rw [hy]
      walk_at "vc"
      rw [od_DF]
      obtain ⟨t1, e1⟩ := put_any (keysF (part f (sortS ws))) (valsF (part f (sortS ws))) (by simp [keysF, valsF]) (by simp [keysF, part]; omega) (Str.ofString "a") (.int (10 ^ Int.toNat 18))
      rw [e1]
      walk_at "vc"
      simp only [ha.use, ha.arg]
      walk_at "vc"
      rw [htup]
      walk_at "vc"
      refine (asked_p n (Wn.tu ws) (fun _ => rfl) hn hl).to ?_
      rintro r (⟨_, rfl⟩ | ⟨x2, hm2, rfl⟩)
      · walk_at "vc"
        rw [if_pos (by simp), pa_us2]
        walk_at "vc"
        rw [if_pos (by simp), pa_us2D]
        walk_at "vc"
        simp only [ha.use, ha.arg]
        walk_at "vc"
        refine (is_part_c (n + 1) rfl ha hl hok hp1 hp2).to ?_
        rintro r rfl
        walk_at "vc"
      · exact (hm2.not hall).elim
  · walk_at "vc"
    simp only [ha.use]
    rw [hd, ne_self_l (sh_strs hok)]
    walk_at "vc"
    unfold b_q_part_fits_4
    walk_at "vc"
    simp only [ha.use, ha.arg]
    walk_at "vc"
    rw [ha.srt hl]
    walk_at "vc"
    refine zl_for (xs := (sortS ws).map D.str) (fun i ε => (∃ y, ε = [some t, some (.bo 1 (DF f)), some (.fr 1 (.lst (ws.map .str))), some (.fr 1 (miss x)), y, none, none]) ∧ ∀ j z, j < i → (sortS ws)[j]? = some z → look f z ≠ none) ⟨⟨none, rfl⟩, fun j z h => absurd h (Nat.not_lt_zero _)⟩ ?_ ?_
    · rintro i d ε hdd ⟨⟨y, rfl⟩, hj⟩
      obtain ⟨z, hz, rfl⟩ := getS_str hdd
      unfold b_q_part_fits_L3
      walk_at "vc"
      simp only [ni_F]
      cases e : look f z with
      | none =>
        have hzx : z = x := Miss.uniq ⟨i, hz, e, hj⟩ hm
        subst hzx
        have hoz := hok' z (List.mem_of_getElem? hz)
        rw [if_pos (by rfl)]
        walk_at "vc"
        refine ⟨by simp, ?_⟩
        rw [show (D.lst [D.str (Str.ofString "missing"), D.str z]) = miss z from rfl, eq_miss hoz]
        walk_at "vc"
        simp only [ha.use, ha.arg]
        walk_at "vc"
        rw [htup]
        walk_at "vc"
        refine (asked_p n (Wn.tu ws) (fun _ => rfl) hn hl).to ?_
        rintro r (⟨hall, rfl⟩ | ⟨x2, hm2, rfl⟩)
        · exact (hm.not hall).elim
        · have := hm2.uniq hm
          subst this
          refine ⟨by simp, ?_⟩
          show Wo (cmpD .Eq (miss x2) (miss x2)) _
          rw [eq_miss hoz]
          walk_at "vc"
      | some v =>
        rw [if_neg (by simp)]
        refine ⟨⟨_, rfl⟩, fun j w hji e2 => ?_⟩
        by_cases e3 : j = i
        · subst e3; rw [hz] at e2; cases e2; rw [e]; exact fun z => nomatch z
        · exact hj j w (by omega) e2
    · rintro ε ⟨_, hj⟩
      rw [List.length_map] at hj
      exact (hm.not fun z hz => by
        obtain ⟨j, hj1, hj2⟩ := List.getElem_of_mem hz
        exact hj j z hj1 (by rw [List.getElem?_eq_getElem hj1, hj2])).elim
end K03
namespace K03
open PySem L2 EG
theorem look_app (f : Fu) (x y : Str) (v : Int) : look (f ++ [(x, v)]) y = (look f y).or (if y = x then some v else none) := by
  unfold look
  rw [List.find?_append]
  cases f.find? fun p => decide (p.1 = y) with
  | some p => simp
  | none =>
    by_cases h : x = y
    · subst h; simp
    · simp [h, Ne.symm h]
def putF (f : Fu) (x : Str) (v : Int) : Fu := f.map fun p => if p.1 = x then (p.1, v) else p
theorem look_cons (p : Str × Int) (f : Fu) (y : Str) : look (p :: f) y = if p.1 = y then some p.2 else look f y := by
  unfold look
  by_cases h : p.1 = y <;> simp [h]
theorem putF_cons (p : Str × Int) (f : Fu) (x : Str) (v : Int) : putF (p :: f) x v = (if p.1 = x then (p.1, v) else p) :: putF f x v := rfl
theorem look_put : ∀ (f : Fu) (x y : Str) (v : Int), look (putF f x v) y = if y = x then (look f x).map fun _ => v else look f y
  | [], x, y, v => by simp [putF, look]
  | p :: f, x, y, v => by
    have ih := look_put f x y v
    rw [putF_cons, look_cons, look_cons, look_cons, ih]
    by_cases h : p.1 = x
    · subst h
      by_cases h2 : y = p.1
      · subst h2; simp
      · have h3 : ¬ p.1 = y := fun z => h2 z.symm
        simp [h2, h3]
    · by_cases h2 : p.1 = y
      · have h3 : ¬ y = x := fun z => h (h2.trans z)
        simp [h, h2, h3]
      · by_cases h3 : y = x
        · subst h3; simp [h]
        · simp [h, h2, h3]
theorem putAll_F (x : Str) (v : Int) : ∀ f : Fu, putAll (Sum.inr x : Key) (D.int v) (keysF f) (valsF f) = valsF (putF f x v)
  | [] => rfl
  | p :: f => by
    have ih := putAll_F x v f
    unfold keysF valsF putF at ih ⊢
    simp only [List.map_cons, putAll]
    rw [ih]
    by_cases h : p.1 = x
    · simp [h]
    · have h2 : ¬ (Sum.inr p.1 : Key) = Sum.inr x := fun z => h (Sum.inr.inj z)
      simp [h]
theorem keys_put (x : Str) (v : Int) (f : Fu) : keysF (putF f x v) = keysF f := by
  unfold keysF putF
  rw [List.map_map]
  refine List.map_congr_left fun p _ => ?_
  simp only [Function.comp]
  split <;> rfl
/-- a gauge is put into a future -/
theorem put_DF (f : Fu) (x : Str) (v : Int) (hl : f.length < 1000) : ∃ g : Fu, putDc (.k (keysF f)) (valsF f) (.str x) (.int v) = some (DF g) ∧ g.length ≤ f.length + 1 ∧ (∀ y, look g y = if y = x then some v else look f y) ∧ ∀ p ∈ g, p.1 = x ∨ ∃ q ∈ f, q.1 = p.1 := by
  have hk : (Ky.k (keysF f)).length < 100000 := by show (keysF f).length < 100000; simp [keysF]; omega
  cases h : look f x with
  | none =>
    refine ⟨f ++ [(x, v)], ?_, by simp, fun y => ?_, fun p hp => ?_⟩
    · unfold putDc
      rw [at_none h]
      simp only [Option.bind_some]
      rw [if_pos hk]
      simp only [Ky.snoc, asK, Option.map_some, DF, keysF, valsF, List.map_append]
      rfl
    · rw [look_app]
      by_cases e : y = x
      · subst e; simp [h]
      · simp [e]
    · rcases List.mem_append.mp hp with hp | hp
      · exact .inr ⟨p, hp, rfl⟩
      · rw [List.mem_singleton.mp hp]; exact .inl rfl
  | some w =>
    obtain ⟨i, h1, h2⟩ := at_some h
    refine ⟨putF f x v, ?_, by simp [putF], fun y => ?_, fun p hp => ?_⟩
    · unfold putDc
      rw [h1]
      simp only [Option.bind_some]
      rw [if_pos hk]
      simp only [Ky.put, asK, Option.map_some, DF]
      rw [putAll_F, keys_put]
    · rw [look_put, h]; rfl
    · unfold putF at hp
      obtain ⟨q, hq, rfl⟩ := List.mem_map.mp hp
      refine .inr ⟨q, hq, ?_⟩
      split <;> rfl
/-- the nine names -/
structure NL (nms : List Str) : Prop where
  n9 : nms.length = 9
  nm : ∀ (i : Nat) (w : Str), nms[i]? = some w → Nm i w
theorem NL.ok {nms : List Str} (h : NL nms) : ∀ w ∈ nms, PyData.strOk w = true := fun w hw => by
  obtain ⟨i, hi, hw⟩ := List.getElem_of_mem hw
  exact (h.nm i w (by rw [List.getElem?_eq_getElem hi, hw])).ok (by have := h.n9; omega)
theorem get_DF (f : Fu) (a : Vl) (hd : a.d = DF f) (hl : a.low = true) (x : Str) (i : Int) (Q : Vl → Prop) : Wo (dgD a (.sh (.str x)) (.sh (.int i))) Q = Q (.sh (.int ((look f x).getD i))) := by
  have : dgD a (.sh (.str x)) (.sh (.int i)) = some (.sh (.int ((look f x).getD i))) := by
    have e : dgD a (.sh (.str x)) (.sh (.int i)) = ((Ky.k (keysF f)).at (.str x)).bind fun o => match o with
      | some i => ((valsF f)[i]?).map .sh
      | none => some (.sh (.int i)) := by unfold dgD; rw [hd, hl]; rfl
    rw [e]
    cases h : look f x with
    | none => rw [at_none h]; rfl
    | some v => obtain ⟨i, h1, h2⟩ := at_some h; rw [h1]; simp [h2]
  rw [this, z_some]
abbrev P9 : Fns := ⟨callD T mu 9, mu⟩
abbrev Yes : O → Prop := outW (fun r => r = .sh (.bl true)) E0
variable {ns : List Int} {nms : List Str} {f : Fu} {y2 y3 y4 y6 y7 y8 y9 y10 y11 y12 : Option Vl}
theorem law_3 (h : NL nms) : Wo (execsD P9 b_law_3 [some (.sh (.scr ns)), some (.sh (.lst (nms.map .str))), y2, y3, y4, some (.fr 1 (DF f)), y6, y7, y8, y9, y10, y11, y12]) Yes := by
  unfold b_law_3
  walk_at "vc"
  refine zl_for (xs := nms.map D.str) (fun i ε => ∃ y, ε = [some (.sh (.scr ns)), some (.sh (.lst (nms.map .str))), y2, y3, y4, some (.fr 1 (DF f)), y6, y7, y8, y, y10, y11, y12]) ⟨_, rfl⟩ ?_ ?_
  · rintro i d ε hd ⟨y, rfl⟩
    obtain ⟨x, hx, rfl⟩ := getS_str hd
    unfold b_law_L2
    walk_at "vc"
    refine (vfits_s 5 (h.ok x (List.mem_of_getElem? hx))).to ?_
    rintro r rfl
    walk_at "vc"
    exact ⟨_, rfl⟩
  · rintro ε ⟨y, rfl⟩
    unfold b_law_1
    walk_at "vc"

/-- some of the names -/
structure WL (nms ws : List Str) : Prop where
  nd : ws.Nodup
  n : ws.length < 64
  m : ∀ x ∈ ws, x ∈ nms
theorem WL.ok {nms ws : List Str} (h : WL nms ws) (hn : NL nms) : ∀ x ∈ ws, PyData.strOk x = true := fun x hx => hn.ok x (h.m x hx)
theorem law_4 {wn hd : List Str} {g st : Fu} (h : NL nms) (hw : WL nms wn) (hh : WL nms hd) (hg : g.map (·.1) = sortS hd) (hv : ∀ x ∈ hd, ∃ v, look g x = some v ∧ look st x = some v) : Wo (execsD P9 b_law_4 [some (.sh (.scr ns)), some (.sh (.lst (nms.map .str))), y2, y3, y4, some (.fr 1 (DF f)), y6, some (.fr 1 (.lst (wn.map .str))), some (.sh (.lst (hd.map .str))), y9, y10, some (.fr 1 (DF g)), some (.fr 1 (DF st))]) Yes := by
  unfold b_law_4
  walk_at "vc"
  refine (is_part_c 7 rfl (Wn.sh _) hh.n (hh.ok h) hg hv).to ?_
  rintro r rfl
  walk_at "vc"
  refine (part_fits_c 5 (.inl rfl) hw.nd hw.n (hw.ok h)).to ?_
  rintro r rfl
  walk_at "vc"
  exact law_3 h
/-- a slot that is of no matter -/
structure Cl (y : Option Vl) : Prop where
  e : ∀ (l : EG.Env) (P : Prop), nuW (y :: l) P = nuW l P
theorem law_6 (c2 : Cl y2) (c3 : Cl y3) (c4 : Cl y4) (c6 : Cl y6) (c10 : Cl y10) {wn hd : List Str} {g st : Fu} (hl : ns.length ≤ 63) (hf : f.length ≤ 20) (h : NL nms) (hw : WL nms wn) (hh : WL nms hd) (hg : g.map (·.1) = sortS hd) (hv : ∀ x ∈ hd, ∃ v, look g x = some v ∧ look st x = some v) : Wo (execsD P9 b_law_6 [some (.sh (.scr ns)), some (.fr 1 (.lst (nms.map .str))), y2, y3, y4, some (.fr 1 (DF f)), y6, some (.fr 1 (.lst (wn.map .str))), some (.sh (.lst (hd.map .str))), y9, y10, some (.fr 1 (DF g)), some (.fr 1 (DF st))]) Yes := by
  unfold b_law_6
  walk_at "vc"
  refine zl_for (xs := nms.map D.str) (fun i ε => ∃ y f, f.length ≤ 20 + i ∧ ε = [some (.sh (.scr ns)), some (.sh (.lst (nms.map .str))), y2, y3, y4, some (.fr 1 (DF f)), y6, some (.fr 1 (.lst (wn.map .str))), some (.sh (.lst (hd.map .str))), y, y10, some (.fr 1 (DF g)), some (.fr 1 (DF st))]) ⟨_, f, hf, rfl⟩ ?_ ?_
  · rintro i d ε hd ⟨y, f, hf, rfl⟩
    obtain ⟨x, hx, rfl⟩ := getS_str hd
    unfold b_law_L5
    walk_at "vc"
    rw [sx_DF]
    walk_at "vc"
    refine (draw_c 8 hl (by decide) (by decide) (by decide) (by decide)).to ?_
    rintro r ⟨j, rfl, _, _⟩
    walk_at "vc"
    refine ⟨rfl, ?_⟩
    rw [get_DF f _ rfl rfl]
    walk_at "vc"
    simp only [c2.e, c3.e, c4.e, c6.e, c10.e]
    walk_at "vc"
    have hi : i < nms.length := (List.getElem?_eq_some_iff.mp hx).1
    have h9 := h.n9
    obtain ⟨g', e1, e2, _, _⟩ := put_DF f x (1 + j - (look f x).getD 0) (by omega)
    rw [od_DF, e1, z_some]
    simp only [c2.e, c3.e, c4.e, c6.e, c10.e]
    walk_at "vc"
    simp only [c2.e, c3.e, c4.e, c6.e, c10.e]
    walk_at "vc"
    exact ⟨_, g', by omega, rfl⟩
  · rintro ε ⟨y, f, _, rfl⟩
    exact law_4 h hw hh hg hv
theorem part_keys (f : Fu) (xs : List Str) : (part f xs).map (·.1) = xs := by unfold part; rw [List.map_map]; exact List.map_id _
theorem law_8 (c2 : Cl y2) (c3 : Cl y3) (c4 : Cl y4) (c6 : Cl y6) (c10 : Cl y10) {wn hd : List Str} (hl : ns.length ≤ 63) (hf : f.length ≤ 20) (h : NL nms) (hw : WL nms wn) (hh : WL nms hd) (hin : ∀ x ∈ hd, ∃ v, look f x = some v) : Wo (execsD P9 b_law_8 [some (.sh (.scr ns)), some (.fr 1 (.lst (nms.map .str))), y2, y3, y4, some (.fr 1 (DF f)), y6, some (.fr 1 (.lst (wn.map .str))), some (.fr 1 (.lst (hd.map .str))), y9, y10, none, none]) Yes := by
  unfold b_law_8
  walk_at "vc"
  refine (part_of_c 7 (Wn.bo _) hh.nd hh.n).toE ?_ ?_
  · rintro r ⟨hall, rfl⟩
    walk_at "vc"
    refine zl_for (xs := hd.map D.str) (fun i ε => ∃ y st, st.length ≤ i ∧ (∀ j x, j < i → hd[j]? = some x → look st x = look f x) ∧ ε = [some (.sh (.scr ns)), some (.fr 1 (.lst (nms.map .str))), y2, y3, y4, some (.fr 1 (DF f)), y6, some (.fr 1 (.lst (wn.map .str))), some (.sh (.lst (hd.map .str))), y, y10, some (.fr 1 (DF (part f (sortS hd)))), some (.fr 1 (DF st))]) ⟨_, [], Nat.le_refl _, fun j x hj => absurd hj (Nat.not_lt_zero _), rfl⟩ ?_ ?_
    · rintro i d ε hd ⟨y, st, n, hst, rfl⟩
      obtain ⟨x, hx, rfl⟩ := getS_str hd
      obtain ⟨v, hv⟩ := hin x (List.mem_of_getElem? hx)
      have hi := (List.getElem?_eq_some_iff.mp hx).1
      have := hh.n
      unfold b_law_L7
      walk_at "vc"
      rw [sx_DF]
      walk_at "vc"
      rw [ix_F hv _ rfl]
      walk_at "vc"
      simp only [c2.e, c3.e, c4.e, c6.e, c10.e]
      walk_at "vc"
      obtain ⟨g', e1, e2, e3, _⟩ := put_DF st x v (by omega)
      rw [od_DF, e1, z_some]
      simp only [c2.e, c3.e, c4.e, c6.e, c10.e]
      walk_at "vc"
      simp only [c2.e, c3.e, c4.e, c6.e, c10.e]
      walk_at "vc"
      refine ⟨_, g', by omega, fun j z hj hz => ?_, rfl⟩
      rw [e3]
      split
      · next e => rw [e, hv]
      · next e =>
        by_cases e4 : j = i
        · subst e4; rw [hx] at hz; cases hz; exact absurd rfl e
        · exact hst j z (by omega) hz
    · rintro ε ⟨y, st, _, hst, rfl⟩
      rw [List.length_map] at hst
      refine law_6 c2 c3 c4 c6 c10 hl hf h hw hh (part_keys _ _) fun x hx => ?_
      obtain ⟨v, hv⟩ := hin x hx
      obtain ⟨j, hj1, hj2⟩ := List.getElem_of_mem hx
      refine ⟨v, by rw [look_part ((sortS_perm hd).mem_iff.mpr hx), hv]; rfl, ?_⟩
      rw [hst j x hj1 (by rw [List.getElem?_eq_getElem hj1, hj2]), hv]
  · rintro c e1 e2 ⟨x, hm, _⟩
    exact (hm.not fun x hx => by
      obtain ⟨v, hv⟩ := hin x ((sortS_perm hd).mem_iff.mp hx)
      rw [hv]; exact fun z => nomatch z).elim

theorem law_9 (c2 : Cl y2) (c3 : Cl y3) (c4 : Cl y4) (c10 : Cl y10) {wn hd : List Str} (hl : ns.length ≤ 63) (hf : f.length ≤ 20) (h : NL nms) (hw : WL nms wn) (hh : WL nms hd) (hin : ∀ x ∈ hd, ∃ v, look f x = some v) (hk : ∀ p ∈ f, PyData.strOk p.1 = true) : Wo (execsD P9 b_law_9 [some (.sh (.scr ns)), some (.fr 1 (.lst (nms.map .str))), y2, y3, y4, some (.fr 1 (DF f)), some (.fr 1 (.lst (((keysF f).zip (valsF f)).map fun p => .tup [keyD p.1, p.2]))), some (.fr 1 (.lst (wn.map .str))), some (.fr 1 (.lst (hd.map .str))), y9, y10, none, none]) Yes := by
  unfold b_law_9
  walk_at "vc"
  rw [show DF f = .dct (.k (keysF f)) (valsF f) from rfl]
  walk_at "vc"
  rw [ne_self_l (Sh.lst (k := 63) fun d hd => ?_)]
  · walk_at "vc"
    exact law_8 c2 c3 c4 ⟨fun _ _ => rfl⟩ c10 hl hf h hw hh hin
  · unfold keysF valsF at hd
    rw [List.zip_map', List.map_map] at hd
    obtain ⟨p, hp, rfl⟩ := List.mem_map.mp hd
    refine Sh.tup (k := 62) fun d hd => ?_
    simp only [List.mem_cons, List.not_mem_nil, or_false] at hd
    rcases hd with rfl | rfl
    · exact sh_str (hk p hp)
    · exact Sh.int _
theorem law_10 (c2 : Cl y2) (c3 : Cl y3) (c4 : Cl y4) (c10 : Cl y10) {wn hd : List Str} (hl : ns.length ≤ 63) (hf : f.length ≤ 20) (h : NL nms) (hw : WL nms wn) (hh : WL nms hd) (hin : ∀ x ∈ hd, ∃ v, look f x = some v) (hk : ∀ p ∈ f, PyData.strOk p.1 = true) : Wo (execsD P9 b_law_10 [some (.sh (.scr ns)), some (.fr 1 (.lst (nms.map .str))), y2, y3, y4, some (.fr 1 (DF f)), some (.fr 1 (.lst (((keysF f).zip (valsF f)).map fun p => .tup [keyD p.1, p.2]))), some (.fr 1 (.lst (wn.map .str))), some (.fr 1 (.lst (hd.map .str))), y9, y10, none, none]) Yes := by
  unfold b_law_10
  walk_at "vc"
  refine (part_fits_c 5 (.inl rfl) hw.nd hw.n (hw.ok h)).to ?_
  rintro r rfl
  walk_at "vc"
  refine (part_fits_c 5 (.inl rfl) hh.nd hh.n (hh.ok h)).to ?_
  rintro r rfl
  walk_at "vc"
  refine ⟨by simp, (part_fits_c 5 (ws := []) (.inr rfl) List.nodup_nil (by decide) (fun x hx => nomatch hx)).to ?_⟩
  rintro r rfl
  walk_at "vc"
  exact law_9 c2 c3 c4 c10 hl hf h hw hh hin hk

theorem nd_len {α : Type} [BEq α] [LawfulBEq α] : ∀ (L ys : List α), L.Nodup → (∀ x ∈ L, x ∈ ys) → L.length ≤ ys.length
  | [], _, _, _ => Nat.zero_le _
  | x :: L, ys, hn, h => by
    have h1 := List.nodup_cons.mp hn
    have hx := h x List.mem_cons_self
    have := nd_len L (ys.erase x) h1.2 fun y hy => (List.mem_erase_of_ne (fun e => by subst e; exact h1.1 hy)).mpr (h y (List.mem_cons_of_mem _ hy))
    rw [List.length_erase_of_mem hx] at this
    have := List.length_pos_of_mem hx
    simp only [List.length_cons]
    omega
theorem ord_len {L : List Int} (hn : L.Nodup) (h : ∀ x ∈ L, 0 ≤ x ∧ x < 9) : L.length ≤ 9 := by
  have := nd_len L [0, 1, 2, 3, 4, 5, 6, 7, 8] hn fun x hx => by
    have := h x hx
    have : x = 0 ∨ x = 1 ∨ x = 2 ∨ x = 3 ∨ x = 4 ∨ x = 5 ∨ x = 6 ∨ x = 7 ∨ x = 8 := by omega
    simpa using this
  simpa using this
/-- names picked at places that differ -/
theorem pick {nms : List Str} (h : NL nms) : ∀ (L : List Int) (os : List (Option D)), os.length = L.length → L.Nodup → (∀ (i : Nat) (k : Int) (o : Option D), L[i]? = some k → os[i]? = some o → o = none ∨ ∃ w, 0 ≤ k ∧ nms[k.toNat]? = some w ∧ o = some (.str w)) → ∃ ws : List Str, os.filterMap id = ws.map .str ∧ ws.Nodup ∧ ws.length ≤ L.length ∧ ∀ w ∈ ws, ∃ k ∈ L, 0 ≤ k ∧ nms[k.toNat]? = some w
  | [], [], _, _, _ => ⟨[], rfl, List.nodup_nil, Nat.le_refl _, fun w hw => nomatch hw⟩
  | [], _ :: _, hl, _, _ => nomatch hl
  | _ :: _, [], hl, _, _ => nomatch hl
  | k :: L, o :: os, hl, hn, H => by
    have hn' := List.nodup_cons.mp hn
    obtain ⟨ws, h1, h2, h3, h4⟩ := pick h L os (by simpa using hl) hn'.2 fun i k o a b => H (i + 1) k o (by simpa using a) (by simpa using b)
    have up : ∀ w ∈ ws, ∃ k' ∈ k :: L, 0 ≤ k' ∧ nms[k'.toNat]? = some w := fun w hw => by
      obtain ⟨j, a, b⟩ := h4 w hw
      exact ⟨j, List.mem_cons_of_mem _ a, b⟩
    rcases H 0 k o rfl rfl with rfl | ⟨w, k0, hk, rfl⟩
    · exact ⟨ws, by simpa using h1, h2, by simp only [List.length_cons]; omega, up⟩
    · refine ⟨w :: ws, by simp [h1], List.nodup_cons.mpr ⟨fun hw => ?_, h2⟩, by simp only [List.length_cons]; omega, fun v hv => ?_⟩
      · obtain ⟨j, j1, j2, j3⟩ := h4 w hw
        have e1 := h.nm _ _ hk
        have e2 := h.nm _ _ j3
        have hlt := (List.getElem?_eq_some_iff.mp hk).1
        have := e1.inj e2 (by have := h.n9; omega)
        have : k = j := by omega
        subst this
        exact hn'.1 j1
      · rcases List.mem_cons.mp hv with rfl | hv
        · exact ⟨k, List.mem_cons_self, k0, hk⟩
        · exact up v hv
theorem filt {p : Str → Bool} {g : D → Option D} (hg : ∀ x, g (.str x) = if p x = true then some (.str x) else none) : ∀ ws : List Str, (ws.map D.str).filterMap g = (ws.filter p).map .str
  | [] => rfl
  | w :: ws => by
    have := filt hg ws
    by_cases h : p w = true
    · simp [hg, h, this]
    · simp [hg, h, this]
/-- the readings that are asked for -/
theorem law_12 (c2 : Cl y2) (c3 : Cl y3) (c4 : Cl y4) (hl : ns.length ≤ 63) (hf : f.length ≤ 20) (h : NL nms) (hk : ∀ p ∈ f, PyData.strOk p.1 = true) : Wo (execsD P9 b_law_12 [some (.sh (.scr ns)), some (.fr 1 (.lst (nms.map .str))), y2, y3, y4, some (.fr 1 (DF f)), none, none, none, none, none, none, none]) Yes := by
  unfold b_law_12
  walk_at "vc"
  rw [show DF f = .dct (.k (keysF f)) (valsF f) from rfl]
  walk_at "vc"
  rw [show D.dct (.k (keysF f)) (valsF f) = DF f from rfl]
  refine (order_c 7 hl (by decide) (by decide) (by decide)).to ?_
  rintro r ⟨L, rfl, nd, bd⟩
  have hL := ord_len nd bd
  walk_at "vc"
  refine ⟨by simp only [List.length_map]; omega, ?_⟩
  refine Wo.mono (zc_rel (R := fun d o => ∃ k : Int, d = .int k ∧ (o = none ∨ ∃ w, 0 ≤ k ∧ nms[k.toNat]? = some w ∧ o = some (.str w))) ?_) ?_
  · intro d hd
    obtain ⟨k, hk, rfl⟩ := List.mem_map.mp hd
    obtain ⟨k0, k9⟩ := bd k hk
    walk_at "vc"
    refine (draw_c 8 hl (by decide) k0 (by omega) (by decide)).to ?_
    rintro r ⟨j, rfl, _, _⟩
    walk_at "vc"
    have hkn : k.toNat < nms.length := by have := h.n9; omega
    refine if_of (fun _ => ?_) fun _ => ⟨k, rfl, .inl trivial⟩
    have e : atI (nms.map D.str) k = some (.str nms[k.toNat]) := by
      obtain ⟨q, rfl⟩ := Int.eq_ofNat_of_zero_le k0
      exact atI_nat (by simp [List.getElem?_eq_getElem hkn])
    rw [e]
    walk_at "vc"
    exact ⟨k, rfl, .inr ⟨_, k0, List.getElem?_eq_getElem hkn, rfl⟩⟩
  rintro ys ⟨os, o1, o2, rfl⟩
  rw [List.length_map] at o1
  obtain ⟨wn, e1, wnd, wl, wm⟩ := pick h L os o1 nd fun i k o a b => by
    obtain ⟨k', e, R⟩ := o2 i _ o (by rw [List.getElem?_map, a]; rfl) b
    cases e
    exact R
  rw [e1]
  have hw : WL nms wn := ⟨wnd, by omega, fun x hx => by obtain ⟨k, _, _, e⟩ := wm x hx; exact List.mem_of_getElem? e⟩
  walk_at "vc"
  refine ⟨by simp only [List.length_map]; omega, ?_⟩
  refine Wo.of (zc_fun (g := fun d => match d with | .str x => (if (look f x).isSome = true then some d else none) | _ => none) fun d hd => Wo.eq ?_) ?_
  · obtain ⟨x, hx, rfl⟩ := List.mem_map.mp hd
    walk_at "vc"
    simp only [in_F]
    by_cases e : (look f x).isSome = true
    · rw [if_pos e]
      walk_at "vc"
      rw [if_pos e]
    · rw [if_neg e, if_neg e]
  rw [filt (p := fun x => (look f x).isSome) fun x => rfl]
  have hh : WL nms (wn.filter fun x => (look f x).isSome) := ⟨wnd.filter _, Nat.lt_of_le_of_lt (List.length_filter_le _ _) hw.n, fun x hx => hw.m x (List.mem_filter.mp hx).1⟩
  have hin : ∀ x ∈ wn.filter fun x => (look f x).isSome, ∃ v, look f x = some v := fun x hx => Option.isSome_iff_exists.mp (List.mem_filter.mp hx).2
  generalize (wn.filter fun x => (look f x).isSome) = held at hh hin
  walk_at "vc"
  refine ⟨by decide, (value_c 7 hl (by decide) (by decide) (by decide)).to ?_⟩
  rintro r ⟨v, rfl⟩
  walk_at "vc"
  refine ⟨by simp, ?_⟩
  rw [if_pos trivial]
  have h9 := h.n9
  refine ⟨by simp only [List.length_map, List.length_cons, List.length_nil]; omega, ?_⟩
  refine zl_for (xs := nms.map D.str ++ [D.int 0, D.int (0 - 7), D.int (10 ^ Int.toNat 18), D.int v]) (fun i ε => ∃ y, Cl y ∧ ε = [some (.sh (.scr ns)), some (.fr 1 (.lst (nms.map .str))), y2, y3, y4, some (.fr 1 (DF f)), some (.fr 1 (.lst (((keysF f).zip (valsF f)).map fun p => .tup [keyD p.1, p.2]))), some (.fr 1 (.lst (wn.map .str))), some (.fr 1 (.lst (held.map .str))), none, y, none, none]) ⟨none, ⟨fun _ _ => rfl⟩, rfl⟩ ?_ ?_
  · rintro i d ε hd ⟨y, _, rfl⟩
    have hd := List.mem_of_getElem? hd
    rcases List.mem_append.mp hd with hd | hd
    · obtain ⟨x, hx, rfl⟩ := List.mem_map.mp hd
      unfold b_law_L11
      walk_at "vc"
      refine (vfits_s 5 (h.ok x hx)).to ?_
      rintro r rfl
      walk_at "vc"
      exact ⟨_, ⟨fun _ _ => rfl⟩, rfl⟩
    · have : ∃ j : Int, d = .int j := by
        simp only [List.mem_cons, List.not_mem_nil, or_false] at hd
        rcases hd with rfl | rfl | rfl | rfl <;> exact ⟨_, rfl⟩
      obtain ⟨j, rfl⟩ := this
      unfold b_law_L11
      walk_at "vc"
      refine (vfits_i 5).to ?_
      rintro r rfl
      walk_at "vc"
      exact ⟨_, ⟨fun _ _ => rfl⟩, rfl⟩
  · rintro ε ⟨y, cy, rfl⟩
    exact law_10 c2 c3 c4 cy hl hf h hw hh hin hk
theorem law_14 (c2 : Cl y2) (c3 : Cl y3) (c4 : Cl y4) (hl : ns.length ≤ 63) (h : NL nms) : Wo (execsD P9 b_law_14 [some (.sh (.scr ns)), some (.fr 1 (.lst (nms.map .str))), y2, y3, y4, none, none, none, none, none, none, none, none]) Yes := by
  unfold b_law_14
  walk_at "vc"
  refine (order_c 7 hl (by decide) (by decide) (by decide)).to ?_
  rintro r ⟨L, rfl, nd, bd⟩
  have hL := ord_len nd bd
  have h9 := h.n9
  walk_at "vc"
  refine zl_for (xs := L.map D.int) (fun i ε => ∃ y f, Cl y ∧ f.length ≤ i ∧ (∀ p ∈ f, PyData.strOk p.1 = true) ∧ ε = [some (.sh (.scr ns)), some (.fr 1 (.lst (nms.map .str))), y, y3, y4, some (.fr 1 (DF f)), none, none, none, none, none, none, none]) ⟨_, [], c2, Nat.le_refl _, fun p hp => (nomatch hp), rfl⟩ ?_ ?_
  · rintro i d ε hd ⟨y, f, _, hf, ok, rfl⟩
    have hi := (List.getElem?_eq_some_iff.mp hd).1
    rw [List.length_map] at hi
    obtain ⟨k, hk, rfl⟩ := List.mem_map.mp (List.mem_of_getElem? hd)
    obtain ⟨k0, k9⟩ := bd k hk
    unfold b_law_L13
    walk_at "vc"
    refine (draw_c 8 hl (by decide) k0 (by omega) (by decide)).to ?_
    rintro r ⟨j, rfl, _, _⟩
    walk_at "vc"
    refine if_of (fun _ => ?_) fun _ => ⟨_, f, ⟨fun _ _ => rfl⟩, by omega, ok, rfl⟩
    rw [sx_DF]
    refine ⟨mulL (by decide) (by decide), (value_c 7 (p := 5) (s := 2 * k) hl (by decide) (by omega) (by omega)).to ?_⟩
    rintro r ⟨v, rfl⟩
    walk_at "vc"
    simp only [c3.e, c4.e]
    walk_at "vc"
    have hkn : k.toNat < nms.length := by omega
    have e : atI (nms.map D.str) k = some (.str nms[k.toNat]) := by
      obtain ⟨q, rfl⟩ := Int.eq_ofNat_of_zero_le k0
      exact atI_nat (by simp [List.getElem?_eq_getElem hkn])
    rw [od_DF, e]
    walk_at "vc"
    obtain ⟨g', e1, e2, _, e4⟩ := put_DF f nms[k.toNat] v (by omega)
    rw [e1, z_some]
    exact ⟨_, g', ⟨fun _ _ => rfl⟩, by omega, fun p hp => (e4 p hp).elim (fun e => e ▸ h.ok _ (List.getElem_mem hkn)) fun ⟨q, hq, e⟩ => e ▸ ok q hq, rfl⟩
  · rintro ε ⟨y, f, cy, hf, ok, rfl⟩
    rw [List.length_map] at hf
    exact law_12 cy c3 c4 hl (by omega) h ok
theorem strs_of : ∀ {ys : List D} (k : Nat), (∀ (i : Nat) (y : D), ys[i]? = some y → ∃ w, y = .str w ∧ Nm (k + i) w) → ∃ ws : List Str, ys = ws.map .str ∧ ∀ (i : Nat) (w : Str), ws[i]? = some w → Nm (k + i) w
  | [], _, _ => ⟨[], rfl, fun i w h => by simp at h⟩
  | y :: ys, k, h => by
    obtain ⟨w, rfl, hw⟩ := h 0 y rfl
    obtain ⟨ws, rfl, h2⟩ := strs_of (ys := ys) (k + 1) fun i y hy => by
      have := h (i + 1) y (by simpa using hy)
      rwa [show k + 1 + i = k + (i + 1) by omega]
    refine ⟨w :: ws, rfl, fun i v hv => ?_⟩
    cases i with
    | zero => cases hv; exact hw
    | succ i =>
      have := h2 i v (by simpa using hv)
      rwa [show k + 1 + i = k + (i + 1) by omega] at this
theorem main (ns : List Int) (hl : ns.length ≤ 63) : callD (tab.map Ent.df) mu 10 15 [.sh (.scr ns)] = some (.ok (.sh (.bl true))) := by
  have key : Wr (callD T mu (9 + 1) 15 [.sh (.scr ns)]) (fun r => r = .sh (.bl true)) E0 := by
    rw [r_law]
    refine run_of rfl ?_
    show Wo (execsD _ b_law [some (.sh (.scr ns)), none, none, none, none, none, none, none, none, none, none, none, none]) _
    unfold b_law
    walk_at "vc"
    refine ⟨by decide, by decide, ?_⟩
    refine Wo.mono (zc_all (P := fun i _ y => ∃ w, y = .str w ∧ Nm i w) 0 ?_) ?_
    · intro i d hd
      obtain ⟨rfl, hi⟩ := rangeD_get hd
      walk_at "vc"
      rw [show (0 : Int) + (i : Int) = (i : Int) by omega]
      refine ⟨mulL (by decide) (by decide), (name_c 7 (p := 2) (s := 4 * (i : Int)) (k := i) hl (by decide) (by omega) (by omega) (by omega)).to ?_⟩
      rintro r ⟨w, rfl, hw⟩
      walk_at "vc"
      exact ⟨_, rfl, w, rfl, by simpa using hw⟩
    · rintro ys ⟨y1, y2⟩
      rw [rangeD_length] at y1
      obtain ⟨nms, rfl, hn⟩ := strs_of 0 fun i y hy => y2 i _ y (List.getElem?_eq_getElem (by have := (List.getElem?_eq_some_iff.mp hy).1; rw [rangeD_length]; omega)) hy
      have h : NL nms := ⟨by rw [List.length_map] at y1; omega, fun i w hw => by simpa using hn i w hw⟩
      have h9 := h.n9
      have h0 : 0 < nms.length := by omega
      walk_at "vc"
      have e : atI (nms.map D.str) 0 = some (.str nms[0]) := atI_nat (j := 0) (by simp [List.getElem?_eq_getElem h0])
      rw [e]
      walk_at "vc"
      have hlen := (h.nm 0 nms[0] (List.getElem?_eq_getElem h0)).len
      refine (words_c 6 hl (by omega) (by omega)).to ?_
      rintro r ⟨ws, rfl, hws⟩
      walk_at "vc"
      refine zl_for (xs := ws.map D.str) (fun i ε => ∃ y3 y4, Cl y3 ∧ Cl y4 ∧ ε = [some (.sh (.scr ns)), some (.fr 1 (.lst (nms.map .str))), none, y3, y4, none, none, none, none, none, none, none, none]) ⟨none, none, ⟨fun _ _ => rfl⟩, ⟨fun _ _ => rfl⟩, rfl⟩ ?_ ?_
      · rintro i d ε hd ⟨y3, y4, _, _, rfl⟩
        obtain ⟨x, hx, rfl⟩ := getS_str hd
        have hl2 := hws x (List.mem_of_getElem? hx)
        unfold b_law_L15
        walk_at "vc"
        refine (gauge_c 8 (w := x) (by omega)).to ?_
        rintro r rfl
        walk_at "vc"
        refine (good_c 8 (w := x) (by omega)).to ?_
        rintro r rfl
        walk_at "vc"
        rw [if_neg (by simp)]
        exact ⟨_, _, ⟨fun _ _ => rfl⟩, ⟨fun _ _ => rfl⟩, rfl⟩
      · rintro ε ⟨y3, y4, c3, c4, rfl⟩
        exact law_14 ⟨fun _ _ => rfl⟩ c3 c4 hl h
  obtain ⟨r, h1, h2⟩ := key
  cases r with
  | ok a => exact h1.trans (by rw [h2])
  | er c a b => exact h2.elim
end K03
namespace K03
open PySem L2 L2H EG
theorem all_mk {l : PySem.W.OpenLaw} {w : World} {K : PySem.W.Frag} {h : Heap} {mg : Str → Option Value} {fa : Addr} (X : K.In h) (G : h.Ns mainGlobals mg) (hfa : mg "law" = some (.ref fa))
    {f0 : Addr} {od0 an0 : Option Addr} {sl0 : Array (Option Value)} {oc0 kV0 dc0 pm0 cd0 ct0 : Value}
    {f1 : Addr} {od1 an1 : Option Addr} {sl1 : Array (Option Value)} {oc1 kV1 dc1 pm1 cd1 ct1 : Value}
    {f2 : Addr} {od2 an2 : Option Addr} {sl2 : Array (Option Value)} {oc2 kV2 dc2 pm2 cd2 ct2 : Value}
    {f3 : Addr} {od3 an3 : Option Addr} {sl3 : Array (Option Value)} {oc3 kV3 dc3 pm3 cd3 ct3 : Value}
    {f4 : Addr} {od4 an4 : Option Addr} {sl4 : Array (Option Value)} {oc4 kV4 dc4 pm4 cd4 ct4 : Value}
    {f5 : Addr} {od5 an5 : Option Addr} {sl5 : Array (Option Value)} {oc5 kV5 dc5 pm5 cd5 ct5 : Value}
    {f6 : Addr} {od6 an6 : Option Addr} {sl6 : Array (Option Value)} {oc6 kV6 dc6 pm6 cd6 ct6 : Value}
    {f7 : Addr} {od7 an7 : Option Addr} {sl7 : Array (Option Value)} {oc7 kV7 dc7 pm7 cd7 ct7 : Value}
    {f8 : Addr} {od8 an8 : Option Addr} {sl8 : Array (Option Value)} {oc8 kV8 dc8 pm8 cd8 ct8 : Value}
    {f9 : Addr} {od9 an9 : Option Addr} {sl9 : Array (Option Value)} {oc9 kV9 dc9 pm9 cd9 ct9 : Value}
    {f10 : Addr} {od10 an10 : Option Addr} {sl10 : Array (Option Value)} {oc10 kV10 dc10 pm10 cd10 ct10 : Value}
    {f11 : Addr} {od11 an11 : Option Addr} {sl11 : Array (Option Value)} {oc11 kV11 dc11 pm11 cd11 ct11 : Value}
    {f12 : Addr} {od12 an12 : Option Addr} {sl12 : Array (Option Value)} {oc12 kV12 dc12 pm12 cd12 ct12 : Value}
    {f13 : Addr} {od13 an13 : Option Addr} {sl13 : Array (Option Value)} {oc13 kV13 dc13 pm13 cd13 ct13 : Value}
    {f14 : Addr} {od14 an14 : Option Addr} {sl14 : Array (Option Value)} {oc14 kV14 dc14 pm14 cd14 ct14 : Value}
    {f15 : Addr} {od15 an15 : Option Addr} {sl15 : Array (Option Value)} {oc15 kV15 dc15 pm15 cd15 ct15 : Value}
    {C0 : Addr}
    {C1 : Addr}
    {C2 : Addr}
    {C3 : Addr}
    {C4 : Addr}
    {C5 : Addr}
    {C6 : Addr}
    {J1 ca1 cc1 N1 : Addr} {nm1 q1 fi1 : Str} {bs1 : List Value} {sn1 : List Str} {su1 : List Value} {ab1 : Bool} {co1 : Option Bool} {dd1 : Option Addr} {ma1 mb1 mc1 md1 me1 : Option Value} {oc_1 dc_1 pm_1 ct_1 cl_1 cv_1 : Value} {od_1 cdd1 cld1 : Option Addr} {osl1 ccs1 csl1 : Array (Option Value)} {vs1 : Array Value} {tf1 : Tok}
    {J2 ca2 cc2 N2 : Addr} {nm2 q2 fi2 : Str} {bs2 : List Value} {sn2 : List Str} {su2 : List Value} {ab2 : Bool} {co2 : Option Bool} {dd2 : Option Addr} {ma2 mb2 mc2 md2 me2 : Option Value} {oc_2 dc_2 pm_2 ct_2 cl_2 cv_2 : Value} {od_2 cdd2 cld2 : Option Addr} {osl2 ccs2 csl2 : Array (Option Value)} {vs2 : Array Value} {tf2 : Tok}
    {J3 ca3 cc3 N3 : Addr} {nm3 q3 fi3 : Str} {bs3 : List Value} {sn3 : List Str} {su3 : List Value} {ab3 : Bool} {co3 : Option Bool} {dd3 : Option Addr} {ma3 mb3 mc3 md3 me3 : Option Value} {oc_3 dc_3 pm_3 ct_3 cl_3 cv_3 : Value} {od_3 cdd3 cld3 : Option Addr} {osl3 ccs3 csl3 : Array (Option Value)} {vs3 : Array Value} {tf3 : Tok}
    {J4 ca4 cc4 N4 : Addr} {nm4 q4 fi4 : Str} {bs4 : List Value} {sn4 : List Str} {su4 : List Value} {ab4 : Bool} {co4 : Option Bool} {dd4 : Option Addr} {ma4 mb4 mc4 md4 me4 : Option Value} {oc_4 dc_4 pm_4 ct_4 cl_4 cv_4 : Value} {od_4 cdd4 cld4 : Option Addr} {osl4 ccs4 csl4 : Array (Option Value)} {vs4 : Array Value} {tf4 : Tok}
    {J5 ca5 cc5 N5 : Addr} {nm5 q5 fi5 : Str} {bs5 : List Value} {sn5 : List Str} {su5 : List Value} {ab5 : Bool} {co5 : Option Bool} {dd5 : Option Addr} {ma5 mb5 mc5 md5 me5 : Option Value} {oc_5 dc_5 pm_5 ct_5 cl_5 cv_5 : Value} {od_5 cdd5 cld5 : Option Addr} {osl5 ccs5 csl5 : Array (Option Value)} {vs5 : Array Value} {tf5 : Tok}
    {J6 ca6 cc6 N6 : Addr} {nm6 q6 fi6 : Str} {bs6 : List Value} {sn6 : List Str} {su6 : List Value} {ab6 : Bool} {co6 : Option Bool} {dd6 : Option Addr} {ma6 mb6 mc6 md6 me6 : Option Value} {oc_6 dc_6 pm_6 ct_6 cl_6 cv_6 : Value} {od_6 cdd6 cld6 : Option Addr} {osl6 ccs6 csl6 : Array (Option Value)} {vs6 : Array Value} {tf6 : Tok}
    {gt0 : Tok}
    {gt1 : Tok}
    (aC0 : PySem.W.nsIn K mainGlobals "FutureError" = some (some (.ref C0)))
    (aC1 : PySem.W.nsIn K mainGlobals "InvalidGauge" = some (some (.ref C1)))
    (aC2 : PySem.W.nsIn K mainGlobals "OtherGauges" = some (some (.ref C2)))
    (aC3 : PySem.W.nsIn K mainGlobals "SharedGauge" = some (some (.ref C3)))
    (aC4 : PySem.W.nsIn K mainGlobals "MissingGauge" = some (some (.ref C4)))
    (aC5 : PySem.W.nsIn K mainGlobals "OutOfRange" = some (some (.ref C5)))
    (aC6 : PySem.W.nsIn K mainGlobals "InvalidSign" = some (some (.ref C6)))
    (a0 : PySem.W.nsIn K mainGlobals "is_gauge" = some (some (.ref f0)))
    (a1 : PySem.W.nsIn K mainGlobals "value_of" = some (some (.ref f1)))
    (a2 : PySem.W.nsIn K mainGlobals "part_of" = some (some (.ref f2)))
    (a3 : PySem.W.nsIn K mainGlobals "_law_draw" = some (some (.ref f3)))
    (a4 : PySem.W.nsIn K mainGlobals "_law_name" = some (some (.ref f4)))
    (a5 : PySem.W.nsIn K mainGlobals "_law_is_integer" = some (some (.ref f5)))
    (a6 : PySem.W.nsIn K mainGlobals "_law_order" = some (some (.ref f6)))
    (a7 : PySem.W.nsIn K mainGlobals "_law_good" = some (some (.ref f7)))
    (a8 : PySem.W.nsIn K mainGlobals "_law_odd" = some (some (.ref f8)))
    (a9 : PySem.W.nsIn K mainGlobals "_law_words" = some (some (.ref f9)))
    (a10 : PySem.W.nsIn K mainGlobals "_law_value" = some (some (.ref f10)))
    (a11 : PySem.W.nsIn K mainGlobals "_law_asked" = some (some (.ref f11)))
    (a12 : PySem.W.nsIn K mainGlobals "_law_value_fits" = some (some (.ref f12)))
    (a13 : PySem.W.nsIn K mainGlobals "_law_is_part" = some (some (.ref f13)))
    (a14 : PySem.W.nsIn K mainGlobals "_law_part_fits" = some (some (.ref f14)))
    (a15 : PySem.W.nsIn K mainGlobals "law" = some (some (.ref f15)))
    (l0 : K.lookup f0 = some ⟨oc0, od0, .func (PySem.W.fnOf "is_gauge" "is_gauge" (defArgs (topS 11)) (defBody (topS 11)) (defScope (topS 11)) .none kV0 dc0 pm0 an0 cd0 ct0), sl0⟩)
    (c0 : PySem.W.codeIn K cd0 "is_gauge" = true)
    (k0 : PySem.W.keepIn K (.ref f0) = true)
    (l1 : K.lookup f1 = some ⟨oc1, od1, .func (PySem.W.fnOf "value_of" "value_of" (defArgs (topS 12)) (defBody (topS 12)) (defScope (topS 12)) .none kV1 dc1 pm1 an1 cd1 ct1), sl1⟩)
    (c1 : PySem.W.codeIn K cd1 "value_of" = true)
    (k1 : PySem.W.keepIn K (.ref f1) = true)
    (l2 : K.lookup f2 = some ⟨oc2, od2, .func (PySem.W.fnOf "part_of" "part_of" (defArgs (topS 13)) (defBody (topS 13)) (defScope (topS 13)) .none kV2 dc2 pm2 an2 cd2 ct2), sl2⟩)
    (c2 : PySem.W.codeIn K cd2 "part_of" = true)
    (k2 : PySem.W.keepIn K (.ref f2) = true)
    (l3 : K.lookup f3 = some ⟨oc3, od3, .func (PySem.W.fnOf "_law_draw" "_law_draw" (defArgs (topS 15)) (defBody (topS 15)) (defScope (topS 15)) .none kV3 dc3 pm3 an3 cd3 ct3), sl3⟩)
    (c3 : PySem.W.codeIn K cd3 "_law_draw" = true)
    (k3 : PySem.W.keepIn K (.ref f3) = true)
    (l4 : K.lookup f4 = some ⟨oc4, od4, .func (PySem.W.fnOf "_law_name" "_law_name" (defArgs (topS 16)) (defBody (topS 16)) (defScope (topS 16)) .none kV4 dc4 pm4 an4 cd4 ct4), sl4⟩)
    (c4 : PySem.W.codeIn K cd4 "_law_name" = true)
    (k4 : PySem.W.keepIn K (.ref f4) = true)
    (l5 : K.lookup f5 = some ⟨oc5, od5, .func (PySem.W.fnOf "_law_is_integer" "_law_is_integer" (defArgs (topS 17)) (defBody (topS 17)) (defScope (topS 17)) .none kV5 dc5 pm5 an5 cd5 ct5), sl5⟩)
    (c5 : PySem.W.codeIn K cd5 "_law_is_integer" = true)
    (k5 : PySem.W.keepIn K (.ref f5) = true)
    (l6 : K.lookup f6 = some ⟨oc6, od6, .func (PySem.W.fnOf "_law_order" "_law_order" (defArgs (topS 18)) (defBody (topS 18)) (defScope (topS 18)) .none kV6 dc6 pm6 an6 cd6 ct6), sl6⟩)
    (c6 : PySem.W.codeIn K cd6 "_law_order" = true)
    (k6 : PySem.W.keepIn K (.ref f6) = true)
    (l7 : K.lookup f7 = some ⟨oc7, od7, .func (PySem.W.fnOf "_law_good" "_law_good" (defArgs (topS 19)) (defBody (topS 19)) (defScope (topS 19)) .none kV7 dc7 pm7 an7 cd7 ct7), sl7⟩)
    (c7 : PySem.W.codeIn K cd7 "_law_good" = true)
    (k7 : PySem.W.keepIn K (.ref f7) = true)
    (l8 : K.lookup f8 = some ⟨oc8, od8, .func (PySem.W.fnOf "_law_odd" "_law_odd" (defArgs (topS 20)) (defBody (topS 20)) (defScope (topS 20)) .none kV8 dc8 pm8 an8 cd8 ct8), sl8⟩)
    (c8 : PySem.W.codeIn K cd8 "_law_odd" = true)
    (k8 : PySem.W.keepIn K (.ref f8) = true)
    (l9 : K.lookup f9 = some ⟨oc9, od9, .func (PySem.W.fnOf "_law_words" "_law_words" (defArgs (topS 21)) (defBody (topS 21)) (defScope (topS 21)) .none kV9 dc9 pm9 an9 cd9 ct9), sl9⟩)
    (c9 : PySem.W.codeIn K cd9 "_law_words" = true)
    (k9 : PySem.W.keepIn K (.ref f9) = true)
    (l10 : K.lookup f10 = some ⟨oc10, od10, .func (PySem.W.fnOf "_law_value" "_law_value" (defArgs (topS 22)) (defBody (topS 22)) (defScope (topS 22)) .none kV10 dc10 pm10 an10 cd10 ct10), sl10⟩)
    (c10 : PySem.W.codeIn K cd10 "_law_value" = true)
    (k10 : PySem.W.keepIn K (.ref f10) = true)
    (l11 : K.lookup f11 = some ⟨oc11, od11, .func (PySem.W.fnOf "_law_asked" "_law_asked" (defArgs (topS 23)) (defBody (topS 23)) (defScope (topS 23)) .none kV11 dc11 pm11 an11 cd11 ct11), sl11⟩)
    (c11 : PySem.W.codeIn K cd11 "_law_asked" = true)
    (k11 : PySem.W.keepIn K (.ref f11) = true)
    (l12 : K.lookup f12 = some ⟨oc12, od12, .func (PySem.W.fnOf "_law_value_fits" "_law_value_fits" (defArgs (topS 24)) (defBody (topS 24)) (defScope (topS 24)) .none kV12 dc12 pm12 an12 cd12 ct12), sl12⟩)
    (c12 : PySem.W.codeIn K cd12 "_law_value_fits" = true)
    (k12 : PySem.W.keepIn K (.ref f12) = true)
    (l13 : K.lookup f13 = some ⟨oc13, od13, .func (PySem.W.fnOf "_law_is_part" "_law_is_part" (defArgs (topS 25)) (defBody (topS 25)) (defScope (topS 25)) .none kV13 dc13 pm13 an13 cd13 ct13), sl13⟩)
    (c13 : PySem.W.codeIn K cd13 "_law_is_part" = true)
    (k13 : PySem.W.keepIn K (.ref f13) = true)
    (l14 : K.lookup f14 = some ⟨oc14, od14, .func (PySem.W.fnOf "_law_part_fits" "_law_part_fits" (defArgs (topS 26)) (defBody (topS 26)) (defScope (topS 26)) .none kV14 dc14 pm14 an14 cd14 ct14), sl14⟩)
    (c14 : PySem.W.codeIn K cd14 "_law_part_fits" = true)
    (k14 : PySem.W.keepIn K (.ref f14) = true)
    (l15 : K.lookup f15 = some ⟨oc15, od15, .func (PySem.W.fnOf "law" "law" (defArgs (topS 27)) (defBody (topS 27)) (defScope (topS 27)) .none kV15 dc15 pm15 an15 cd15 ct15), sl15⟩)
    (c15 : PySem.W.codeIn K cd15 "law" = true)
    (k15 : PySem.W.keepIn K (.ref f15) = true)
    (gk0 : PySem.W.nsIn K mainGlobals "LETTERS" = some (some (.str "abcdefghijklmnopqrstuvwxyz" gt0)))
    (gk1 : PySem.W.nsIn K mainGlobals "DIGITS" = some (some (.str "0123456789" gt1)))
    (z0 : PySem.W.nsIn K mainGlobals "len" = some none)
    (z1 : PySem.W.nsIn K mainGlobals "int" = some none)
    (z2 : PySem.W.nsIn K mainGlobals "list" = some none)
    (z3 : PySem.W.nsIn K mainGlobals "tuple" = some none)
    (z4 : PySem.W.nsIn K mainGlobals "all" = some none)
    (z5 : PySem.W.nsIn K mainGlobals "sorted" = some none)
    (z6 : PySem.W.nsIn K mainGlobals "isinstance" = some none)
    (z7 : PySem.W.nsIn K mainGlobals "range" = some none)
    (z8 : PySem.W.nsIn K mainGlobals "bool" = some none)
    (z9 : PySem.W.nsIn K mainGlobals "str" = some none)
    (z10 : PySem.W.nsIn K mainGlobals "dict" = some none)
    (zVE : PySem.W.nsIn K mainGlobals "ValueError" = some none)
    (zsu : PySem.W.nsIn K mainGlobals "super" = some none)
    (zno : PySem.W.nsIn K cStatics "thirdparty.any" = some none)
    (ztp : (l.prog.main.scope.names.lookup ("super" : Str)).isSome = false)
    (zsp : PySem.W.specialIn K (.builtin "object.__class__") "__get__" = some (some (.builtin "getset_descriptor.__get__")))
    (ztk : PySem.W.takesIn K (.builtin "object.__class__") = some true)
    (ga0 : PySem.W.findIn K (.ref C0) "__getattribute__" = some (some (.builtin "BaseException.__getattribute__")))
    (gg0 : PySem.W.findIn K (.ref C0) "__getattr__" = some none)
    (eC0 : PySem.W.subIn K (.ref C0) (.type "BaseException") = some true)
    (hd0 : PySem.W.hasDictIn K C0 = true)
    (ic0 : PySem.W.isClsIn K C0 = true)
    (tC0 : PySem.W.typeIn K (.ref C0) = some (.type "type"))
    (ac0 : PySem.W.findIn K (.ref C0) "__class__" = some (some (.builtin "object.__class__")))
    (mo0 : PySem.W.mroIn K C0 (.type "object") = some true)
    (nx0_gauge : PySem.W.findIn K (.ref C0) "gauge" = some none)
    (sb0_0 : PySem.W.subIn K (.ref C0) (.ref C0) = some true)
    (kt0_1 : PySem.W.kitOne K (.ref C0) (.ref C1) = some false)
    (kt0_6 : PySem.W.kitOne K (.ref C0) (.ref C6) = some false)
    (kt0_4 : PySem.W.kitOne K (.ref C0) (.ref C4) = some false)
    (kt0_2 : PySem.W.kitOne K (.ref C0) (.ref C2) = some false)
    (kt0_5 : PySem.W.kitOne K (.ref C0) (.ref C5) = some false)
    (kt0_3 : PySem.W.kitOne K (.ref C0) (.ref C3) = some false)
    (kt0_VE : PySem.W.kitOne K (.ref C0) (.type "ValueError") = some true)
    (ga1 : PySem.W.findIn K (.ref C1) "__getattribute__" = some (some (.builtin "BaseException.__getattribute__")))
    (gg1 : PySem.W.findIn K (.ref C1) "__getattr__" = some none)
    (eC1 : PySem.W.subIn K (.ref C1) (.type "BaseException") = some true)
    (hd1 : PySem.W.hasDictIn K C1 = true)
    (ic1 : PySem.W.isClsIn K C1 = true)
    (tC1 : PySem.W.typeIn K (.ref C1) = some (.type "type"))
    (ac1 : PySem.W.findIn K (.ref C1) "__class__" = some (some (.builtin "object.__class__")))
    (mo1 : PySem.W.mroIn K C1 (.type "object") = some true)
    (nx1_gauge : PySem.W.findIn K (.ref C1) "gauge" = some none)
    (sb1_0 : PySem.W.subIn K (.ref C1) (.ref C0) = some true)
    (kt1_1 : PySem.W.kitOne K (.ref C1) (.ref C1) = some true)
    (kt1_6 : PySem.W.kitOne K (.ref C1) (.ref C6) = some false)
    (kt1_4 : PySem.W.kitOne K (.ref C1) (.ref C4) = some false)
    (kt1_2 : PySem.W.kitOne K (.ref C1) (.ref C2) = some false)
    (kt1_5 : PySem.W.kitOne K (.ref C1) (.ref C5) = some false)
    (kt1_3 : PySem.W.kitOne K (.ref C1) (.ref C3) = some false)
    (kt1_VE : PySem.W.kitOne K (.ref C1) (.type "ValueError") = some true)
    (xL1 : K.lookup C1 = some (excClassObj nm1 q1 C1 N1 bs1 (.ref C0 :: EG.veT) true sn1 su1 ab1 co1 dd1 ma1 mb1 mc1 md1 me1 "ValueError.__new__"))
    (sa1 : PySem.W.findIn K (.ref C1) "__setattr__" = some (some (.builtin "object.__setattr__")))
    (kC1 : PySem.W.keepIn K (.ref C1) = true)
    (fj1 : PySem.W.findIn K (.ref C1) "__init__" = some (some (.ref J1)))
    (tj1 : PySem.W.typeIn K (.ref J1) = some (.type "function"))
    (li1 : K.lookup J1 = some ⟨oc_1, od_1, .func (PySem.W.fnX "__init__" "InvalidGauge.__init__" (defArgs (inClass (topS 2) 0)) (defBody (inClass (topS 2) 0)) (defScope (inClass (topS 2) 0)) [("__class__", cc1)] .none .none dc_1 pm_1 none (.ref ca1) ct_1), osl1⟩)
    (lc1 : K.lookup ca1 = some ⟨cl_1, cdd1, .fields vs1, ccs1⟩)
    (v21 : vs1[2]? = some (.str fi1 tf1))
    (vf1 : ((l.prog.main.file : Str) == fi1) = true)
    (ci1 : PySem.W.codeIn K (.ref ca1) "InvalidGauge.__init__" = true)
    (cl1 : K.lookup cc1 = some ⟨cv_1, cld1, .cell (some (.ref C1)), csl1⟩)
    (al1 : PySem.W.alongIn K "__init__" (.ref C0 :: EG.veT) = some (some (.builtin "ValueError.__init__")))
    (mm1 : PySem.W.mroIn K C1 (.ref C1) = some true)
    (ve1 : PySem.W.subIn K (.ref C1) (.type "ValueError") = some true)
    (ga2 : PySem.W.findIn K (.ref C2) "__getattribute__" = some (some (.builtin "BaseException.__getattribute__")))
    (gg2 : PySem.W.findIn K (.ref C2) "__getattr__" = some none)
    (eC2 : PySem.W.subIn K (.ref C2) (.type "BaseException") = some true)
    (hd2 : PySem.W.hasDictIn K C2 = true)
    (ic2 : PySem.W.isClsIn K C2 = true)
    (tC2 : PySem.W.typeIn K (.ref C2) = some (.type "type"))
    (ac2 : PySem.W.findIn K (.ref C2) "__class__" = some (some (.builtin "object.__class__")))
    (mo2 : PySem.W.mroIn K C2 (.type "object") = some true)
    (nx2_gauge : PySem.W.findIn K (.ref C2) "gauge" = some none)
    (sb2_0 : PySem.W.subIn K (.ref C2) (.ref C0) = some true)
    (kt2_1 : PySem.W.kitOne K (.ref C2) (.ref C1) = some false)
    (kt2_6 : PySem.W.kitOne K (.ref C2) (.ref C6) = some false)
    (kt2_4 : PySem.W.kitOne K (.ref C2) (.ref C4) = some false)
    (kt2_2 : PySem.W.kitOne K (.ref C2) (.ref C2) = some true)
    (kt2_5 : PySem.W.kitOne K (.ref C2) (.ref C5) = some false)
    (kt2_3 : PySem.W.kitOne K (.ref C2) (.ref C3) = some false)
    (kt2_VE : PySem.W.kitOne K (.ref C2) (.type "ValueError") = some true)
    (xL2 : K.lookup C2 = some (excClassObj nm2 q2 C2 N2 bs2 (.ref C0 :: EG.veT) true sn2 su2 ab2 co2 dd2 ma2 mb2 mc2 md2 me2 "ValueError.__new__"))
    (sa2 : PySem.W.findIn K (.ref C2) "__setattr__" = some (some (.builtin "object.__setattr__")))
    (kC2 : PySem.W.keepIn K (.ref C2) = true)
    (fj2 : PySem.W.findIn K (.ref C2) "__init__" = some (some (.ref J2)))
    (tj2 : PySem.W.typeIn K (.ref J2) = some (.type "function"))
    (li2 : K.lookup J2 = some ⟨oc_2, od_2, .func (PySem.W.fnX "__init__" "OtherGauges.__init__" (defArgs (inClass (topS 3) 0)) (defBody (inClass (topS 3) 0)) (defScope (inClass (topS 3) 0)) [("__class__", cc2)] .none .none dc_2 pm_2 none (.ref ca2) ct_2), osl2⟩)
    (lc2 : K.lookup ca2 = some ⟨cl_2, cdd2, .fields vs2, ccs2⟩)
    (v22 : vs2[2]? = some (.str fi2 tf2))
    (vf2 : ((l.prog.main.file : Str) == fi2) = true)
    (ci2 : PySem.W.codeIn K (.ref ca2) "OtherGauges.__init__" = true)
    (cl2 : K.lookup cc2 = some ⟨cv_2, cld2, .cell (some (.ref C2)), csl2⟩)
    (al2 : PySem.W.alongIn K "__init__" (.ref C0 :: EG.veT) = some (some (.builtin "ValueError.__init__")))
    (mm2 : PySem.W.mroIn K C2 (.ref C2) = some true)
    (ve2 : PySem.W.subIn K (.ref C2) (.type "ValueError") = some true)
    (ga3 : PySem.W.findIn K (.ref C3) "__getattribute__" = some (some (.builtin "BaseException.__getattribute__")))
    (gg3 : PySem.W.findIn K (.ref C3) "__getattr__" = some none)
    (eC3 : PySem.W.subIn K (.ref C3) (.type "BaseException") = some true)
    (hd3 : PySem.W.hasDictIn K C3 = true)
    (ic3 : PySem.W.isClsIn K C3 = true)
    (tC3 : PySem.W.typeIn K (.ref C3) = some (.type "type"))
    (ac3 : PySem.W.findIn K (.ref C3) "__class__" = some (some (.builtin "object.__class__")))
    (mo3 : PySem.W.mroIn K C3 (.type "object") = some true)
    (nx3_gauge : PySem.W.findIn K (.ref C3) "gauge" = some none)
    (sb3_0 : PySem.W.subIn K (.ref C3) (.ref C0) = some true)
    (kt3_1 : PySem.W.kitOne K (.ref C3) (.ref C1) = some false)
    (kt3_6 : PySem.W.kitOne K (.ref C3) (.ref C6) = some false)
    (kt3_4 : PySem.W.kitOne K (.ref C3) (.ref C4) = some false)
    (kt3_2 : PySem.W.kitOne K (.ref C3) (.ref C2) = some false)
    (kt3_5 : PySem.W.kitOne K (.ref C3) (.ref C5) = some false)
    (kt3_3 : PySem.W.kitOne K (.ref C3) (.ref C3) = some true)
    (kt3_VE : PySem.W.kitOne K (.ref C3) (.type "ValueError") = some true)
    (xL3 : K.lookup C3 = some (excClassObj nm3 q3 C3 N3 bs3 (.ref C0 :: EG.veT) true sn3 su3 ab3 co3 dd3 ma3 mb3 mc3 md3 me3 "ValueError.__new__"))
    (sa3 : PySem.W.findIn K (.ref C3) "__setattr__" = some (some (.builtin "object.__setattr__")))
    (kC3 : PySem.W.keepIn K (.ref C3) = true)
    (fj3 : PySem.W.findIn K (.ref C3) "__init__" = some (some (.ref J3)))
    (tj3 : PySem.W.typeIn K (.ref J3) = some (.type "function"))
    (li3 : K.lookup J3 = some ⟨oc_3, od_3, .func (PySem.W.fnX "__init__" "SharedGauge.__init__" (defArgs (inClass (topS 4) 0)) (defBody (inClass (topS 4) 0)) (defScope (inClass (topS 4) 0)) [("__class__", cc3)] .none .none dc_3 pm_3 none (.ref ca3) ct_3), osl3⟩)
    (lc3 : K.lookup ca3 = some ⟨cl_3, cdd3, .fields vs3, ccs3⟩)
    (v23 : vs3[2]? = some (.str fi3 tf3))
    (vf3 : ((l.prog.main.file : Str) == fi3) = true)
    (ci3 : PySem.W.codeIn K (.ref ca3) "SharedGauge.__init__" = true)
    (cl3 : K.lookup cc3 = some ⟨cv_3, cld3, .cell (some (.ref C3)), csl3⟩)
    (al3 : PySem.W.alongIn K "__init__" (.ref C0 :: EG.veT) = some (some (.builtin "ValueError.__init__")))
    (mm3 : PySem.W.mroIn K C3 (.ref C3) = some true)
    (ve3 : PySem.W.subIn K (.ref C3) (.type "ValueError") = some true)
    (ga4 : PySem.W.findIn K (.ref C4) "__getattribute__" = some (some (.builtin "BaseException.__getattribute__")))
    (gg4 : PySem.W.findIn K (.ref C4) "__getattr__" = some none)
    (eC4 : PySem.W.subIn K (.ref C4) (.type "BaseException") = some true)
    (hd4 : PySem.W.hasDictIn K C4 = true)
    (ic4 : PySem.W.isClsIn K C4 = true)
    (tC4 : PySem.W.typeIn K (.ref C4) = some (.type "type"))
    (ac4 : PySem.W.findIn K (.ref C4) "__class__" = some (some (.builtin "object.__class__")))
    (mo4 : PySem.W.mroIn K C4 (.type "object") = some true)
    (nx4_gauge : PySem.W.findIn K (.ref C4) "gauge" = some none)
    (sb4_0 : PySem.W.subIn K (.ref C4) (.ref C0) = some true)
    (kt4_1 : PySem.W.kitOne K (.ref C4) (.ref C1) = some false)
    (kt4_6 : PySem.W.kitOne K (.ref C4) (.ref C6) = some false)
    (kt4_4 : PySem.W.kitOne K (.ref C4) (.ref C4) = some true)
    (kt4_2 : PySem.W.kitOne K (.ref C4) (.ref C2) = some false)
    (kt4_5 : PySem.W.kitOne K (.ref C4) (.ref C5) = some false)
    (kt4_3 : PySem.W.kitOne K (.ref C4) (.ref C3) = some false)
    (kt4_VE : PySem.W.kitOne K (.ref C4) (.type "ValueError") = some true)
    (xL4 : K.lookup C4 = some (excClassObj nm4 q4 C4 N4 bs4 (.ref C0 :: EG.veT) true sn4 su4 ab4 co4 dd4 ma4 mb4 mc4 md4 me4 "ValueError.__new__"))
    (sa4 : PySem.W.findIn K (.ref C4) "__setattr__" = some (some (.builtin "object.__setattr__")))
    (kC4 : PySem.W.keepIn K (.ref C4) = true)
    (fj4 : PySem.W.findIn K (.ref C4) "__init__" = some (some (.ref J4)))
    (tj4 : PySem.W.typeIn K (.ref J4) = some (.type "function"))
    (li4 : K.lookup J4 = some ⟨oc_4, od_4, .func (PySem.W.fnX "__init__" "MissingGauge.__init__" (defArgs (inClass (topS 5) 0)) (defBody (inClass (topS 5) 0)) (defScope (inClass (topS 5) 0)) [("__class__", cc4)] .none .none dc_4 pm_4 none (.ref ca4) ct_4), osl4⟩)
    (lc4 : K.lookup ca4 = some ⟨cl_4, cdd4, .fields vs4, ccs4⟩)
    (v24 : vs4[2]? = some (.str fi4 tf4))
    (vf4 : ((l.prog.main.file : Str) == fi4) = true)
    (ci4 : PySem.W.codeIn K (.ref ca4) "MissingGauge.__init__" = true)
    (cl4 : K.lookup cc4 = some ⟨cv_4, cld4, .cell (some (.ref C4)), csl4⟩)
    (al4 : PySem.W.alongIn K "__init__" (.ref C0 :: EG.veT) = some (some (.builtin "ValueError.__init__")))
    (mm4 : PySem.W.mroIn K C4 (.ref C4) = some true)
    (ve4 : PySem.W.subIn K (.ref C4) (.type "ValueError") = some true)
    (ga5 : PySem.W.findIn K (.ref C5) "__getattribute__" = some (some (.builtin "BaseException.__getattribute__")))
    (gg5 : PySem.W.findIn K (.ref C5) "__getattr__" = some none)
    (eC5 : PySem.W.subIn K (.ref C5) (.type "BaseException") = some true)
    (hd5 : PySem.W.hasDictIn K C5 = true)
    (ic5 : PySem.W.isClsIn K C5 = true)
    (tC5 : PySem.W.typeIn K (.ref C5) = some (.type "type"))
    (ac5 : PySem.W.findIn K (.ref C5) "__class__" = some (some (.builtin "object.__class__")))
    (mo5 : PySem.W.mroIn K C5 (.type "object") = some true)
    (nx5_gauge : PySem.W.findIn K (.ref C5) "gauge" = some none)
    (sb5_0 : PySem.W.subIn K (.ref C5) (.ref C0) = some true)
    (kt5_1 : PySem.W.kitOne K (.ref C5) (.ref C1) = some false)
    (kt5_6 : PySem.W.kitOne K (.ref C5) (.ref C6) = some false)
    (kt5_4 : PySem.W.kitOne K (.ref C5) (.ref C4) = some false)
    (kt5_2 : PySem.W.kitOne K (.ref C5) (.ref C2) = some false)
    (kt5_5 : PySem.W.kitOne K (.ref C5) (.ref C5) = some true)
    (kt5_3 : PySem.W.kitOne K (.ref C5) (.ref C3) = some false)
    (kt5_VE : PySem.W.kitOne K (.ref C5) (.type "ValueError") = some true)
    (xL5 : K.lookup C5 = some (excClassObj nm5 q5 C5 N5 bs5 (.ref C0 :: EG.veT) true sn5 su5 ab5 co5 dd5 ma5 mb5 mc5 md5 me5 "ValueError.__new__"))
    (sa5 : PySem.W.findIn K (.ref C5) "__setattr__" = some (some (.builtin "object.__setattr__")))
    (kC5 : PySem.W.keepIn K (.ref C5) = true)
    (fj5 : PySem.W.findIn K (.ref C5) "__init__" = some (some (.ref J5)))
    (tj5 : PySem.W.typeIn K (.ref J5) = some (.type "function"))
    (li5 : K.lookup J5 = some ⟨oc_5, od_5, .func (PySem.W.fnX "__init__" "OutOfRange.__init__" (defArgs (inClass (topS 6) 0)) (defBody (inClass (topS 6) 0)) (defScope (inClass (topS 6) 0)) [("__class__", cc5)] .none .none dc_5 pm_5 none (.ref ca5) ct_5), osl5⟩)
    (lc5 : K.lookup ca5 = some ⟨cl_5, cdd5, .fields vs5, ccs5⟩)
    (v25 : vs5[2]? = some (.str fi5 tf5))
    (vf5 : ((l.prog.main.file : Str) == fi5) = true)
    (ci5 : PySem.W.codeIn K (.ref ca5) "OutOfRange.__init__" = true)
    (cl5 : K.lookup cc5 = some ⟨cv_5, cld5, .cell (some (.ref C5)), csl5⟩)
    (al5 : PySem.W.alongIn K "__init__" (.ref C0 :: EG.veT) = some (some (.builtin "ValueError.__init__")))
    (mm5 : PySem.W.mroIn K C5 (.ref C5) = some true)
    (ve5 : PySem.W.subIn K (.ref C5) (.type "ValueError") = some true)
    (ga6 : PySem.W.findIn K (.ref C6) "__getattribute__" = some (some (.builtin "BaseException.__getattribute__")))
    (gg6 : PySem.W.findIn K (.ref C6) "__getattr__" = some none)
    (eC6 : PySem.W.subIn K (.ref C6) (.type "BaseException") = some true)
    (hd6 : PySem.W.hasDictIn K C6 = true)
    (ic6 : PySem.W.isClsIn K C6 = true)
    (tC6 : PySem.W.typeIn K (.ref C6) = some (.type "type"))
    (ac6 : PySem.W.findIn K (.ref C6) "__class__" = some (some (.builtin "object.__class__")))
    (mo6 : PySem.W.mroIn K C6 (.type "object") = some true)
    (nx6_gauge : PySem.W.findIn K (.ref C6) "gauge" = some none)
    (sb6_0 : PySem.W.subIn K (.ref C6) (.ref C0) = some true)
    (kt6_1 : PySem.W.kitOne K (.ref C6) (.ref C1) = some false)
    (kt6_6 : PySem.W.kitOne K (.ref C6) (.ref C6) = some true)
    (kt6_4 : PySem.W.kitOne K (.ref C6) (.ref C4) = some false)
    (kt6_2 : PySem.W.kitOne K (.ref C6) (.ref C2) = some false)
    (kt6_5 : PySem.W.kitOne K (.ref C6) (.ref C5) = some false)
    (kt6_3 : PySem.W.kitOne K (.ref C6) (.ref C3) = some false)
    (kt6_VE : PySem.W.kitOne K (.ref C6) (.type "ValueError") = some true)
    (xL6 : K.lookup C6 = some (excClassObj nm6 q6 C6 N6 bs6 (.ref C0 :: EG.veT) true sn6 su6 ab6 co6 dd6 ma6 mb6 mc6 md6 me6 "ValueError.__new__"))
    (sa6 : PySem.W.findIn K (.ref C6) "__setattr__" = some (some (.builtin "object.__setattr__")))
    (kC6 : PySem.W.keepIn K (.ref C6) = true)
    (fj6 : PySem.W.findIn K (.ref C6) "__init__" = some (some (.ref J6)))
    (tj6 : PySem.W.typeIn K (.ref J6) = some (.type "function"))
    (li6 : K.lookup J6 = some ⟨oc_6, od_6, .func (PySem.W.fnX "__init__" "InvalidSign.__init__" (defArgs (inClass (topS 7) 0)) (defBody (inClass (topS 7) 0)) (defScope (inClass (topS 7) 0)) [("__class__", cc6)] .none .none dc_6 pm_6 none (.ref ca6) ct_6), osl6⟩)
    (lc6 : K.lookup ca6 = some ⟨cl_6, cdd6, .fields vs6, ccs6⟩)
    (v26 : vs6[2]? = some (.str fi6 tf6))
    (vf6 : ((l.prog.main.file : Str) == fi6) = true)
    (ci6 : PySem.W.codeIn K (.ref ca6) "InvalidSign.__init__" = true)
    (cl6 : K.lookup cc6 = some ⟨cv_6, cld6, .cell (some (.ref C6)), csl6⟩)
    (al6 : PySem.W.alongIn K "__init__" (.ref C0 :: EG.veT) = some (some (.builtin "ValueError.__init__")))
    (mm6 : PySem.W.mroIn K C6 (.ref C6) = some true)
    (ve6 : PySem.W.subIn K (.ref C6) (.type "ValueError") = some true)
    : ∃ (cl : Nat → Addr) (fd : FuncData), (∀ (s : Shared) (v : Value), BindsTo s fd ⟨[v], []⟩ [("_law_script", v)]) ∧ ∀ base : Heap, K.In base → base.Ns mainGlobals mg → FnE l.prog w K mg base false (3 * 10) fa fd ["_law_script"] (spD ⟨K, cl⟩ (callD (tab.map Ent.df) mu 10 15) 1) := by
  have e := hfa.symm.trans (PySem.W.mg_of X G a15)
  cases e
  have F0 := fun_mk (st := (topS 11)) l0 c0 k0
  have b0 := F0.binds (ps := ps_is_gauge) fun _ _ _ _ _ _ us hl => match us, hl with | [_], _ => rfl
  have F1 := fun_mk (st := (topS 12)) l1 c1 k1
  have b1 := F1.binds (ps := ps_value_of) fun _ _ _ _ _ _ us hl => match us, hl with | [_, _], _ => rfl
  have F2 := fun_mk (st := (topS 13)) l2 c2 k2
  have b2 := F2.binds (ps := ps_part_of) fun _ _ _ _ _ _ us hl => match us, hl with | [_, _], _ => rfl
  have F3 := fun_mk (st := (topS 15)) l3 c3 k3
  have b3 := F3.binds (ps := ps_q_draw) fun _ _ _ _ _ _ us hl => match us, hl with | [_, _, _, _], _ => rfl
  have F4 := fun_mk (st := (topS 16)) l4 c4 k4
  have b4 := F4.binds (ps := ps_q_name) fun _ _ _ _ _ _ us hl => match us, hl with | [_, _, _, _], _ => rfl
  have F5 := fun_mk (st := (topS 17)) l5 c5 k5
  have b5 := F5.binds (ps := ps_q_is_integer) fun _ _ _ _ _ _ us hl => match us, hl with | [_], _ => rfl
  have F6 := fun_mk (st := (topS 18)) l6 c6 k6
  have b6 := F6.binds (ps := ps_q_order) fun _ _ _ _ _ _ us hl => match us, hl with | [_, _, _], _ => rfl
  have F7 := fun_mk (st := (topS 19)) l7 c7 k7
  have b7 := F7.binds (ps := ps_q_good) fun _ _ _ _ _ _ us hl => match us, hl with | [_], _ => rfl
  have F8 := fun_mk (st := (topS 20)) l8 c8 k8
  have b8 := F8.binds (ps := ps_q_odd) fun _ _ _ _ _ _ us hl => match us, hl with | [_, _, _], _ => rfl
  have F9 := fun_mk (st := (topS 21)) l9 c9 k9
  have b9 := F9.binds (ps := ps_q_words) fun _ _ _ _ _ _ us hl => match us, hl with | [_, _], _ => rfl
  have F10 := fun_mk (st := (topS 22)) l10 c10 k10
  have b10 := F10.binds (ps := ps_q_value) fun _ _ _ _ _ _ us hl => match us, hl with | [_, _, _], _ => rfl
  have F11 := fun_mk (st := (topS 23)) l11 c11 k11
  have b11 := F11.binds (ps := ps_q_asked) fun _ _ _ _ _ _ us hl => match us, hl with | [_, _, _], _ => rfl
  have F12 := fun_mk (st := (topS 24)) l12 c12 k12
  have b12 := F12.binds (ps := ps_q_value_fits) fun _ _ _ _ _ _ us hl => match us, hl with | [_, _], _ => rfl
  have F13 := fun_mk (st := (topS 25)) l13 c13 k13
  have b13 := F13.binds (ps := ps_q_is_part) fun _ _ _ _ _ _ us hl => match us, hl with | [_, _, _], _ => rfl
  have F14 := fun_mk (st := (topS 26)) l14 c14 k14
  have b14 := F14.binds (ps := ps_q_part_fits) fun _ _ _ _ _ _ us hl => match us, hl with | [_, _], _ => rfl
  have F15 := fun_mk (st := (topS 27)) l15 c15 k15
  have b15 := F15.binds (ps := ps_law) fun _ _ _ _ _ _ us hl => match us, hl with | [_], _ => rfl
  have Q0 : XfC K C0 := ⟨ga0, gg0, eC0, hd0⟩
  have S0 : IsX K C0 := ⟨ic0, ga0, gg0, eC0, ac0, zsp, ztk, mo0⟩
  have M0_0 := exm_of eC0 ic0 tC0 sb0_0
  have X1 : ErrC l.prog K mg C1 J1 _ ps_E_InvalidGauge [("gauge", 1)] := err_mk (st := (inClass (topS 2) 0)) (slf := "self") (N := N_E_InvalidGauge) (ps := ps_E_InvalidGauge) (fs := [("gauge", 1)]) xL1 sa1 eC1 tC1 kC1 fj1 tj1 li1 lc1 v21 vf1 ci1 cl1 al1 mm1 zno ve1 (fun p hp => by
      simp only [List.mem_cons, List.not_mem_nil, or_false] at hp
      subst hp; exact nx1_gauge) ztp (PySem.W.mg_none_of X G zsu) (by decide +kernel)
  have Y1 : Binds K (PySem.W.fnX "__init__" "InvalidGauge.__init__" (defArgs (inClass (topS 2) 0)) (defBody (inClass (topS 2) 0)) (defScope (inClass (topS 2) 0)) [("__class__", cc1)] .none .none dc_1 pm_1 none (.ref ca1) ct_1) ps_E_InvalidGauge [] := .all fun us hl => match us, hl with | [_, _], _ => rfl
  have Q1 : XfC K C1 := ⟨ga1, gg1, eC1, hd1⟩
  have S1 : IsX K C1 := ⟨ic1, ga1, gg1, eC1, ac1, zsp, ztk, mo1⟩
  have M1_0 := exm_of eC0 ic0 tC0 sb1_0
  have X2 : ErrC l.prog K mg C2 J2 _ ps_E_OtherGauges [("gauge", 1)] := err_mk (st := (inClass (topS 3) 0)) (slf := "self") (N := N_E_OtherGauges) (ps := ps_E_OtherGauges) (fs := [("gauge", 1)]) xL2 sa2 eC2 tC2 kC2 fj2 tj2 li2 lc2 v22 vf2 ci2 cl2 al2 mm2 zno ve2 (fun p hp => by
      simp only [List.mem_cons, List.not_mem_nil, or_false] at hp
      subst hp; exact nx2_gauge) ztp (PySem.W.mg_none_of X G zsu) (by decide +kernel)
  have Y2 : Binds K (PySem.W.fnX "__init__" "OtherGauges.__init__" (defArgs (inClass (topS 3) 0)) (defBody (inClass (topS 3) 0)) (defScope (inClass (topS 3) 0)) [("__class__", cc2)] .none .none dc_2 pm_2 none (.ref ca2) ct_2) ps_E_OtherGauges [] := .all fun us hl => match us, hl with | [_, _], _ => rfl
  have Q2 : XfC K C2 := ⟨ga2, gg2, eC2, hd2⟩
  have S2 : IsX K C2 := ⟨ic2, ga2, gg2, eC2, ac2, zsp, ztk, mo2⟩
  have M2_0 := exm_of eC0 ic0 tC0 sb2_0
  have X3 : ErrC l.prog K mg C3 J3 _ ps_E_SharedGauge [("gauge", 1)] := err_mk (st := (inClass (topS 4) 0)) (slf := "self") (N := N_E_SharedGauge) (ps := ps_E_SharedGauge) (fs := [("gauge", 1)]) xL3 sa3 eC3 tC3 kC3 fj3 tj3 li3 lc3 v23 vf3 ci3 cl3 al3 mm3 zno ve3 (fun p hp => by
      simp only [List.mem_cons, List.not_mem_nil, or_false] at hp
      subst hp; exact nx3_gauge) ztp (PySem.W.mg_none_of X G zsu) (by decide +kernel)
  have Y3 : Binds K (PySem.W.fnX "__init__" "SharedGauge.__init__" (defArgs (inClass (topS 4) 0)) (defBody (inClass (topS 4) 0)) (defScope (inClass (topS 4) 0)) [("__class__", cc3)] .none .none dc_3 pm_3 none (.ref ca3) ct_3) ps_E_SharedGauge [] := .all fun us hl => match us, hl with | [_, _], _ => rfl
  have Q3 : XfC K C3 := ⟨ga3, gg3, eC3, hd3⟩
  have S3 : IsX K C3 := ⟨ic3, ga3, gg3, eC3, ac3, zsp, ztk, mo3⟩
  have M3_0 := exm_of eC0 ic0 tC0 sb3_0
  have X4 : ErrC l.prog K mg C4 J4 _ ps_E_MissingGauge [("gauge", 1)] := err_mk (st := (inClass (topS 5) 0)) (slf := "self") (N := N_E_MissingGauge) (ps := ps_E_MissingGauge) (fs := [("gauge", 1)]) xL4 sa4 eC4 tC4 kC4 fj4 tj4 li4 lc4 v24 vf4 ci4 cl4 al4 mm4 zno ve4 (fun p hp => by
      simp only [List.mem_cons, List.not_mem_nil, or_false] at hp
      subst hp; exact nx4_gauge) ztp (PySem.W.mg_none_of X G zsu) (by decide +kernel)
  have Y4 : Binds K (PySem.W.fnX "__init__" "MissingGauge.__init__" (defArgs (inClass (topS 5) 0)) (defBody (inClass (topS 5) 0)) (defScope (inClass (topS 5) 0)) [("__class__", cc4)] .none .none dc_4 pm_4 none (.ref ca4) ct_4) ps_E_MissingGauge [] := .all fun us hl => match us, hl with | [_, _], _ => rfl
  have Q4 : XfC K C4 := ⟨ga4, gg4, eC4, hd4⟩
  have S4 : IsX K C4 := ⟨ic4, ga4, gg4, eC4, ac4, zsp, ztk, mo4⟩
  have M4_0 := exm_of eC0 ic0 tC0 sb4_0
  have X5 : ErrC l.prog K mg C5 J5 _ ps_E_OutOfRange [("gauge", 1)] := err_mk (st := (inClass (topS 6) 0)) (slf := "self") (N := N_E_OutOfRange) (ps := ps_E_OutOfRange) (fs := [("gauge", 1)]) xL5 sa5 eC5 tC5 kC5 fj5 tj5 li5 lc5 v25 vf5 ci5 cl5 al5 mm5 zno ve5 (fun p hp => by
      simp only [List.mem_cons, List.not_mem_nil, or_false] at hp
      subst hp; exact nx5_gauge) ztp (PySem.W.mg_none_of X G zsu) (by decide +kernel)
  have Y5 : Binds K (PySem.W.fnX "__init__" "OutOfRange.__init__" (defArgs (inClass (topS 6) 0)) (defBody (inClass (topS 6) 0)) (defScope (inClass (topS 6) 0)) [("__class__", cc5)] .none .none dc_5 pm_5 none (.ref ca5) ct_5) ps_E_OutOfRange [] := .all fun us hl => match us, hl with | [_, _], _ => rfl
  have Q5 : XfC K C5 := ⟨ga5, gg5, eC5, hd5⟩
  have S5 : IsX K C5 := ⟨ic5, ga5, gg5, eC5, ac5, zsp, ztk, mo5⟩
  have M5_0 := exm_of eC0 ic0 tC0 sb5_0
  have X6 : ErrC l.prog K mg C6 J6 _ ps_E_InvalidSign [("gauge", 1)] := err_mk (st := (inClass (topS 7) 0)) (slf := "self") (N := N_E_InvalidSign) (ps := ps_E_InvalidSign) (fs := [("gauge", 1)]) xL6 sa6 eC6 tC6 kC6 fj6 tj6 li6 lc6 v26 vf6 ci6 cl6 al6 mm6 zno ve6 (fun p hp => by
      simp only [List.mem_cons, List.not_mem_nil, or_false] at hp
      subst hp; exact nx6_gauge) ztp (PySem.W.mg_none_of X G zsu) (by decide +kernel)
  have Y6 : Binds K (PySem.W.fnX "__init__" "InvalidSign.__init__" (defArgs (inClass (topS 7) 0)) (defBody (inClass (topS 7) 0)) (defScope (inClass (topS 7) 0)) [("__class__", cc6)] .none .none dc_6 pm_6 none (.ref ca6) ct_6) ps_E_InvalidSign [] := .all fun us hl => match us, hl with | [_, _], _ => rfl
  have Q6 : XfC K C6 := ⟨ga6, gg6, eC6, hd6⟩
  have S6 : IsX K C6 := ⟨ic6, ga6, gg6, eC6, ac6, zsp, ztk, mo6⟩
  have M6_0 := exm_of eC0 ic0 tC0 sb6_0
  have hok : ∀ e ∈ tab, EntOk mo e := by
    intro e he
    simp only [tab, List.mem_cons, List.not_mem_nil, or_false] at he
    rcases he with rfl | rfl | rfl | rfl | rfl | rfl | rfl | rfl | rfl | rfl | rfl | rfl | rfl | rfl | rfl | rfl | rfl | rfl | rfl | rfl | rfl | rfl
    · exact c_is_gauge
    · exact c_value_of
    · exact c_part_of
    · exact c_q_draw
    · exact c_q_name
    · exact c_q_is_integer
    · exact c_q_order
    · exact c_q_good
    · exact c_q_odd
    · exact c_q_words
    · exact c_q_value
    · exact c_q_asked
    · exact c_q_value_fits
    · exact c_q_is_part
    · exact c_q_part_fits
    · exact c_law
    · exact c_E_InvalidGauge
    · exact c_E_OtherGauges
    · exact c_E_SharedGauge
    · exact c_E_MissingGauge
    · exact c_E_OutOfRange
    · exact c_E_InvalidSign
  have hb : ∀ x : Str, mo.bn.contains x = true → mg x = none := by
    intro x hx
    have hx : x ∈ mo.bn := by simpa using hx
    simp only [mo, List.mem_cons, List.not_mem_nil, or_false] at hx
    rcases hx with rfl | rfl | rfl | rfl | rfl | rfl | rfl | rfl | rfl | rfl | rfl
    · exact PySem.W.mg_none_of X G z0
    · exact PySem.W.mg_none_of X G z1
    · exact PySem.W.mg_none_of X G z2
    · exact PySem.W.mg_none_of X G z3
    · exact PySem.W.mg_none_of X G z4
    · exact PySem.W.mg_none_of X G z5
    · exact PySem.W.mg_none_of X G z6
    · exact PySem.W.mg_none_of X G z7
    · exact PySem.W.mg_none_of X G z8
    · exact PySem.W.mg_none_of X G z9
    · exact PySem.W.mg_none_of X G z10
  have hgc : ∀ x : Str, mo.gc.contains x = true → mg x = some (.builtin "math.gcd") := fun x hx => by simp [mo] at hx
  have hfs : ∀ (x : Str) (f : Nat), slot mo.fs x = some f → ∃ e fa, tab[f]? = some e ∧ e.kd = .fn ∧ mg x = some (.ref fa) ∧ EntAt K e fa := by
    intro x f hx
    have hx2 := slot_ok hx
    have hlt : f < 16 := (List.getElem?_eq_some_iff.mp hx2).1
    match f, hx2, hlt with
    | 0, hx2, _ => obtain rfl : x = "is_gauge" := (Option.some.inj hx2).symm; exact ⟨_, _, rfl, rfl, PySem.W.mg_of X G a0, _, F0, b0⟩
    | 1, hx2, _ => obtain rfl : x = "value_of" := (Option.some.inj hx2).symm; exact ⟨_, _, rfl, rfl, PySem.W.mg_of X G a1, _, F1, b1⟩
    | 2, hx2, _ => obtain rfl : x = "part_of" := (Option.some.inj hx2).symm; exact ⟨_, _, rfl, rfl, PySem.W.mg_of X G a2, _, F2, b2⟩
    | 3, hx2, _ => obtain rfl : x = "_law_draw" := (Option.some.inj hx2).symm; exact ⟨_, _, rfl, rfl, PySem.W.mg_of X G a3, _, F3, b3⟩
    | 4, hx2, _ => obtain rfl : x = "_law_name" := (Option.some.inj hx2).symm; exact ⟨_, _, rfl, rfl, PySem.W.mg_of X G a4, _, F4, b4⟩
    | 5, hx2, _ => obtain rfl : x = "_law_is_integer" := (Option.some.inj hx2).symm; exact ⟨_, _, rfl, rfl, PySem.W.mg_of X G a5, _, F5, b5⟩
    | 6, hx2, _ => obtain rfl : x = "_law_order" := (Option.some.inj hx2).symm; exact ⟨_, _, rfl, rfl, PySem.W.mg_of X G a6, _, F6, b6⟩
    | 7, hx2, _ => obtain rfl : x = "_law_good" := (Option.some.inj hx2).symm; exact ⟨_, _, rfl, rfl, PySem.W.mg_of X G a7, _, F7, b7⟩
    | 8, hx2, _ => obtain rfl : x = "_law_odd" := (Option.some.inj hx2).symm; exact ⟨_, _, rfl, rfl, PySem.W.mg_of X G a8, _, F8, b8⟩
    | 9, hx2, _ => obtain rfl : x = "_law_words" := (Option.some.inj hx2).symm; exact ⟨_, _, rfl, rfl, PySem.W.mg_of X G a9, _, F9, b9⟩
    | 10, hx2, _ => obtain rfl : x = "_law_value" := (Option.some.inj hx2).symm; exact ⟨_, _, rfl, rfl, PySem.W.mg_of X G a10, _, F10, b10⟩
    | 11, hx2, _ => obtain rfl : x = "_law_asked" := (Option.some.inj hx2).symm; exact ⟨_, _, rfl, rfl, PySem.W.mg_of X G a11, _, F11, b11⟩
    | 12, hx2, _ => obtain rfl : x = "_law_value_fits" := (Option.some.inj hx2).symm; exact ⟨_, _, rfl, rfl, PySem.W.mg_of X G a12, _, F12, b12⟩
    | 13, hx2, _ => obtain rfl : x = "_law_is_part" := (Option.some.inj hx2).symm; exact ⟨_, _, rfl, rfl, PySem.W.mg_of X G a13, _, F13, b13⟩
    | 14, hx2, _ => obtain rfl : x = "_law_part_fits" := (Option.some.inj hx2).symm; exact ⟨_, _, rfl, rfl, PySem.W.mg_of X G a14, _, F14, b14⟩
    | 15, hx2, _ => obtain rfl : x = "law" := (Option.some.inj hx2).symm; exact ⟨_, _, rfl, rfl, PySem.W.mg_of X G a15, _, F15, b15⟩
    | n + 16, _, hl => omega
  let GG : Gt := ⟨K, fun i => ([C0, C1, C2, C3, C4, C5, C6] : List Addr).getD i 0⟩
  have hnw : ∀ (x : Str) (f : Nat), mo.nw.lookup x = some f → ∃ e c fa, tab[f]? = some e ∧ e.kd = .ini c ∧ mg x = some (.ref (GG.cl c)) ∧ Mk GG.K (GG.cl c) fa ∧ EntAt GG.K e fa := by
    intro x f hx
    have hx := lk_mem hx
    simp only [mo, List.mem_cons, List.not_mem_nil, or_false, Prod.mk.injEq] at hx
  have hme : ∀ (m : Str) (c f : Nat), mo.me.contains m = true → mu c m = some f → ∃ e fa, tab[f]? = some e ∧ e.kd = .fn ∧ Cls GG.K (GG.cl c) ∧ Meth GG.K (GG.cl c) m fa ∧ EntAt GG.K e fa := by
    intro m c f _ hx
    unfold mu at hx
    cases hx
  have hfl : ∀ (f : Str) (c : Nat), mo.fl.contains f = true → mo.al.contains c = true → Cls GG.K (GG.cl c) ∧ NoAttr GG.K (GG.cl c) f := by
    intro f c hf hc
    have hf : f ∈ mo.fl := by simpa using hf
    have hc : c ∈ mo.al := by simpa using hc
    simp only [mo, List.mem_cons, List.not_mem_nil, or_false] at hf hc
  have hics : ∀ (t : Str) (c : Nat), mo.ic.lookup t = some c → IsK GG mg mo.al c t := by
    intro t c hx
    have hx := lk_mem hx
    simp only [mo, List.mem_cons, List.not_mem_nil, or_false, Prod.mk.injEq] at hx
  have hoq : mo.oq ≠ [] → mo.me.contains "__eq__" = true ∧ ∀ c f, mu c "__eq__" = some f → InsK GG.K (GG.cl c) ∧ ∀ n ∈ ["NoneType", "bool", "int", "str", "list", "tuple"], PySem.W.notFirst GG.K (GG.cl c) (.type n) = true := by
    intro h; exact absurd h (by simp [mo])
  have hoa : mo.oa ≠ [] → mo.me.contains "__add__" = true ∧ ∀ c f, mu c "__add__" = some f → InsK GG.K (GG.cl c) ∧ PySem.W.selfFirst GG.K (GG.cl c) = true := by
    intro h; exact absurd h (by simp [mo])
  have hcv : mo.cv = true → mo.me.contains "__call__" = true ∧ ∀ c f, mu c "__call__" = some f → ∀ fa : Addr, PySem.W.findIn GG.K (.ref (GG.cl c)) "__call__" = some (some (.ref fa)) → PySem.W.fnIn GG.K fa = true := by
    intro h; exact absurd h (by simp [mo])
  have hhd : ∀ (x : Str) (cs : List Nat), mo.hd.lookup x = some cs → ∃ hc, (x == ("__debug__" : Str)) = false ∧ (mg x = some hc ∨ (mg x = none ∧ bootBuiltins x = some hc ∧ x ≠ "__name__")) ∧ ∀ c, cs.contains c = true → PySem.W.exmOne GG.K (.ref (GG.cl c)) hc = some true := by
    intro x cs hx
    have hx := lk_mem hx
    simp only [mo, List.mem_cons, List.not_mem_nil, or_false, Prod.mk.injEq] at hx
    rcases hx with ⟨rfl, rfl⟩
    · refine ⟨.ref C0, by decide +kernel, .inl (PySem.W.mg_of X G aC0), fun c hc => ?_⟩
      rw [List.contains_iff_mem] at hc
      simp only [List.mem_cons, List.not_mem_nil, or_false] at hc
      rcases hc with rfl | rfl | rfl | rfl | rfl | rfl | rfl
      · exact M0_0
      · exact M1_0
      · exact M2_0
      · exact M3_0
      · exact M4_0
      · exact M5_0
      · exact M6_0
  have hxf : ∀ (f : Str) (c : Nat), mo.xf.contains f = true → mo.ec.contains c = true → XfC GG.K (GG.cl c) ∧ PySem.W.findIn GG.K (.ref (GG.cl c)) f = some none := by
    intro f c hf hc
    have hf : f ∈ mo.xf := by simpa using hf
    have hc : c ∈ mo.ec := by simpa using hc
    simp only [mo, List.mem_cons, List.not_mem_nil, or_false] at hf hc
    rcases hc with rfl | rfl | rfl | rfl | rfl | rfl | rfl
    · rcases hf with rfl
      · exact ⟨Q0, nx0_gauge⟩
    · rcases hf with rfl
      · exact ⟨Q1, nx1_gauge⟩
    · rcases hf with rfl
      · exact ⟨Q2, nx2_gauge⟩
    · rcases hf with rfl
      · exact ⟨Q3, nx3_gauge⟩
    · rcases hf with rfl
      · exact ⟨Q4, nx4_gauge⟩
    · rcases hf with rfl
      · exact ⟨Q5, nx5_gauge⟩
    · rcases hf with rfl
      · exact ⟨Q6, nx6_gauge⟩
  have hxi : ∀ (t : Str) (cs : List Nat), mo.et.lookup t = some cs → ∃ (tv : V) (cv : Value), ((mg t = some cv) ∨ (mg t = none ∧ bootBuiltins t = some cv ∧ t ≠ "__name__")) ∧ (t == ("__debug__" : Str)) = false ∧ RelV tv cv ∧ (∀ u, RelV tv u → u = cv) ∧ ∀ c, mo.ec.contains c = true → IsX GG.K (GG.cl c) ∧ PySem.W.kitOne GG.K (.ref (GG.cl c)) cv = some (cs.contains c) := by
    intro t cs hx
    have hx := lk_mem hx
    simp only [mo, List.mem_cons, List.not_mem_nil, or_false, Prod.mk.injEq] at hx
    rcases hx with ⟨rfl, rfl⟩ | ⟨rfl, rfl⟩ | ⟨rfl, rfl⟩ | ⟨rfl, rfl⟩ | ⟨rfl, rfl⟩ | ⟨rfl, rfl⟩ | ⟨rfl, rfl⟩
    · refine ⟨.ref C1, .ref C1, .inl (PySem.W.mg_of X G aC1), by decide +kernel, rfl, fun u h => h, fun c hc => ?_⟩
      have hc : c ∈ mo.ec := by simpa using hc
      simp only [mo, List.mem_cons, List.not_mem_nil, or_false] at hc
      rcases hc with rfl | rfl | rfl | rfl | rfl | rfl | rfl
      · exact ⟨S0, kt0_1⟩
      · exact ⟨S1, kt1_1⟩
      · exact ⟨S2, kt2_1⟩
      · exact ⟨S3, kt3_1⟩
      · exact ⟨S4, kt4_1⟩
      · exact ⟨S5, kt5_1⟩
      · exact ⟨S6, kt6_1⟩
    · refine ⟨.ref C6, .ref C6, .inl (PySem.W.mg_of X G aC6), by decide +kernel, rfl, fun u h => h, fun c hc => ?_⟩
      have hc : c ∈ mo.ec := by simpa using hc
      simp only [mo, List.mem_cons, List.not_mem_nil, or_false] at hc
      rcases hc with rfl | rfl | rfl | rfl | rfl | rfl | rfl
      · exact ⟨S0, kt0_6⟩
      · exact ⟨S1, kt1_6⟩
      · exact ⟨S2, kt2_6⟩
      · exact ⟨S3, kt3_6⟩
      · exact ⟨S4, kt4_6⟩
      · exact ⟨S5, kt5_6⟩
      · exact ⟨S6, kt6_6⟩
    · refine ⟨.ref C4, .ref C4, .inl (PySem.W.mg_of X G aC4), by decide +kernel, rfl, fun u h => h, fun c hc => ?_⟩
      have hc : c ∈ mo.ec := by simpa using hc
      simp only [mo, List.mem_cons, List.not_mem_nil, or_false] at hc
      rcases hc with rfl | rfl | rfl | rfl | rfl | rfl | rfl
      · exact ⟨S0, kt0_4⟩
      · exact ⟨S1, kt1_4⟩
      · exact ⟨S2, kt2_4⟩
      · exact ⟨S3, kt3_4⟩
      · exact ⟨S4, kt4_4⟩
      · exact ⟨S5, kt5_4⟩
      · exact ⟨S6, kt6_4⟩
    · refine ⟨.ref C2, .ref C2, .inl (PySem.W.mg_of X G aC2), by decide +kernel, rfl, fun u h => h, fun c hc => ?_⟩
      have hc : c ∈ mo.ec := by simpa using hc
      simp only [mo, List.mem_cons, List.not_mem_nil, or_false] at hc
      rcases hc with rfl | rfl | rfl | rfl | rfl | rfl | rfl
      · exact ⟨S0, kt0_2⟩
      · exact ⟨S1, kt1_2⟩
      · exact ⟨S2, kt2_2⟩
      · exact ⟨S3, kt3_2⟩
      · exact ⟨S4, kt4_2⟩
      · exact ⟨S5, kt5_2⟩
      · exact ⟨S6, kt6_2⟩
    · refine ⟨.ref C5, .ref C5, .inl (PySem.W.mg_of X G aC5), by decide +kernel, rfl, fun u h => h, fun c hc => ?_⟩
      have hc : c ∈ mo.ec := by simpa using hc
      simp only [mo, List.mem_cons, List.not_mem_nil, or_false] at hc
      rcases hc with rfl | rfl | rfl | rfl | rfl | rfl | rfl
      · exact ⟨S0, kt0_5⟩
      · exact ⟨S1, kt1_5⟩
      · exact ⟨S2, kt2_5⟩
      · exact ⟨S3, kt3_5⟩
      · exact ⟨S4, kt4_5⟩
      · exact ⟨S5, kt5_5⟩
      · exact ⟨S6, kt6_5⟩
    · refine ⟨.ref C3, .ref C3, .inl (PySem.W.mg_of X G aC3), by decide +kernel, rfl, fun u h => h, fun c hc => ?_⟩
      have hc : c ∈ mo.ec := by simpa using hc
      simp only [mo, List.mem_cons, List.not_mem_nil, or_false] at hc
      rcases hc with rfl | rfl | rfl | rfl | rfl | rfl | rfl
      · exact ⟨S0, kt0_3⟩
      · exact ⟨S1, kt1_3⟩
      · exact ⟨S2, kt2_3⟩
      · exact ⟨S3, kt3_3⟩
      · exact ⟨S4, kt4_3⟩
      · exact ⟨S5, kt5_3⟩
      · exact ⟨S6, kt6_3⟩
    · refine ⟨.ty "ValueError", .type "ValueError", .inr ⟨PySem.W.mg_none_of X G zVE, by decide +kernel, by decide +kernel⟩, by decide +kernel, rfl, fun u h => h, fun c hc => ?_⟩
      have hc : c ∈ mo.ec := by simpa using hc
      simp only [mo, List.mem_cons, List.not_mem_nil, or_false] at hc
      rcases hc with rfl | rfl | rfl | rfl | rfl | rfl | rfl
      · exact ⟨S0, kt0_VE⟩
      · exact ⟨S1, kt1_VE⟩
      · exact ⟨S2, kt2_VE⟩
      · exact ⟨S3, kt3_VE⟩
      · exact ⟨S4, kt4_VE⟩
      · exact ⟨S5, kt5_VE⟩
      · exact ⟨S6, kt6_VE⟩
  have her : ∀ (x : Str) (f : Nat), mo.er.lookup x = some f → ∃ (e : Ent) (c : Nat) (fI : Addr) (fd : FuncData) (fs : List (Str × Nat)), tab[f]? = some e ∧ e.kd = .err c fs ∧ mg x = some (.ref (GG.cl c)) ∧ OexC GG.K (GG.cl c) ∧ PySem.W.findIn GG.K (.ref (GG.cl c)) "__init__" = some (some (.ref fI)) ∧ PySem.W.typeIn GG.K (.ref fI) = some (.type "function") ∧ Binds GG.K fd e.ps [] ∧ ∀ w base, FnOk l.prog w GG.K mg base (L2.CX l.prog w) 1 fI fd e.ps (spX (GG.cl c) fs e.ps.length) := by
    intro x f hx
    have hx := lk_mem hx
    simp only [mo, List.mem_cons, List.not_mem_nil, or_false, Prod.mk.injEq] at hx
    rcases hx with ⟨rfl, rfl⟩ | ⟨rfl, rfl⟩ | ⟨rfl, rfl⟩ | ⟨rfl, rfl⟩ | ⟨rfl, rfl⟩ | ⟨rfl, rfl⟩
    · exact ⟨_, 1, J1, _, _, rfl, rfl, PySem.W.mg_of X G aC1, X1.ox, X1.fi, X1.ti, Y1, X1.fn⟩
    · exact ⟨_, 2, J2, _, _, rfl, rfl, PySem.W.mg_of X G aC2, X2.ox, X2.fi, X2.ti, Y2, X2.fn⟩
    · exact ⟨_, 3, J3, _, _, rfl, rfl, PySem.W.mg_of X G aC3, X3.ox, X3.fi, X3.ti, Y3, X3.fn⟩
    · exact ⟨_, 4, J4, _, _, rfl, rfl, PySem.W.mg_of X G aC4, X4.ox, X4.fi, X4.ti, Y4, X4.fn⟩
    · exact ⟨_, 5, J5, _, _, rfl, rfl, PySem.W.mg_of X G aC5, X5.ox, X5.fi, X5.ti, Y5, X5.fn⟩
    · exact ⟨_, 6, J6, _, _, rfl, rfl, PySem.W.mg_of X G aC6, X6.ox, X6.fi, X6.ti, Y6, X6.fn⟩
  have her0 : ∀ (x : Str) (c : Nat), mo.er0.lookup x = some c → RsK GG mg c x := by
    intro x c hx
    have hx := lk_mem hx
    simp only [mo, List.mem_cons, List.not_mem_nil, or_false, Prod.mk.injEq] at hx
  have hhw : ∀ (x : Str) (f : Nat), mo.hnw.lookup x = some f → ∃ e fa, tab[f]? = some e ∧ e.kd = .hot ∧ mg x = some (.ref fa) ∧ EntAt GG.K e fa := by
    intro x f hx
    have hx := lk_mem hx
    simp only [mo, List.mem_cons, List.not_mem_nil, or_false, Prod.mk.injEq] at hx
  have hgk : ∀ (x s : Str), mo.gk.lookup x = some s → ∃ u, mg x = some u ∧ RelV (.str s) u := by
    intro x s hx
    have hx := lk_mem hx
    simp only [mo, List.mem_cons, List.not_mem_nil, or_false, Prod.mk.injEq] at hx
    rcases hx with ⟨rfl, rfl⟩ | ⟨rfl, rfl⟩
    · exact ⟨_, PySem.W.mg_of X G gk0, _, rfl⟩
    · exact ⟨_, PySem.W.mg_of X G gk1, _, rfl⟩
  have hli : mo.lp ≠ [] → ∀ c, mo.lc.contains c = true → ∃ (fi : Addr) (fd : FuncData) (ps : List Str), ItT GG.K (GG.cl c) fi ∧ (∀ w base, FnE l.prog w GG.K mg base false 1 fi fd ps (spIt (GG.cl c) mo.lf)) ∧ Binds GG.K fd ps [] := fun h => absurd rfl h
  have t : TabAt l.prog GG mg mo tab mu := ⟨hok, hb, hgc, hfs, hnw, hme, hfl, rfl, hics, hoq, hoa, hcv, hhd, hxf, hxi, her, her0, hhw, hli, hgk⟩
  refine ⟨GG.cl, PySem.W.fnOf "law" "law" (defArgs (topS 27)) (defBody (topS 27)) (defScope (topS 27)) .none kV15 dc15 pm15 an15 cd15 ct15, fun s v => .of_eq rfl, fun base _ _ => ?_⟩
  exact (tab_ok (P := l.prog) (w := w) (base := base) t 10).1 15 e_law _ _ rfl rfl F15
end K03
open PySem PySem.W PyProof.Rows
set_option maxHeartbeats 0 in
theorem PySem.Challenge.cw_everyfuture_k03_gauges_and_readings_holds : PySem.Challenge.rw_everyfuture_k03_gauges_and_readings.Holds := by
  w_on; o_law; k_head; (case hw => w_witness2)
  k_fill
  refine EG.walkE (l := PySem.Challenge.rw_everyfuture_k03_gauges_and_readings) (n := 63) (k := 3 * 10) (x := "_law_script") (φ := EG.callD (K03.tab.map EG.Ent.df) K03.mu 10 15) rfl (by decide) rfl ⟨by decide, by decide, rfl⟩ (fun w h Y => PySem.W.kIn_of Y) K03.main ?F
  case F =>
    intro w mg fa h KX G hmg
    refine' K03.all_mk (l := PySem.Challenge.rw_everyfuture_k03_gauges_and_readings) KX G hmg ?aC0 ?aC1 ?aC2 ?aC3 ?aC4 ?aC5 ?aC6 ?a0 ?a1 ?a2 ?a3 ?a4 ?a5 ?a6 ?a7 ?a8 ?a9 ?a10 ?a11 ?a12 ?a13 ?a14 ?a15 ?l0 ?c0 ?k0 ?l1 ?c1 ?k1 ?l2 ?c2 ?k2 ?l3 ?c3 ?k3 ?l4 ?c4 ?k4 ?l5 ?c5 ?k5 ?l6 ?c6 ?k6 ?l7 ?c7 ?k7 ?l8 ?c8 ?k8 ?l9 ?c9 ?k9 ?l10 ?c10 ?k10 ?l11 ?c11 ?k11 ?l12 ?c12 ?k12 ?l13 ?c13 ?k13 ?l14 ?c14 ?k14 ?l15 ?c15 ?k15 ?gk0 ?gk1 ?z0 ?z1 ?z2 ?z3 ?z4 ?z5 ?z6 ?z7 ?z8 ?z9 ?z10 ?zVE ?zsu ?zno ?ztp ?zsp ?ztk ?ga0 ?gg0 ?eC0 ?hd0 ?ic0 ?tC0 ?ac0 ?mo0 ?nx0_gauge ?sb0_0 ?kt0_1 ?kt0_6 ?kt0_4 ?kt0_2 ?kt0_5 ?kt0_3 ?kt0_VE ?ga1 ?gg1 ?eC1 ?hd1 ?ic1 ?tC1 ?ac1 ?mo1 ?nx1_gauge ?sb1_0 ?kt1_1 ?kt1_6 ?kt1_4 ?kt1_2 ?kt1_5 ?kt1_3 ?kt1_VE ?xL1 ?sa1 ?kC1 ?fj1 ?tj1 ?li1 ?lc1 ?v21 ?vf1 ?ci1 ?cl1 ?al1 ?mm1 ?ve1 ?ga2 ?gg2 ?eC2 ?hd2 ?ic2 ?tC2 ?ac2 ?mo2 ?nx2_gauge ?sb2_0 ?kt2_1 ?kt2_6 ?kt2_4 ?kt2_2 ?kt2_5 ?kt2_3 ?kt2_VE ?xL2 ?sa2 ?kC2 ?fj2 ?tj2 ?li2 ?lc2 ?v22 ?vf2 ?ci2 ?cl2 ?al2 ?mm2 ?ve2 ?ga3 ?gg3 ?eC3 ?hd3 ?ic3 ?tC3 ?ac3 ?mo3 ?nx3_gauge ?sb3_0 ?kt3_1 ?kt3_6 ?kt3_4 ?kt3_2 ?kt3_5 ?kt3_3 ?kt3_VE ?xL3 ?sa3 ?kC3 ?fj3 ?tj3 ?li3 ?lc3 ?v23 ?vf3 ?ci3 ?cl3 ?al3 ?mm3 ?ve3 ?ga4 ?gg4 ?eC4 ?hd4 ?ic4 ?tC4 ?ac4 ?mo4 ?nx4_gauge ?sb4_0 ?kt4_1 ?kt4_6 ?kt4_4 ?kt4_2 ?kt4_5 ?kt4_3 ?kt4_VE ?xL4 ?sa4 ?kC4 ?fj4 ?tj4 ?li4 ?lc4 ?v24 ?vf4 ?ci4 ?cl4 ?al4 ?mm4 ?ve4 ?ga5 ?gg5 ?eC5 ?hd5 ?ic5 ?tC5 ?ac5 ?mo5 ?nx5_gauge ?sb5_0 ?kt5_1 ?kt5_6 ?kt5_4 ?kt5_2 ?kt5_5 ?kt5_3 ?kt5_VE ?xL5 ?sa5 ?kC5 ?fj5 ?tj5 ?li5 ?lc5 ?v25 ?vf5 ?ci5 ?cl5 ?al5 ?mm5 ?ve5 ?ga6 ?gg6 ?eC6 ?hd6 ?ic6 ?tC6 ?ac6 ?mo6 ?nx6_gauge ?sb6_0 ?kt6_1 ?kt6_6 ?kt6_4 ?kt6_2 ?kt6_5 ?kt6_3 ?kt6_VE ?xL6 ?sa6 ?kC6 ?fj6 ?tj6 ?li6 ?lc6 ?v26 ?vf6 ?ci6 ?cl6 ?al6 ?mm6 ?ve6
    (case aC0 => k_is)
    (case aC1 => k_is)
    (case aC2 => k_is)
    (case aC3 => k_is)
    (case aC4 => k_is)
    (case aC5 => k_is)
    (case aC6 => k_is)
    (case a0 => k_is)
    (case a1 => k_is)
    (case a2 => k_is)
    (case a3 => k_is)
    (case a4 => k_is)
    (case a5 => k_is)
    (case a6 => k_is)
    (case a7 => k_is)
    (case a8 => k_is)
    (case a9 => k_is)
    (case a10 => k_is)
    (case a11 => k_is)
    (case a12 => k_is)
    (case a13 => k_is)
    (case a14 => k_is)
    (case a15 => k_is)
    (case l0 => k_is)
    (case c0 => k_is)
    (case k0 => k_is)
    (case l1 => k_is)
    (case c1 => k_is)
    (case k1 => k_is)
    (case l2 => k_is)
    (case c2 => k_is)
    (case k2 => k_is)
    (case l3 => k_is)
    (case c3 => k_is)
    (case k3 => k_is)
    (case l4 => k_is)
    (case c4 => k_is)
    (case k4 => k_is)
    (case l5 => k_is)
    (case c5 => k_is)
    (case k5 => k_is)
    (case l6 => k_is)
    (case c6 => k_is)
    (case k6 => k_is)
    (case l7 => k_is)
    (case c7 => k_is)
    (case k7 => k_is)
    (case l8 => k_is)
    (case c8 => k_is)
    (case k8 => k_is)
    (case l9 => k_is)
    (case c9 => k_is)
    (case k9 => k_is)
    (case l10 => k_is)
    (case c10 => k_is)
    (case k10 => k_is)
    (case l11 => k_is)
    (case c11 => k_is)
    (case k11 => k_is)
    (case l12 => k_is)
    (case c12 => k_is)
    (case k12 => k_is)
    (case l13 => k_is)
    (case c13 => k_is)
    (case k13 => k_is)
    (case l14 => k_is)
    (case c14 => k_is)
    (case k14 => k_is)
    (case l15 => k_is)
    (case c15 => k_is)
    (case k15 => k_is)
    (case gk0 => k_is)
    (case gk1 => k_is)
    (case z0 => k_is)
    (case z1 => k_is)
    (case z2 => k_is)
    (case z3 => k_is)
    (case z4 => k_is)
    (case z5 => k_is)
    (case z6 => k_is)
    (case z7 => k_is)
    (case z8 => k_is)
    (case z9 => k_is)
    (case z10 => k_is)
    (case zVE => k_is)
    (case zsu => k_is)
    (case zno => k_is)
    (case ztp => kernel_rfl)
    (case zsp => k_is)
    (case ztk => k_is)
    (case ga0 => k_is)
    (case gg0 => k_is)
    (case eC0 => k_is)
    (case hd0 => k_is)
    (case ic0 => k_is)
    (case tC0 => k_is)
    (case ac0 => k_is)
    (case mo0 => k_is)
    (case nx0_gauge => k_is)
    (case sb0_0 => first | rfl | k_is)
    (case kt0_1 => kit_is)
    (case kt0_6 => kit_is)
    (case kt0_4 => kit_is)
    (case kt0_2 => kit_is)
    (case kt0_5 => kit_is)
    (case kt0_3 => kit_is)
    (case kt0_VE => kit_is)
    (case ga1 => k_is)
    (case gg1 => k_is)
    (case eC1 => k_is)
    (case hd1 => k_is)
    (case ic1 => k_is)
    (case tC1 => k_is)
    (case ac1 => k_is)
    (case mo1 => k_is)
    (case nx1_gauge => k_is)
    (case sb1_0 => first | rfl | k_is)
    (case kt1_1 => kit_is)
    (case kt1_6 => kit_is)
    (case kt1_4 => kit_is)
    (case kt1_2 => kit_is)
    (case kt1_5 => kit_is)
    (case kt1_3 => kit_is)
    (case kt1_VE => kit_is)
    (case xL1 => k_is)
    (case sa1 => k_is)
    (case kC1 => k_is)
    (case fj1 => k_is)
    (case tj1 => k_is)
    (case li1 => k_is)
    (case lc1 => k_is)
    (case v21 => rfl)
    (case vf1 => kernel_rfl)
    (case ci1 => k_is)
    (case cl1 => k_is)
    (case al1 => kernel_rfl)
    (case mm1 => first | rfl | k_is)
    (case ve1 => k_is)
    (case ga2 => k_is)
    (case gg2 => k_is)
    (case eC2 => k_is)
    (case hd2 => k_is)
    (case ic2 => k_is)
    (case tC2 => k_is)
    (case ac2 => k_is)
    (case mo2 => k_is)
    (case nx2_gauge => k_is)
    (case sb2_0 => first | rfl | k_is)
    (case kt2_1 => kit_is)
    (case kt2_6 => kit_is)
    (case kt2_4 => kit_is)
    (case kt2_2 => kit_is)
    (case kt2_5 => kit_is)
    (case kt2_3 => kit_is)
    (case kt2_VE => kit_is)
    (case xL2 => k_is)
    (case sa2 => k_is)
    (case kC2 => k_is)
    (case fj2 => k_is)
    (case tj2 => k_is)
    (case li2 => k_is)
    (case lc2 => k_is)
    (case v22 => rfl)
    (case vf2 => kernel_rfl)
    (case ci2 => k_is)
    (case cl2 => k_is)
    (case al2 => kernel_rfl)
    (case mm2 => first | rfl | k_is)
    (case ve2 => k_is)
    (case ga3 => k_is)
    (case gg3 => k_is)
    (case eC3 => k_is)
    (case hd3 => k_is)
    (case ic3 => k_is)
    (case tC3 => k_is)
    (case ac3 => k_is)
    (case mo3 => k_is)
    (case nx3_gauge => k_is)
    (case sb3_0 => first | rfl | k_is)
    (case kt3_1 => kit_is)
    (case kt3_6 => kit_is)
    (case kt3_4 => kit_is)
    (case kt3_2 => kit_is)
    (case kt3_5 => kit_is)
    (case kt3_3 => kit_is)
    (case kt3_VE => kit_is)
    (case xL3 => k_is)
    (case sa3 => k_is)
    (case kC3 => k_is)
    (case fj3 => k_is)
    (case tj3 => k_is)
    (case li3 => k_is)
    (case lc3 => k_is)
    (case v23 => rfl)
    (case vf3 => kernel_rfl)
    (case ci3 => k_is)
    (case cl3 => k_is)
    (case al3 => kernel_rfl)
    (case mm3 => first | rfl | k_is)
    (case ve3 => k_is)
    (case ga4 => k_is)
    (case gg4 => k_is)
    (case eC4 => k_is)
    (case hd4 => k_is)
    (case ic4 => k_is)
    (case tC4 => k_is)
    (case ac4 => k_is)
    (case mo4 => k_is)
    (case nx4_gauge => k_is)
    (case sb4_0 => first | rfl | k_is)
    (case kt4_1 => kit_is)
    (case kt4_6 => kit_is)
    (case kt4_4 => kit_is)
    (case kt4_2 => kit_is)
    (case kt4_5 => kit_is)
    (case kt4_3 => kit_is)
    (case kt4_VE => kit_is)
    (case xL4 => k_is)
    (case sa4 => k_is)
    (case kC4 => k_is)
    (case fj4 => k_is)
    (case tj4 => k_is)
    (case li4 => k_is)
    (case lc4 => k_is)
    (case v24 => rfl)
    (case vf4 => kernel_rfl)
    (case ci4 => k_is)
    (case cl4 => k_is)
    (case al4 => kernel_rfl)
    (case mm4 => first | rfl | k_is)
    (case ve4 => k_is)
    (case ga5 => k_is)
    (case gg5 => k_is)
    (case eC5 => k_is)
    (case hd5 => k_is)
    (case ic5 => k_is)
    (case tC5 => k_is)
    (case ac5 => k_is)
    (case mo5 => k_is)
    (case nx5_gauge => k_is)
    (case sb5_0 => first | rfl | k_is)
    (case kt5_1 => kit_is)
    (case kt5_6 => kit_is)
    (case kt5_4 => kit_is)
    (case kt5_2 => kit_is)
    (case kt5_5 => kit_is)
    (case kt5_3 => kit_is)
    (case kt5_VE => kit_is)
    (case xL5 => k_is)
    (case sa5 => k_is)
    (case kC5 => k_is)
    (case fj5 => k_is)
    (case tj5 => k_is)
    (case li5 => k_is)
    (case lc5 => k_is)
    (case v25 => rfl)
    (case vf5 => kernel_rfl)
    (case ci5 => k_is)
    (case cl5 => k_is)
    (case al5 => kernel_rfl)
    (case mm5 => first | rfl | k_is)
    (case ve5 => k_is)
    (case ga6 => k_is)
    (case gg6 => k_is)
    (case eC6 => k_is)
    (case hd6 => k_is)
    (case ic6 => k_is)
    (case tC6 => k_is)
    (case ac6 => k_is)
    (case mo6 => k_is)
    (case nx6_gauge => k_is)
    (case sb6_0 => first | rfl | k_is)
    (case kt6_1 => kit_is)
    (case kt6_6 => kit_is)
    (case kt6_4 => kit_is)
    (case kt6_2 => kit_is)
    (case kt6_5 => kit_is)
    (case kt6_3 => kit_is)
    (case kt6_VE => kit_is)
    (case xL6 => k_is)
    (case sa6 => k_is)
    (case kC6 => k_is)
    (case fj6 => k_is)
    (case tj6 => k_is)
    (case li6 => k_is)
    (case lc6 => k_is)
    (case v26 => rfl)
    (case vf6 => kernel_rfl)
    (case ci6 => k_is)
    (case cl6 => k_is)
    (case al6 => kernel_rfl)
    (case mm6 => first | rfl | k_is)
    (case ve6 => k_is)
